import PyProof.Rows.All
import Wide.All
import OpenK.AllK
import Wide.FinOn
import HandS.ForMost
import HandS.Walk
import HandS.IsInst
import HandS.Deep
import HandS.Wide
import HandS.Flow
import HandS.TupAny
import HandS.Style
import HandS.More
import HandS.Replace
import KE.DataMinMax
import KE.SortData
import PyProof.Claim2Refuses
import HandS.Conv
import PyProof.Draws
import HandS.SetFor
import HandS.Zip
import KE.GoesEnum
import PyProof.CollectStr
import HandS.StrMore
import PyProof.Rows.IntBool
import PyProof.StrBlock2
import HandS.Exc
import HandS.ExcOwn
import HandS.WordsExc
import HandS.ExcIs
import KE.RegKIsAll
import PyProof.ExcBaseAll.ValueError
import HandS.ReplaceLit
import KE.GoesZip
import KE.GoesMore
import HandS.Dict
import HandS.OwnEq
import PyProof.InstNe
import KE.KAssignIn
import HandS.Nested
import HandS.HotCalls
import HandS.EndTab
import KE.KNest
import PySem.Challenge.RW_fourarms_k26_errors
set_option Elab.async false
set_option linter.all false
set_option maxRecDepth 100000
set_option maxHeartbeats 4000000
namespace DL
open PySem PySem.Spec PyProof.Rows L2

/-! ### heaps -/
def Ex (H H' : Hp) : Prop := ∀ a o, H a = some o → H' a = some o
theorem Ex.refl {H : Hp} : Ex H H := fun _ _ h => h
theorem Ex.trans {H H1 H2 : Hp} (a : Ex H H1) (b : Ex H1 H2) : Ex H H2 := fun x o h => b x o (a x o h)
theorem Ex.new {H : Hp} {p : Addr} {o : HO} (h : H p = none) : Ex H (upd H p o) := fun a u e => by
  rw [upd_ne (ne_of_none e h)]; exact e
theorem Ex.back {H H' : Hp} {p : Addr} (e : Ex H H') (h : H' p = none) : H p = none := by
  cases q : H p with
  | none => rfl
  | some o => rw [e p o q] at h; cases h
theorem Ex.rd {H H' : Hp} {a : Addr} {u : HO} (e : Ex H H') (h : Rd H a u) : Rd H' a u := by
  rcases h with h | ⟨o, h⟩
  · exact .inl (e _ _ h)
  · exact .inr ⟨o, e _ _ h⟩
theorem Ex.sqL {K : PySem.W.Frag} {H H' : Hp} {a : Addr} {xs : List V} (e : Ex H H') (h : SqL K H a xs) : SqL K H' a xs := h.imp e.rd id
theorem Ex.sqT {K : PySem.W.Frag} {H H' : Hp} {a : Addr} {xs : List V} (e : Ex H H') (h : SqT K H a xs) : SqT K H' a xs := h.imp e.rd id
mutual
/-- data in the heap: lists are tracked (or locked) -/
inductive Dq (K : PySem.W.Frag) (H : Hp) : L2.V → PyData → Prop
  | non : Dq K H .non .none
  | bl (b : Bool) : Dq K H (.bl b) (.bool b)
  | int (i : Int) : Dq K H (.int i) (.int i)
  | str (x : Str) : Dq K H (.str x) (.str x)
  | lst {a : Addr} {xs : List L2.V} {ds : List PyData} : Rd H a (.lst xs) → DqAll K H xs ds → Dq K H (.ref a) (.list ds)
  | tup {a : Addr} {xs : List L2.V} {ds : List PyData} : SqT K H a xs → DqAll K H xs ds → Dq K H (.ref a) (.tuple ds)
  /-- a list of anyone's (the script), told apart from the others -/
  | lk {a : Addr} {xs : List L2.V} {ds : List PyData} : SqL K H a xs → DqAll K H xs ds → Dq K H (.ref a) (.dict [(.list ds, .none)])
inductive DqAll (K : PySem.W.Frag) (H : Hp) : List L2.V → List PyData → Prop
  | nil : DqAll K H [] []
  | cons {v : L2.V} {vs : List L2.V} {d : PyData} {ds : List PyData} : Dq K H v d → DqAll K H vs ds → DqAll K H (v :: vs) (d :: ds)
end
mutual
def noLk : PyData → Bool
  | .list xs => noLkAll xs
  | .tuple xs => noLkAll xs
  | .dict _ => false
  | _ => true
def noLkAll : List PyData → Bool
  | [] => true
  | x :: xs => noLk x && noLkAll xs
end
mutual
theorem noLk_of : ∀ (d : PyData), d.canLay0 = true → noLk d = true
  | .none, _ => by simp [noLk]
  | .bool _, _ => by simp [noLk]
  | .int _, _ => by simp [noLk]
  | .str _, _ => by simp [noLk]
  | .list xs, h => by
    rw [noLk]
    exact noLkAll_of xs (by simpa [PyData.canLay0] using h)
  | .tuple xs, h => by
    rw [noLk]
    exact noLkAll_of xs (by simpa [PyData.canLay0] using h)
  | .dict _, h => by simp [PyData.canLay0] at h
theorem noLkAll_of : ∀ (ds : List PyData), PyData.canLayAll0 ds = true → noLkAll ds = true
  | [], _ => by simp [noLkAll]
  | x :: xs, h => by
    rw [PyData.canLayAll0, Bool.and_eq_true] at h
    rw [noLkAll, noLk_of x h.1, noLkAll_of xs h.2]
    rfl
end
mutual
theorem Dq.dp {K : PySem.W.Frag} {H : Hp} : ∀ {v : V} {d : PyData}, Dq K H v d → noLk d = true → Dp K H v d
  | _, _, .non, _ => .non
  | _, _, .bl b, _ => .bl b
  | _, _, .int b, _ => .int b
  | _, _, .str b, _ => .str b
  | _, _, .lst s a, h => .lst (.inl s) (DqAll.dp a (by simpa [noLk] using h))
  | _, _, .tup s a, h => .tup s (DqAll.dp a (by simpa [noLk] using h))
  | _, _, .lk _ _, h => by simp [noLk] at h
theorem DqAll.dp {K : PySem.W.Frag} {H : Hp} : ∀ {v : List V} {d : List PyData}, DqAll K H v d → noLkAll d = true → DpAll K H v d
  | _, _, .nil, _ => .nil
  | _, _, .cons a b, h => by
    rw [noLkAll, Bool.and_eq_true] at h
    exact .cons (Dq.dp a h.1) (DqAll.dp b h.2)
end
mutual
theorem dp_mono {K : PySem.W.Frag} {H H' : Hp} (e : Ex H H') : ∀ {v : V} {d : PyData}, Dq K H v d → Dq K H' v d
  | _, _, .non => .non
  | _, _, .bl b => .bl b
  | _, _, .int b => .int b
  | _, _, .str b => .str b
  | _, _, .lst s a => .lst (e.rd s) (da_mono e a)
  | _, _, .tup s a => .tup (e.sqT s) (da_mono e a)
  | _, _, .lk s a => .lk (e.sqL s) (da_mono e a)
theorem da_mono {K : PySem.W.Frag} {H H' : Hp} (e : Ex H H') : ∀ {v : List V} {d : List PyData}, DqAll K H v d → DqAll K H' v d
  | _, _, .nil => .nil
  | _, _, .cons a b => .cons (dp_mono e a) (da_mono e b)
end
/-- growth: V the frozen part of H -/
structure Gr (V H V' H' : Hp) : Prop where
  v : Ex V V'
  h : Ex H H'
  sub : Ex V' H'
  nw : ∀ p, V p = none → H p ≠ none → V' p = none
  nf : ∀ p o u, V' p = some (.frz o u) → V p = some (.frz o u)
theorem Gr.refl {V H : Hp} (s : Ex V H) : Gr V H V H := ⟨.refl, .refl, s, fun _ h _ => h, fun _ _ _ h => h⟩
theorem Gr.trans {V H V1 H1 V2 H2 : Hp} (a : Gr V H V1 H1) (b : Gr V1 H1 V2 H2) : Gr V H V2 H2 :=
  ⟨a.v.trans b.v, a.h.trans b.h, b.sub, fun p h1 h2 => b.nw p (a.nw p h1 h2) fun z => h2 (a.h.back z), fun p o u h => a.nf p o u (b.nf p o u h)⟩
/-- a new object, frozen at once -/
theorem Gr.laid {V H : Hp} {p : Addr} {o : HO} (s : Ex V H) (n : H p = none) (hn : ∀ o' u, o ≠ .frz o' u := by intro _ _ h; cases h) : Gr V H (upd V p o) (upd H p o) where
  v := Ex.new (s.back n)
  h := Ex.new n
  sub := fun a u e => by
    by_cases q : a = p
    · subst q; rw [upd_same] at e ⊢; exact e
    · rw [upd_ne q] at e ⊢; exact s a u e
  nw := fun q h1 h2 => by rw [upd_ne (show q ≠ p from fun z => h2 (by rw [z]; exact n))]; exact h1
  nf := fun q o' u e => by
    by_cases k : q = p
    · subst k; rw [upd_same] at e; exact absurd (Option.some.inj e) (hn o' u)
    · rw [upd_ne k] at e; exact e
/-- a new object, not frozen -/
theorem Gr.held {V H : Hp} {p : Addr} {o : HO} (s : Ex V H) (n : H p = none) : Gr V H V (upd H p o) :=
  ⟨.refl, Ex.new n, s.trans (Ex.new n), fun q h1 _ => h1, fun _ _ _ h => h⟩
/-- freezing what is new -/
theorem Gr.freeze {V H V' H' : Hp} {p : Addr} {o : HO} (g : Gr V H V' H') (n : H p = none) (h : H' p = some o) (hv : V' p = none) (hn : ∀ o' u, o ≠ .frz o' u := by intro _ _ h; cases h) : Gr V H (upd V' p o) H' where
  v := g.v.trans (Ex.new hv)
  h := g.h
  sub := fun a u e => by
    by_cases q : a = p
    · subst q; rw [upd_same] at e; cases e; exact h
    · rw [upd_ne q] at e; exact g.sub a u e
  nw := fun q h1 h2 => by rw [upd_ne (show q ≠ p from fun z => h2 (by rw [z]; exact n))]; exact g.nw q h1 h2
  nf := fun q o' u e => by
    by_cases k : q = p
    · subst k; rw [upd_same] at e; exact absurd (Option.some.inj e) (hn o' u)
    · rw [upd_ne k] at e; exact g.nf q o' u e

theorem da_len {K : PySem.W.Frag} {H : Hp} : ∀ {vs : List V} {ds : List PyData}, DqAll K H vs ds → vs.length = ds.length
  | _, _, .nil => rfl
  | _, _, .cons _ b => by simp [da_len b]
theorem da_get {K : PySem.W.Frag} {H : Hp} : ∀ {vs : List V} {ds : List PyData} {i : Nat} {d : PyData}, DqAll K H vs ds → ds[i]? = some d → ∃ v, vs[i]? = some v ∧ Dq K H v d
  | _, _, _, _, .nil, h => by simp at h
  | _, _, 0, _, .cons a _, h => by simp at h; subst h; exact ⟨_, rfl, a⟩
  | _, _, i + 1, _, .cons _ b, h => by
    obtain ⟨v, h1, h2⟩ := da_get (i := i) b (by simpa using h)
    exact ⟨v, by simpa using h1, h2⟩
theorem da_getv {K : PySem.W.Frag} {H : Hp} : ∀ {vs : List V} {ds : List PyData} {i : Nat} {v : V}, DqAll K H vs ds → vs[i]? = some v → ∃ d, ds[i]? = some d ∧ Dq K H v d
  | _, _, _, _, .nil, h => by simp at h
  | _, _, 0, _, .cons a _, h => by simp at h; subst h; exact ⟨_, rfl, a⟩
  | _, _, i + 1, _, .cons _ b, h => by
    obtain ⟨v, h1, h2⟩ := da_getv (i := i) b (by simpa using h)
    exact ⟨v, by simpa using h1, h2⟩
theorem da_app {K : PySem.W.Frag} {H : Hp} : ∀ {vs us : List V} {ds es : List PyData}, DqAll K H vs ds → DqAll K H us es → DqAll K H (vs ++ us) (ds ++ es)
  | _, _, _, _, .nil, h => h
  | _, _, _, _, .cons a b, h => .cons a (da_app b h)
theorem da_take {K : PySem.W.Frag} {H : Hp} : ∀ {vs : List V} {ds : List PyData} (n : Nat), DqAll K H vs ds → DqAll K H (vs.take n) (ds.take n)
  | _, _, 0, _ => .nil
  | _, _, _ + 1, .nil => .nil
  | _, _, n + 1, .cons a b => .cons a (da_take n b)
theorem da_drop {K : PySem.W.Frag} {H : Hp} : ∀ {vs : List V} {ds : List PyData} (n : Nat), DqAll K H vs ds → DqAll K H (vs.drop n) (ds.drop n)
  | _, _, 0, h => h
  | _, _, _ + 1, .nil => .nil
  | _, _, n + 1, .cons _ b => da_drop n b
theorem da_set {K : PySem.W.Frag} {H : Hp} {v : V} {d : PyData} (h : Dq K H v d) : ∀ {vs : List V} {ds : List PyData} (n : Nat), DqAll K H vs ds → DqAll K H (vs.set n v) (ds.set n d)
  | _, _, _, .nil => .nil
  | _, _, 0, .cons _ b => .cons h b
  | _, _, n + 1, .cons a b => .cons a (da_set h n b)
theorem da_ints {K : PySem.W.Frag} {H : Hp} : ∀ (ns : List Int), DqAll K H (ns.map V.int) (ns.map PyData.int)
  | [] => .nil
  | n :: r => .cons (.int n) (da_ints r)
theorem da_strs {K : PySem.W.Frag} {H : Hp} : ∀ (ns : List Str), DqAll K H (ns.map V.str) (ns.map PyData.str)
  | [] => .nil
  | n :: r => .cons (.str n) (da_strs r)
/-! ### reading data back -/
def asInts : List PyData → Option (List Int)
  | [] => some []
  | .int i :: r => (asInts r).map (i :: ·)
  | _ => none
def asStrs : List PyData → Option (List Str)
  | [] => some []
  | .str i :: r => (asStrs r).map (i :: ·)
  | _ => none
def asBools : List PyData → Option (List Bool)
  | [] => some []
  | .bool i :: r => (asBools r).map (i :: ·)
  | _ => none
theorem da_asInts {K : PySem.W.Frag} {H : Hp} : ∀ {vs : List V} {ds : List PyData} {ns : List Int}, DqAll K H vs ds → asInts ds = some ns → vs = ns.map V.int
  | _, _, _, .nil, h => by simp [asInts] at h; subst h; rfl
  | _, _, _, .cons (d := d) (ds := ds) a b, h => by
    cases a <;> simp [asInts] at h
    obtain ⟨m, h1, rfl⟩ := h
    simp [da_asInts b h1]
theorem da_asStrs {K : PySem.W.Frag} {H : Hp} : ∀ {vs : List V} {ds : List PyData} {ns : List Str}, DqAll K H vs ds → asStrs ds = some ns → vs = ns.map V.str
  | _, _, _, .nil, h => by simp [asStrs] at h; subst h; rfl
  | _, _, _, .cons (d := d) (ds := ds) a b, h => by
    cases a <;> simp [asStrs] at h
    obtain ⟨m, h1, rfl⟩ := h
    simp [da_asStrs b h1]
theorem da_asBools {K : PySem.W.Frag} {H : Hp} : ∀ {vs : List V} {ds : List PyData} {ns : List Bool}, DqAll K H vs ds → asBools ds = some ns → vs = ns.map V.bl
  | _, _, _, .nil, h => by simp [asBools] at h; subst h; rfl
  | _, _, _, .cons (d := d) (ds := ds) a b, h => by
    cases a <;> simp [asBools] at h
    obtain ⟨m, h1, rfl⟩ := h
    simp [da_asBools b h1]

/-! ### the slots as data -/
/-- a field of an object -/
inductive Fv where
  | d (x : PyData)
  | own (xs : List PyData)
inductive Sl where
  | un
  | d (x : PyData)
  | own (xs : List PyData)
  | dk (kvs : List (Int × PyData))
  /-- an object (an: bound to the slot's address) -/
  | ob (an : Bool) (c : Str) (fs : List (Str × Fv))
  /-- an own list, bound to the slot's address -/
  | owa (xs : List PyData)
  /-- the slot's address, owned elsewhere -/
  | pin
/-- what stands at the start and stays; the addresses that some slots are bound to; what no slot owns -/
structure Bs where
  h : Hp
  anc : Nat → Option Addr
  ex : Addr → Prop
instance : Coe Bs Hp := ⟨Bs.h⟩
def Bs.of (h : Hp) : Bs := ⟨h, fun _ => none, fun _ => False⟩
def Bs.out (B : Bs) (D : Addr) : Bs := { B with ex := fun p => B.ex p ∨ p = D }
inductive DkAll (K : PySem.W.Frag) (H : Hp) : List (Key × L2.V) → List (Int × PyData) → Prop
  | nil : DkAll K H [] []
  | cons {k : Int} {v : L2.V} {d : PyData} {vs : List (Key × L2.V)} {ds : List (Int × PyData)} : Dq K H v d → DkAll K H vs ds → DkAll K H ((.inl k, v) :: vs) ((k, d) :: ds)
inductive FsOk (K : PySem.W.Frag) (V H : Hp) : List (Str × L2.V) → List (Str × Fv) → (Addr → Prop) → Prop
  | nil : FsOk K V H [] [] (fun _ => False)
  | d {n : Str} {v : L2.V} {x : PyData} {gs : List (Str × L2.V)} {fs : List (Str × Fv)} {G : Addr → Prop} : Dq K V v x → FsOk K V H gs fs G → FsOk K V H ((n, v) :: gs) ((n, .d x) :: fs) G
  | own {n : Str} {p : Addr} {vs : List L2.V} {xs : List PyData} {gs : List (Str × L2.V)} {fs : List (Str × Fv)} {G : Addr → Prop} : H p = some (.lst vs) → DqAll K V vs xs → ¬ G p → FsOk K V H gs fs G → FsOk K V H ((n, .ref p) :: gs) ((n, .own xs) :: fs) (fun q => q = p ∨ G q)
/-- a slot's content, and what it owns -/
def Own (K : PySem.W.Frag) (V H : Hp) : Option L2.V → Sl → (Addr → Prop) → Prop
  | _, .un, F => ∀ p, ¬ F p
  | some v, .d x, F => Dq K V v x ∧ ∀ p, ¬ F p
  | some v, .own xs, F => ∃ p vs, v = .ref p ∧ H p = some (.lst vs) ∧ DqAll K V vs xs ∧ ∀ q, F q ↔ q = p
  | some v, .dk kvs, F => ∃ p vs, v = .ref p ∧ H p = some (.dK vs) ∧ DkAll K V vs kvs ∧ ∀ q, F q ↔ q = p
  | some v, .owa xs, F => ∃ p vs, v = .ref p ∧ H p = some (.lst vs) ∧ DqAll K V vs xs ∧ ∀ q, F q ↔ q = p
  | some v, .ob _ c fs, F => ∃ a C dx gs G, v = .ref a ∧ PySem.W.nsIn K mainGlobals c = some (some (.ref C)) ∧ H a = some (.ins C dx gs) ∧ H dx = some (.own a) ∧ a ≠ dx ∧ FsOk K V H gs fs G ∧ ¬ G a ∧ ¬ G dx ∧ ∀ q, F q ↔ (q = a ∨ q = dx ∨ G q)
  | some v, .pin, F => (∃ a, v = .ref a) ∧ ∀ p, ¬ F p
  | none, _, _ => False
def AncOk (o : Option Addr) (v : Option L2.V) : Sl → Prop
  | .pin => ∃ a, o = some a ∧ v = some (.ref a)
  | .owa _ => ∃ a, o = some a ∧ v = some (.ref a)
  | .ob true _ _ => ∃ a, o = some a ∧ v = some (.ref a)
  | _ => True
structure SlOk (K : PySem.W.Frag) (B : Bs) (i : Nat) (V H : Hp) (o : Option L2.V) (s : Sl) (F : Addr → Prop) : Prop where
  out : ∀ p, F p → V p = none ∧ B.h p = none ∧ ¬ B.ex p
  own : Own K V H o s F
  anc : AncOk (B.anc i) o s
theorem dk_mono {K : PySem.W.Frag} {H H' : Hp} (e : Ex H H') : ∀ {v : List (Key × L2.V)} {d : List (Int × PyData)}, DkAll K H v d → DkAll K H' v d
  | _, _, .nil => .nil
  | _, _, .cons a b => .cons (dp_mono e a) (dk_mono e b)
theorem FsOk.frame {K : PySem.W.Frag} {V H V' H' : Hp} (e : Ex V V') : ∀ {gs : List (Str × L2.V)} {fs : List (Str × Fv)} {G : Addr → Prop}, FsOk K V H gs fs G → (∀ p, G p → H' p = H p) → FsOk K V' H' gs fs G
  | _, _, _, .nil, _ => .nil
  | _, _, _, .d a b, k => .d (dp_mono e a) (b.frame e k)
  | _, _, _, .own a b c r, k => .own (by rw [k _ (.inl rfl)]; exact a) (da_mono e b) c (r.frame e fun p h => k p (.inr h))
theorem FsOk.live {K : PySem.W.Frag} {V H : Hp} : ∀ {gs : List (Str × L2.V)} {fs : List (Str × Fv)} {G : Addr → Prop}, FsOk K V H gs fs G → ∀ p, G p → H p ≠ none
  | _, _, _, .nil, _, h => h.elim
  | _, _, _, .d _ b, p, h => b.live p h
  | _, _, _, .own a _ _ r, p, h => h.elim (fun z => by rw [z, a]; simp) (r.live p)
/-- the content stays where nothing that it owns is changed -/
theorem Own.frame {K : PySem.W.Frag} {V H V' H' : Hp} {o : Option L2.V} {s : Sl} {F : Addr → Prop} (h : Own K V H o s F) (e : Ex V V') (k : ∀ p, F p → H' p = H p) : Own K V' H' o s F := by
  cases s with
  | un => cases o <;> exact h
  | d x =>
    cases o with
    | none => exact h
    | some v => exact ⟨dp_mono e h.1, h.2⟩
  | own xs =>
    cases o with
    | none => exact h
    | some v =>
      obtain ⟨p, vs, e1, h1, h2, h3⟩ := h
      exact ⟨p, vs, e1, by rw [k p ((h3 p).2 rfl)]; exact h1, da_mono e h2, h3⟩
  | owa xs =>
    cases o with
    | none => exact h
    | some v =>
      obtain ⟨p, vs, e1, h1, h2, h3⟩ := h
      exact ⟨p, vs, e1, by rw [k p ((h3 p).2 rfl)]; exact h1, da_mono e h2, h3⟩
  | dk xs =>
    cases o with
    | none => exact h
    | some v =>
      obtain ⟨p, vs, e1, h1, h2, h3⟩ := h
      exact ⟨p, vs, e1, by rw [k p ((h3 p).2 rfl)]; exact h1, dk_mono e h2, h3⟩
  | ob an c fs =>
    cases o with
    | none => exact h
    | some v =>
      obtain ⟨a, C, dx, gs, G, e1, hc, h1, h2, n, hf, g1, g2, h3⟩ := h
      exact ⟨a, C, dx, gs, G, e1, hc, by rw [k a ((h3 a).2 (.inl rfl))]; exact h1, by rw [k dx ((h3 dx).2 (.inr (.inl rfl)))]; exact h2, n, hf.frame e fun p h => k p ((h3 p).2 (.inr (.inr h))), g1, g2, h3⟩
  | pin => cases o <;> exact h
theorem Own.live {K : PySem.W.Frag} {V H : Hp} {o : Option L2.V} {s : Sl} {F : Addr → Prop} (h : Own K V H o s F) (p : Addr) (hp : F p) : H p ≠ none := by
  cases s with
  | un => exact absurd hp (h p)
  | d x =>
    cases o with
    | none => exact h.elim
    | some v => exact absurd hp (h.2 p)
  | own xs =>
    cases o with
    | none => exact h.elim
    | some v =>
      obtain ⟨q, vs, e1, h1, h2, h3⟩ := h
      cases (h3 p).1 hp
      rw [h1]; simp
  | owa xs =>
    cases o with
    | none => exact h.elim
    | some v =>
      obtain ⟨q, vs, e1, h1, h2, h3⟩ := h
      cases (h3 p).1 hp
      rw [h1]; simp
  | dk xs =>
    cases o with
    | none => exact h.elim
    | some v =>
      obtain ⟨q, vs, e1, h1, h2, h3⟩ := h
      cases (h3 p).1 hp
      rw [h1]; simp
  | ob an c fs =>
    cases o with
    | none => exact h.elim
    | some v =>
      obtain ⟨a, C, dx, gs, G, e1, hc, h1, h2, n, hf, g1, g2, h3⟩ := h
      rcases (h3 p).1 hp with z | z | z
      · rw [z, h1]; simp
      · rw [z, h2]; simp
      · exact hf.live p z
  | pin =>
    cases o with
    | none => exact h.elim
    | some v => exact absurd hp (h.2 p)
theorem Own.lst {K : PySem.W.Frag} {V H : Hp} {p : Addr} {vs : List L2.V} {xs : List PyData} (h : H p = some (.lst vs)) (d : DqAll K V vs xs) : Own K V H (some (.ref p)) (.own xs) (fun q => q = p) := ⟨p, vs, rfl, h, d, fun _ => Iff.rfl⟩
theorem Own.dat {K : PySem.W.Frag} {V H : Hp} {v : L2.V} {x : PyData} (d : Dq K V v x) : Own K V H (some v) (.d x) (fun _ => False) := ⟨d, fun _ z => z⟩
/-- the slots; nothing of S is owned by any of them -/
structure EnvA (K : PySem.W.Frag) (BV : Hp) (B : Bs) (V H : Hp) (σ : L2.St) (ρ : List Sl) (S : Addr → Prop) : Prop where
  fp : ∃ φ : Nat → Addr → Prop, (∀ (i : Nat) (s : Sl), ρ[i]? = some s → ∃ o, σ[i]? = some o ∧ SlOk K B i V H o s (φ i)) ∧ (∀ i j p, i ≠ j → φ i p → φ j p → False) ∧ ∀ i p, φ i p → i < ρ.length ∧ ¬ S p
  gr : Gr BV B.h V H
  xl : ∀ p, B.ex p → H p ≠ none
abbrev EnvD (K : PySem.W.Frag) (BV : Hp) (B : Bs) (V H : Hp) (σ : L2.St) (ρ : List Sl) : Prop := EnvA K BV B V H σ ρ fun _ => False
section
variable {K : PySem.W.Frag} {BV : Hp} {B B' : Bs} {V H V' H' : Hp} {σ : L2.St} {ρ : List Sl} {S S' : Addr → Prop}
theorem EnvA.sl (E : EnvA K BV B V H σ ρ S) (i : Nat) (s : Sl) (h : ρ[i]? = some s) : ∃ o, σ[i]? = some o ∧ ∃ F, SlOk K B i V H o s F := by
  obtain ⟨φ, h1, _, _⟩ := E.fp
  obtain ⟨o, h2, h3⟩ := h1 i s h
  exact ⟨o, h2, _, h3⟩
theorem SlOk.grow {i : Nat} {o : Option L2.V} {s : Sl} {F : Addr → Prop} (h : SlOk K B i V H o s F) (g : Gr V H V' H') : SlOk K B i V' H' o s F := by
  have k : ∀ p, F p → H' p = H p := fun p hp => by
    have hl := h.own.live p hp
    cases q : H p with
    | none => exact absurd q hl
    | some u => exact g.h p u q
  exact ⟨fun p hp => ⟨g.nw p (h.out p hp).1 (h.own.live p hp), (h.out p hp).2⟩, h.own.frame g.v k, h.anc⟩
theorem Ex.live (e : Ex H H') {p : Addr} (h : H p ≠ none) : H' p ≠ none := fun z => h (e.back z)
theorem EnvA.grow (E : EnvA K BV B V H σ ρ S) (g : Gr V H V' H') : EnvA K BV B V' H' σ ρ S := by
  obtain ⟨φ, h1, h2⟩ := E.fp
  exact ⟨⟨φ, fun i s h => by obtain ⟨o, a, b⟩ := h1 i s h; exact ⟨o, a, b.grow g⟩, h2⟩, E.gr.trans g, fun p hp => g.h.live (E.xl p hp)⟩
theorem EnvA.sub (E : EnvA K BV B V H σ ρ S) : Ex V H := E.gr.sub
theorem getN {α : Type} {l : List α} {i : Nat} {x : α} (h : l[i]? = some x) : i < l.length := by
  rcases Nat.lt_or_ge i l.length with z | z
  · exact z
  · rw [List.getElem?_eq_none z] at h; cases h
theorem get_set {α : Type} {l : List α} {i j : Nat} {x y : α} (h : (l.set i x)[j]? = some y) : (i = j ∧ i < l.length ∧ y = x) ∨ (i ≠ j ∧ l[j]? = some y) := by
  by_cases q : i = j
  · subst q
    have hl := getN h
    rw [List.length_set] at hl
    rw [List.getElem?_set_self hl] at h
    cases h
    exact .inl ⟨rfl, hl, rfl⟩
  · rw [List.getElem?_set_ne q] at h; exact .inr ⟨q, h⟩
theorem set_at {α : Type} {l : List α} {i : Nat} {x : α} (h : l[i]? = some x) : l.set i x = l := by
  apply List.ext_getElem?
  intro j
  by_cases q : i = j
  · subst q; rw [List.getElem?_set_self (getN h)]; exact h.symm
  · rw [List.getElem?_set_ne q]
theorem EnvA.lt (E : EnvA K BV B V H σ ρ S) {i : Nat} (h : i < ρ.length) : i < σ.length := by
  obtain ⟨o, h1, _⟩ := E.sl i _ (List.getElem?_eq_getElem h)
  exact getN h1
/-- what a slot owns -/
def Owned (H V : Hp) (B : Bs) (S : Addr → Prop) (p : Addr) : Prop := H p ≠ none ∧ V p = none ∧ B.h p = none ∧ ¬ B.ex p ∧ ¬ S p
/-- a slot anew: the others are kept -/
theorem mkEnv {φ : Nat → Addr → Prop} (h1 : ∀ (i : Nat) (s : Sl), ρ[i]? = some s → ∃ o, σ[i]? = some o ∧ SlOk K B i V H o s (φ i)) (h2 : (∀ i j p, i ≠ j → φ i p → φ j p → False) ∧ ∀ i p, φ i p → i < ρ.length ∧ ¬ S p)
    (i : Nat) {o : Option L2.V} {s : Sl} {F : Addr → Prop} (ok : SlOk K B' i V' H' o s F) (hd : ∀ j p, j ≠ i → φ j p → Owned H V B S p → ¬ F p) (hS : ∀ p, F p → ¬ S' p) (fr : ∀ j p, j ≠ i → φ j p → Owned H V B S p → H' p = H p ∧ V' p = none ∧ B'.h p = none ∧ ¬ B'.ex p ∧ ¬ S' p) (ha : ∀ j, j ≠ i → B'.anc j = B.anc j) (e : Ex V V') (g : Gr BV B'.h V' H') (hx : ∀ p, B'.ex p → H' p ≠ none) :
    EnvA K BV B' V' H' (σ.set i o) (ρ.set i s) S' := by
  have live : ∀ j p, φ j p → Owned H V B S p := fun j p hp => by
    obtain ⟨o', z, w⟩ := h1 j _ (List.getElem?_eq_getElem (h2.2 j p hp).1)
    exact ⟨w.own.live p hp, (w.out p hp).1, (w.out p hp).2.1, (w.out p hp).2.2, (h2.2 j p hp).2⟩
  refine ⟨⟨fun j p => if j = i then (F p ∧ i < ρ.length) else φ j p, fun j t e1 => ?_, fun j k p n a b => ?_, fun j p a => ?_⟩, g, hx⟩
  · rcases get_set e1 with ⟨rfl, hl, rfl⟩ | ⟨q, e1⟩
    · obtain ⟨o', z, _⟩ := h1 i _ (List.getElem?_eq_getElem hl)
      refine ⟨o, List.getElem?_set_self (getN z), ?_⟩
      have : (fun p => if i = i then (F p ∧ i < ρ.length) else φ i p) = F := by
        funext p
        rw [if_pos rfl]
        exact propext ⟨fun z => z.1, fun z => ⟨z, hl⟩⟩
      dsimp only
      rw [this]
      exact ok
    · obtain ⟨o', z, w⟩ := h1 j t e1
      refine ⟨o', by rw [List.getElem?_set_ne q]; exact z, ?_⟩
      have : (fun p => if j = i then (F p ∧ i < ρ.length) else φ j p) = φ j := by
        funext p
        rw [if_neg (Ne.symm q)]
      dsimp only
      rw [this]
      have f := fun p hp => fr j p (Ne.symm q) hp (live j p hp)
      exact ⟨fun p hp => ⟨(f p hp).2.1, (f p hp).2.2.1, (f p hp).2.2.2.1⟩, w.own.frame e fun p hp => (f p hp).1, by rw [ha j (Ne.symm q)]; exact w.anc⟩
  · have f : ∀ m, (if m = i then (F p ∧ i < ρ.length) else φ m p) → (m = i ∧ F p) ∨ (m ≠ i ∧ φ m p) := fun m z => by
      by_cases q : m = i
      · rw [if_pos q] at z; exact .inl ⟨q, z.1⟩
      · rw [if_neg q] at z; exact .inr ⟨q, z⟩
    have hd' := fun m n hp => hd m p n hp (live m p hp)
    rcases f j a with ⟨j1, j2⟩ | ⟨j1, j2⟩
    · rcases f k b with ⟨k1, k2⟩ | ⟨k1, k2⟩
      · exact n (j1.trans k1.symm)
      · exact hd' k k1 k2 j2
    · rcases f k b with ⟨k1, k2⟩ | ⟨k1, k2⟩
      · exact hd' j j1 j2 k2
      · exact h2.1 j k p n j2 k2
  · rw [List.length_set]
    dsimp only at a
    by_cases q : j = i
    · rw [if_pos q] at a; rw [q]; exact ⟨a.2, hS p a.1⟩
    · rw [if_neg q] at a; exact ⟨(h2.2 j p a).1, (fr j p q a (live j p a)).2.2.2.2⟩
/-- a slot set to data -/
theorem EnvA.set {v : L2.V} {d : PyData} (E : EnvA K BV B V H σ ρ S) (h : Dq K V v d) (i : Nat) : EnvA K BV B V H (σ.set i (some v)) (ρ.set i (.d d)) S := by
  obtain ⟨φ, h1, h2⟩ := E.fp
  exact mkEnv h1 h2 i (F := fun _ => False) ⟨fun _ z => z.elim, ⟨h, fun _ z => z⟩, trivial⟩ (fun _ _ _ _ _ z => z) (fun _ z => z.elim) (fun j p n hp a => ⟨rfl, a.2⟩) (fun _ _ => rfl) .refl E.gr E.xl
/-- a slot forgotten -/
theorem EnvA.unset (E : EnvA K BV B V H σ ρ S) (o : Option L2.V) (i : Nat) : EnvA K BV B V H (σ.set i o) (ρ.set i .un) S := by
  obtain ⟨φ, h1, h2⟩ := E.fp
  exact mkEnv h1 h2 i (F := fun _ => False) ⟨fun _ z => z.elim, by cases o <;> exact fun _ z => z, trivial⟩ (fun _ _ _ _ _ z => z) (fun _ z => z.elim) (fun j p n hp a => ⟨rfl, a.2⟩) (fun _ _ => rfl) .refl E.gr E.xl
def wipeD (ρ : List Sl) : List Nat → List Sl
  | [] => ρ
  | v :: vs => (wipeD ρ vs).set v .un
theorem EnvA.wipe (E : EnvA K BV B V H σ ρ S) : ∀ vs : List Nat, EnvA K BV B V H (L2.wipe σ vs) (wipeD ρ vs) S
  | [] => E
  | v :: vs => (E.wipe vs).unset none v
/-- what is not there is owned by no slot -/
theorem EnvA.fresh (E : EnvA K BV B V H σ ρ S) (h : ∀ p, S' p → H p = none) : EnvA K BV B V H σ ρ S' := by
  obtain ⟨φ, h1, h2, h3⟩ := E.fp
  refine ⟨⟨φ, h1, h2, fun i p hp => ⟨(h3 i p hp).1, fun z => ?_⟩⟩, E.gr, E.xl⟩
  obtain ⟨o, _, b⟩ := h1 i _ (List.getElem?_eq_getElem (h3 i p hp).1)
  exact b.own.live p hp (h p z)
theorem EnvA.weak (E : EnvA K BV B V H σ ρ S) (h : ∀ p, S' p → S p) : EnvA K BV B V H σ ρ S' := by
  obtain ⟨φ, h1, h2, h3⟩ := E.fp
  exact ⟨⟨φ, h1, h2, fun i p hp => ⟨(h3 i p hp).1, fun z => (h3 i p hp).2 (h p z)⟩⟩, E.gr, E.xl⟩
theorem EnvA.env (E : EnvA K BV B V H σ ρ S) : EnvD K BV B V H σ ρ := E.weak fun _ z => z.elim
/-- D stays out -/
theorem EnvA.out {D : Addr} (E : EnvA K BV B V H σ ρ fun p => p = D) (h : H D ≠ none) : EnvD K BV (B.out D) V H σ ρ := by
  obtain ⟨φ, h1, h2, h3⟩ := E.fp
  refine ⟨⟨φ, fun i s e => ?_, h2, fun i p hp => ⟨(h3 i p hp).1, fun z => z⟩⟩, E.gr, fun p z => z.elim (E.xl p) fun z => by rw [z]; exact h⟩
  obtain ⟨o, a, b⟩ := h1 i s e
  exact ⟨o, a, fun p hp => ⟨(b.out p hp).1, (b.out p hp).2.1, fun z => z.elim (b.out p hp).2.2 fun z => (h3 i p hp).2 z⟩, b.own, b.anc⟩
theorem EnvA.unout {D : Addr} (E : EnvA K BV (B.out D) V H σ ρ S) : EnvA K BV B V H σ ρ S := by
  obtain ⟨φ, h1, h2, h3⟩ := E.fp
  refine ⟨⟨φ, fun i s e => ?_, h2, h3⟩, E.gr, fun p z => E.xl p (.inl z)⟩
  obtain ⟨o, a, b⟩ := h1 i s e
  exact ⟨o, a, fun p hp => ⟨(b.out p hp).1, (b.out p hp).2.1, fun z => (b.out p hp).2.2 (.inl z)⟩, b.own, b.anc⟩
/-- what no slot owns is changed -/
theorem EnvA.pushD {D : Addr} {u : HO} (E : EnvA K BV B V H σ ρ S) (hB : B.h D = none) (hV : V D = none) (hx : B.ex D) : EnvA K BV B V (upd H D u) σ ρ S := by
  obtain ⟨φ, h1, h2⟩ := E.fp
  refine ⟨⟨φ, fun i s e => ?_, h2⟩, ⟨E.gr.v, fun a u z => ?_, fun a u z => ?_, E.gr.nw, E.gr.nf⟩, fun p hp => ?_⟩
  · obtain ⟨o, a, b⟩ := h1 i s e
    exact ⟨o, a, b.out, b.own.frame .refl fun p hp => upd_ne fun z => (b.out p hp).2.2 (by rw [z]; exact hx), b.anc⟩
  · rw [upd_ne (ne_of_none z hB)]; exact E.gr.h a u z
  · rw [upd_ne (ne_of_none z hV)]; exact E.sub a u z
  · by_cases q : p = D
    · rw [q, upd_same]; simp
    · rw [upd_ne q]; exact E.xl p hp
/-- not bound to the slot's address -/
def Sl.loose : Sl → Bool
  | .pin => false
  | .owa _ => false
  | .ob true _ _ => false
  | _ => true
theorem Sl.loose_anc {s : Sl} (h : s.loose = true) (a : Option Addr) (o : Option L2.V) : AncOk a o s := by
  cases s with
  | ob an c fs => cases an <;> first | trivial | cases h
  | pin => cases h
  | owa _ => cases h
  | _ => trivial
/-- a slot takes something of S -/
theorem EnvA.take {o : Option L2.V} {s : Sl} {F : Addr → Prop} (E : EnvA K BV B V H σ ρ S) (ok : Own K V H o s F) (hF : ∀ p, F p → S p ∧ V p = none ∧ B.h p = none ∧ ¬ B.ex p) (i : Nat) (ha : s.loose = true) :
    EnvA K BV B V H (σ.set i o) (ρ.set i s) fun p => S p ∧ ¬ F p := by
  obtain ⟨φ, h1, h2⟩ := E.fp
  refine mkEnv h1 h2 i (F := F) (V' := V) (H' := H) ⟨fun p hp => (hF p hp).2, ok, Sl.loose_anc ha _ _⟩ (fun j p n hp a hf => a.2.2.2.2 (hF p hf).1) (fun p hp z => z.2 hp) (fun j p n hp a => ⟨rfl, a.2.1, a.2.2.1, a.2.2.2.1, fun z => a.2.2.2.2 z.1⟩) (fun _ _ => rfl) .refl E.gr E.xl
theorem EnvA.setNew {o : Option L2.V} {s : Sl} {F : Addr → Prop} (E : EnvD K BV B V H σ ρ) (g : Gr V H V' H') (ok : Own K V' H' o s F) (hF : ∀ p, F p → H p = none ∧ V' p = none) (i : Nat) (ha : s.loose = true) : EnvD K BV B V' H' (σ.set i o) (ρ.set i s) :=
  (((E.fresh (S' := fun p => H p = none) fun _ z => z).grow g).take ok (fun p hp => ⟨(hF p hp).1, (hF p hp).2, E.gr.h.back (hF p hp).1, fun z => E.xl p z (hF p hp).1⟩) i ha).env
/-- the content of a slot changes in its place -/
theorem EnvA.change {i : Nat} {s : Sl} (E : EnvD K BV B V H σ ρ) (e : ρ[i]? = some s) : ∃ o F, σ[i]? = some o ∧ SlOk K B i V H o s F ∧
    ∀ H' s' F', (∀ p, ¬ F p → H p ≠ none → H' p = H p) → Own K V H' o s' F' → AncOk (B.anc i) o s' → (∀ p, F' p → F p ∨ H p = none) → EnvD K BV B V H' σ (ρ.set i s') := by
  obtain ⟨φ, h1, h2⟩ := E.fp
  obtain ⟨o, hs, ok⟩ := h1 i s e
  refine ⟨o, φ i, hs, ok, fun H' s' F' kp own' anc' hF => ?_⟩
  have kB : ∀ a u, H a = some u → ¬ φ i a → H' a = some u := fun a u z n => by rw [kp a n (by rw [z]; simp)]; exact z
  have new : ∀ p, H p = none → V p = none ∧ B.h p = none ∧ ¬ B.ex p := fun p z => ⟨E.sub.back z, E.gr.h.back z, fun y => E.xl p y z⟩
  rw [← set_at hs]
  refine mkEnv h1 h2 i (F := F') (V' := V) (H' := H') ⟨fun p hp => (hF p hp).elim (ok.out p) (new p), own', anc'⟩ (fun j p n hp a hf => (hF p hf).elim (fun z => h2.1 j i p n hp z) a.1) (fun _ _ z => z) (fun j p n hp a => ⟨kp p (fun z => h2.1 j i p n hp z) a.1, a.2.1, a.2.2.1, a.2.2.2.1, fun z => z⟩) (fun _ _ => rfl) .refl ⟨E.gr.v, fun a u z => ?_, fun a u z => ?_, E.gr.nw, E.gr.nf⟩ fun p hp => ?_
  · exact kB a u (E.gr.h a u z) fun y => by rw [(ok.out a y).2.1] at z; cases z
  · exact kB a u (E.sub a u z) fun y => by rw [(ok.out a y).1] at z; cases z
  · rw [kp p (fun y => (ok.out p y).2.2 hp) (E.xl p hp)]; exact E.xl p hp
/-- the same, where some things are owned by no slot yet -/
theorem EnvA.changeS {i : Nat} {s : Sl} (E : EnvA K BV B V H σ ρ S) (e : ρ[i]? = some s) : ∃ o F, σ[i]? = some o ∧ SlOk K B i V H o s F ∧ (∀ p, F p → ¬ S p) ∧
    ∀ H' s' F', (∀ p, ¬ F p → H p ≠ none → H' p = H p) → Own K V H' o s' F' → AncOk (B.anc i) o s' → (∀ p, F' p → F p ∨ H p = none ∨ (S p ∧ V p = none ∧ B.h p = none ∧ ¬ B.ex p)) → EnvD K BV B V H' σ (ρ.set i s') := by
  obtain ⟨φ, h1, h2⟩ := E.fp
  obtain ⟨o, hs, ok⟩ := h1 i s e
  refine ⟨o, φ i, hs, ok, fun p hp => (h2.2 i p hp).2, fun H' s' F' kp own' anc' hF => ?_⟩
  have kB : ∀ a u, H a = some u → ¬ φ i a → H' a = some u := fun a u z n => by rw [kp a n (by rw [z]; simp)]; exact z
  have new : ∀ p, H p = none → V p = none ∧ B.h p = none ∧ ¬ B.ex p := fun p z => ⟨E.sub.back z, E.gr.h.back z, fun y => E.xl p y z⟩
  rw [← set_at hs]
  refine mkEnv h1 h2 i (F := F') (V' := V) (H' := H') ⟨fun p hp => (hF p hp).elim (ok.out p) fun z => z.elim (new p) fun z => z.2, own', anc'⟩ (fun j p n hp a hf => (hF p hf).elim (fun z => h2.1 j i p n hp z) fun z => z.elim a.1 fun z => a.2.2.2.2 z.1) (fun _ _ z => z) (fun j p n hp a => ⟨kp p (fun z => h2.1 j i p n hp z) a.1, a.2.1, a.2.2.1, a.2.2.2.1, fun z => z⟩) (fun _ _ => rfl) .refl ⟨E.gr.v, fun a u z => ?_, fun a u z => ?_, E.gr.nw, E.gr.nf⟩ fun p hp => ?_
  · exact kB a u (E.gr.h a u z) fun y => by rw [(ok.out a y).2.1] at z; cases z
  · exact kB a u (E.sub a u z) fun y => by rw [(ok.out a y).1] at z; cases z
  · rw [kp p (fun y => (ok.out p y).2.2 hp) (E.xl p hp)]; exact E.xl p hp
/-- what is new of what grew -/
theorem EnvA.new {p : Addr} (E : EnvA K BV B V H σ ρ S) (h : H p = none) : B.h p = none ∧ ¬ B.ex p := ⟨E.gr.h.back h, fun z => E.xl p z h⟩
end
end DL

namespace DL
open PySem PySem.Spec PyProof.Rows L2

/-! ### readings by data -/
abbrev DE := List Sl → Option PyData
abbrev DB := List Sl → Option Bool
abbrev DA := List Sl → Option (List PyData)
def tD (K : PySem.W.Frag) (f : DE) : TE := fun σ H Q => ∃ BV B V ρ d, EnvD K BV B V H σ ρ ∧ f ρ = some d ∧ ∀ v V' H', Gr V H V' H' → Dq K V' v d → Q v H'
/-- a new list -/
def tN (K : PySem.W.Frag) (f : DA) : TE := fun σ H Q => ∃ BV B V ρ ds, EnvD K BV B V H σ ρ ∧ f ρ = some ds ∧ ∀ p vs V' H', Gr V H V' H' → H p = none → V' p = none → H' p = some (.lst vs) → DqAll K V' vs ds → Q (.ref p) H'
def tDT (K : PySem.W.Frag) (f : DB) : TT := fun σ H Q => ∃ BV B V ρ b, EnvD K BV B V H σ ρ ∧ f ρ = some b ∧ ∀ V' H', Gr V H V' H' → Q b H'
def tDA (K : PySem.W.Frag) (f : DA) : TA := fun σ H Q => ∃ BV B V ρ ds, EnvD K BV B V H σ ρ ∧ f ρ = some ds ∧ ∀ vs V' H', Gr V H V' H' → DqAll K V' vs ds → Q vs H'
section
variable {X : Cx} {e a b : Expr} {es : List Expr} {pos : Pos}
theorem pe_w {t t' : TE} (h : PE X e t) (i : ∀ σ H Q, t' σ H Q → t σ H Q) : PE X e t' := ⟨fun pins s σ H Q I q => h.run pins s σ H Q I (i _ _ _ q)⟩
theorem pt_w {t t' : TT} (h : PT X e t) (i : ∀ σ H Q, t' σ H Q → t σ H Q) : PT X e t' := ⟨fun pins s σ H Q I q => h.run pins s σ H Q I (i _ _ _ q)⟩
theorem pa_w {t t' : TA} (h : PA X es t) (i : ∀ σ H Q, t' σ H Q → t σ H Q) : PA X es t' := ⟨fun pos pins s σ H Q I q => h.run pos pins s σ H Q I (i _ _ _ q)⟩
theorem ps_w {st : Stmt} {t t' : TS} (h : PS X st t) (i : ∀ D σ H, t' D σ H → t D σ H) : PS X st t' := ⟨fun pins s σ H D I q => h.run pins s σ H D I (i _ _ _ q)⟩
theorem pss_w {st : List Stmt} {t t' : TS} (h : PSs X st t) (i : ∀ D σ H, t' D σ H → t D σ H) : PSs X st t' := ⟨fun pins s σ H D I q => h.run pins s σ H D I (i _ _ _ q)⟩
theorem pg_w {t t' : TG} (h : PG X e t) (i : ∀ v σ H Q, t' v σ H Q → t v σ H Q) : PG X e t' := ⟨fun pins s σ H v u Q I r q => h.run pins s σ H v u Q I r (i _ _ _ _ q)⟩
theorem pi_w {tg : Expr} {t t' : TI} (h : PI X tg e t) (i : ∀ σ H R, t' σ H R → t σ H R) : PI X tg e t' := ⟨fun pins s σ H R I q => h.run pins s σ H R I (i _ _ _ q)⟩

/-- a new list is data -/
def dL (f : DA) : DE := fun ρ => (f ρ).map PyData.list
theorem de_new {f : DA} (h : PE X e (tN X.K f)) : PE X e (tD X.K (dL f)) := pe_w h fun σ H Q ⟨BV, B, V, ρ, d, E, hf, q⟩ => by
  unfold dL at hf
  cases hg : f ρ with
  | none => rw [hg] at hf; cases hf
  | some ds =>
    rw [hg] at hf
    cases hf
    exact ⟨BV, B, V, ρ, ds, E, hg, fun p vs V' H' g n hv h' da => q _ _ _ (g.freeze n h' hv) (.lst (.inl upd_same) (da_mono (Ex.new hv) da))⟩

/-! ### names, constants -/
def dVar (i : Nat) : DE := fun ρ => match ρ[i]? with
  | some (.d x) => some x
  | _ => none
theorem var_val {K : PySem.W.Frag} {BV : Hp} {B : Bs} {V H : Hp} {σ : L2.St} {ρ : List Sl} {i : Nat} {d : PyData} (E : EnvD K BV B V H σ ρ) (h : dVar i ρ = some d) : ∃ v, σ[i]? = some (some v) ∧ Dq K V v d := by
  unfold dVar at h
  cases q : ρ[i]? with
  | none => rw [q] at h; cases h
  | some s =>
    rw [q] at h
    cases s with
    | d x =>
      cases h
      obtain ⟨o, h1, F, h2⟩ := E.sl i _ q
      have h2 := h2.own
      cases o with
      | none => exact h2.elim
      | some v => exact ⟨v, h1, h2.1⟩
    | _ => cases h
theorem de_var {i : Nat} (h : PE X e (tVar i)) : PE X e (tD X.K (dVar i)) := pe_w h fun σ H Q ⟨BV, B, V, ρ, d, E, hf, q⟩ => by
  obtain ⟨v, h1, h2⟩ := var_val E hf
  exact ⟨v, h1, q v V H (.refl E.sub) h2⟩
def dC (d : PyData) : DE := fun _ => some d
theorem de_c {v : V} {d : PyData} (h : PE X e (tC v)) (hd : ∀ V, Dq X.K V v d) : PE X e (tD X.K (dC d)) := pe_w h fun σ H Q ⟨BV, B, V, ρ, d', E, hf, q⟩ => by
  cases hf
  exact q v V H (.refl E.sub) (hd V)
theorem de_int {i : Int} {j pos} : PE X (.Constant (.int i) j pos) (tD X.K (dC (.int i))) := de_c pe_int fun _ => .int i
theorem de_str {i : Str} {j pos} : PE X (.Constant (.str i) j pos) (tD X.K (dC (.str i))) := de_c pe_str fun _ => .str i
theorem de_bl {i : Bool} {j pos} : PE X (.Constant (.bool i) j pos) (tD X.K (dC (.bool i))) := de_c pe_bl fun _ => .bl i
theorem de_non {j pos} : PE X (.Constant .none j pos) (tD X.K (dC .none)) := de_c pe_non fun _ => .non

/-! ### operators -/
def OpD (K : PySem.W.Frag) (r : R2) (o : PyData → PyData → Option PyData) : Prop := ∀ (V H : Hp) (x y : L2.V) (d e z : PyData) (Q : VK), Ex V H → Dq K V x d → Dq K V y e → o d e = some z → (∀ v V' H', Gr V H V' H' → Dq K V' v z → Q v H') → r x y H Q
def d2 (o : PyData → PyData → Option PyData) (f g : DE) : DE := fun ρ => (f ρ).bind fun x => (g ρ).bind fun y => o x y
theorem d2_some {o : PyData → PyData → Option PyData} {f g : DE} {ρ : List Sl} {z : PyData} (h : d2 o f g ρ = some z) : ∃ d e, f ρ = some d ∧ g ρ = some e ∧ o d e = some z := by
  unfold d2 at h
  cases h1 : f ρ with
  | none => rw [h1] at h; cases h
  | some d =>
    cases h2 : g ρ with
    | none => rw [h1, h2] at h; cases h
    | some e => rw [h1, h2] at h; exact ⟨d, e, rfl, rfl, h⟩
theorem tOp_of {K : PySem.W.Frag} {r : R2} {o : PyData → PyData → Option PyData} (h : OpD K r o) {f g : DE} (σ : L2.St) (H : Hp) (Q : VK) (t : tD K (d2 o f g) σ H Q) : tOp r (tD K f) (tD K g) σ H Q := by
  obtain ⟨BV, B, V, ρ, z, E, hz, q⟩ := t
  obtain ⟨d, e, hf, hg, ho⟩ := d2_some hz
  exact ⟨BV, B, V, ρ, d, E, hf, fun x V1 H1 G1 D1 => ⟨BV, B, V1, ρ, e, E.grow G1, hg, fun y V2 H2 G2 D2 =>
    h V2 H2 x y d e z Q G2.sub (dp_mono G2.v D1) D2 ho fun v V3 H3 G3 D3 => q v V3 H3 (G1.trans (G2.trans G3)) D3⟩⟩
theorem de_op {op : Operator} {r : R2} {o : PyData → PyData → Option PyData} {f g : DE} (ho : OpR X (binaryOp op) r) (h : OpD X.K r o) (ha : PE X a (tD X.K f)) (hb : PE X b (tD X.K g)) : PE X (.BinOp a op b pos) (tD X.K (d2 o f g)) :=
  pe_w (pe_op ho ha hb) (tOp_of h)
theorem de_cmp {op : CmpOp} {r : R2} {o : PyData → PyData → Option PyData} {f g : DE} (ho : OpR X (compareOp op) r) (h : OpD X.K r o) (ha : PE X a (tD X.K f)) (hb : PE X b (tD X.K g)) (hm : behindInMarks op b = false) : PE X (.Compare a [op] [b] pos) (tD X.K (d2 o f g)) :=
  pe_w (pe_cmpR ho ha hb hm) (tOp_of h)
theorem de_ix {r : R2} {o : PyData → PyData → Option PyData} {f g : DE} (ho : IxR X r) (h : OpD X.K r o) (ha : PE X a (tD X.K f)) (hb : PE X b (tD X.K g)) (hs : PlainIx b) : PE X (.Subscript a b pos) (tD X.K (d2 o f g)) :=
  pe_w (pe_ix ho ha hb hs) (tOp_of h)
def UnD (K : PySem.W.Frag) (r : V → Hp → VK → Prop) (o : PyData → Option PyData) : Prop := ∀ (V H : Hp) (x : L2.V) (d z : PyData) (Q : VK), Ex V H → Dq K V x d → o d = some z → (∀ v V' H', Gr V H V' H' → Dq K V' v z → Q v H') → r x H Q
def d1 (o : PyData → Option PyData) (f : DE) : DE := fun ρ => (f ρ).bind o
theorem d1_some {o : PyData → Option PyData} {f : DE} {ρ : List Sl} {z : PyData} (h : d1 o f ρ = some z) : ∃ d, f ρ = some d ∧ o d = some z := by
  unfold d1 at h
  cases h1 : f ρ with
  | none => rw [h1] at h; cases h
  | some d => rw [h1] at h; exact ⟨d, rfl, h⟩
theorem de_un {op : UnaryOp} {r : V → Hp → VK → Prop} {o : PyData → Option PyData} {f : DE} (ho : UnR X (unaryOp op) r) (h : UnD X.K r o) (ha : PE X a (tD X.K f)) : PE X (.UnaryOp op a pos) (tD X.K (d1 o f)) :=
  pe_w (pe_un ho ha) fun σ H Q ⟨BV, B, V, ρ, z, E, hz, q⟩ => by
    obtain ⟨d, hf, ho⟩ := d1_some hz
    exact ⟨BV, B, V, ρ, d, E, hf, fun x V1 H1 G1 D1 => h V1 H1 x d z Q G1.sub D1 ho fun v V3 H3 G3 D3 => q v V3 H3 (G1.trans G3) D3⟩
/-- a rule's answer that leaves the heap -/
theorem keep {K : PySem.W.Frag} {V H : Hp} {z : PyData} {v : L2.V} {Q : VK} (s : Ex V H) (q : ∀ v V' H', Gr V H V' H' → Dq K V' v z → Q v H') (h : Dq K V v z) : Q v H := q v V H (.refl s) h
/-- a new list, a new tuple -/
theorem newL {K : PySem.W.Frag} {V H : Hp} {ds : List PyData} {vs : List L2.V} {Q : VK} (s : Ex V H) (q : ∀ v V' H', Gr V H V' H' → Dq K V' v (.list ds) → Q v H') (h : DqAll K V vs ds) {p : Addr} (n : H p = none) : Q (.ref p) (upd H p (.lst vs)) :=
  q _ _ _ (Gr.laid s n) (.lst (.inl upd_same) (da_mono (Ex.new (s.back n)) h))
theorem newT {K : PySem.W.Frag} {V H : Hp} {ds : List PyData} {vs : List L2.V} {Q : VK} (s : Ex V H) (q : ∀ v V' H', Gr V H V' H' → Dq K V' v (.tuple ds) → Q v H') (h : DqAll K V vs ds) {p : Addr} (n : H p = none) : Q (.ref p) (upd H p (.tup vs)) :=
  q _ _ _ (Gr.laid s n) (.tup (.inl (.inl upd_same)) (da_mono (Ex.new (s.back n)) h))

/-! ### argument lists, displays -/
def aNil : DA := fun _ => some []
def aCons (f : DE) (r : DA) : DA := fun ρ => (f ρ).bind fun x => (r ρ).map fun xs => x :: xs
theorem aCons_some {f : DE} {r : DA} {ρ : List Sl} {zs : List PyData} (h : aCons f r ρ = some zs) : ∃ d ds, f ρ = some d ∧ r ρ = some ds ∧ zs = d :: ds := by
  unfold aCons at h
  cases h1 : f ρ with
  | none => rw [h1] at h; cases h
  | some d =>
    cases h2 : r ρ with
    | none => rw [h1, h2] at h; cases h
    | some e => rw [h1, h2] at h; cases h; exact ⟨d, e, rfl, rfl, rfl⟩
theorem da_nil : PA X [] (tDA X.K aNil) := pa_w pa_nil fun σ H Q ⟨BV, B, V, ρ, z, E, hz, q⟩ => by
  cases hz
  exact q [] V H (.refl E.sub) .nil
theorem da_cons {f : DE} {r : DA} (ha : PE X e (tD X.K f)) (hr : PA X es (tDA X.K r)) (hs : starEach (e :: es) X.env = (false, eval e X.env) :: starEach es X.env := by rfl) : PA X (e :: es) (tDA X.K (aCons f r)) :=
  pa_w (pa_cons ha hr hs) fun σ H Q ⟨BV, B, V, ρ, z, E, hz, q⟩ => by
    obtain ⟨d, ds, h1, h2, rfl⟩ := aCons_some hz
    exact ⟨BV, B, V, ρ, d, E, h1, fun x V1 H1 G1 D1 => ⟨BV, B, V1, ρ, ds, E.grow G1, h2, fun vs V2 H2 G2 D2 => q _ V2 H2 (G1.trans G2) (.cons (dp_mono G2.v D1) D2)⟩⟩
def aSmall (f : DA) : DA := fun ρ => (f ρ).bind fun xs => if xs.length ≤ 100000 then some xs else none
theorem aSmall_some {f : DA} {ρ : List Sl} {zs : List PyData} (h : aSmall f ρ = some zs) : f ρ = some zs ∧ zs.length ≤ 100000 := by
  unfold aSmall at h
  cases h1 : f ρ with
  | none => rw [h1] at h; cases h
  | some d =>
    rw [h1] at h
    by_cases q : d.length ≤ 100000
    · simp [q] at h; subst h; exact ⟨rfl, q⟩
    · simp [q] at h
theorem line_of {n : Nat} (h : n ≤ 100000) : n ≤ sizeLine := Nat.le_trans h (by decide)
theorem line_lt {n : Nat} (h : n < 100000) : n < sizeLine := Nat.lt_of_lt_of_le h (by decide)
theorem dn_lst {f : DA} (h : PA X es (tDA X.K f)) : PE X (.List es pos) (tN X.K (aSmall f)) := pe_w (pe_lst h) fun σ H Q ⟨BV, B, V, ρ, z, E, hz, q⟩ => by
  obtain ⟨h1, h2⟩ := aSmall_some hz
  exact ⟨BV, B, V, ρ, z, E, h1, fun vs V1 H1 G1 D1 => ⟨by rw [da_len D1]; exact line_of h2, fun p n => q p vs V1 _ (G1.trans (Gr.held G1.sub n)) (G1.h.back n) (G1.sub.back n) upd_same D1⟩⟩
def dTup (f : DA) : DE := fun ρ => (aSmall f ρ).map PyData.tuple
theorem de_lst {f : DA} (h : PA X es (tDA X.K f)) : PE X (.List es pos) (tD X.K (dL (aSmall f))) := de_new (dn_lst h)
theorem de_tup {f : DA} {x1} (h : PA X es (tDA X.K f)) : PE X (.Tuple es x1 pos) (tD X.K (dTup f)) := pe_w (pe_tup h) fun σ H Q ⟨BV, B, V, ρ, z, E, hz, q⟩ => by
  unfold dTup at hz
  cases h1 : aSmall f ρ with
  | none => rw [h1] at hz; cases hz
  | some ds =>
    rw [h1] at hz; cases hz
    obtain ⟨h1, h2⟩ := aSmall_some h1
    exact ⟨BV, B, V, ρ, ds, E, h1, fun vs V1 H1 G1 D1 => ⟨by rw [da_len D1]; exact line_of h2, fun p n => newT G1.sub (fun v V' H' g d => q v V' H' (G1.trans g) d) D1 n⟩⟩

/-! ### calls by values -/
def CallD (K : PySem.W.Frag) (r : List V → Hp → VK → Prop) (o : List PyData → Option PyData) : Prop := ∀ (V H : Hp) (xs : List L2.V) (ds : List PyData) (z : PyData) (Q : VK), Ex V H → DqAll K V xs ds → o ds = some z → (∀ v V' H', Gr V H V' H' → Dq K V' v z → Q v H') → r xs H Q
def dCall (o : List PyData → Option PyData) (f : DA) : DE := fun ρ => (f ρ).bind o
theorem dCall_some {o : List PyData → Option PyData} {f : DA} {ρ : List Sl} {z : PyData} (h : dCall o f ρ = some z) : ∃ d, f ρ = some d ∧ o d = some z := by
  unfold dCall at h
  cases h1 : f ρ with
  | none => rw [h1] at h; cases h
  | some d => rw [h1] at h; exact ⟨d, rfl, h⟩
theorem tCB_of {K : PySem.W.Frag} {r : List V → Hp → VK → Prop} {o : List PyData → Option PyData} (h : CallD K r o) {f : DA} (σ : L2.St) (H : Hp) (Q : VK) (t : tD K (dCall o f) σ H Q) : tCB r (tDA K f) σ H Q := by
  obtain ⟨BV, B, V, ρ, z, E, hz, q⟩ := t
  obtain ⟨d, hf, ho⟩ := dCall_some hz
  exact ⟨BV, B, V, ρ, d, E, hf, fun x V1 H1 G1 D1 => h V1 H1 x d z Q G1.sub D1 ho fun v V3 H3 G3 D3 => q v V3 H3 (G1.trans G3) D3⟩
theorem de_callB {x : Str} {id : String} {p : Pos} {r : List V → Hp → VK → Prop} {o : List PyData → Option PyData} {f : DA} (hc : CallR X (.builtin id) r) (h : CallD X.K r o) (hg : Gl X x) (hm : X.mg x = none) (hv : bootBuiltins x = some (.builtin id)) (ha : PA X (e :: es) (tDA X.K f)) (hn : x ≠ "__name__" := by decide) (hdb : (x == ("__debug__" : Str)) = false := by decide)
    (he : starEach (e :: es) X.env = (false, eval e X.env) :: starEach es X.env := by rfl) (hpl : (backTo pos (starEach es X.env)).any (·.1) = false := by rfl) : PE X (.Call (.Name x p) (e :: es) [] pos) (tD X.K (dCall o f)) :=
  pe_w (pe_callB hc hg hm hv ha hn hdb he hpl) (tCB_of h)
theorem de_callTy {x : Str} {id : String} {p : Pos} {r : List V → Hp → VK → Prop} {o : List PyData → Option PyData} {f : DA} (hc : CallR X (.type id) r) (h : CallD X.K r o) (hg : Gl X x) (hm : X.mg x = none) (hv : bootBuiltins x = some (.type id)) (ha : PA X (e :: es) (tDA X.K f)) (hn : x ≠ "__name__" := by decide) (hdb : (x == ("__debug__" : Str)) = false := by decide)
    (he : starEach (e :: es) X.env = (false, eval e X.env) :: starEach es X.env := by rfl) (hpl : (backTo pos (starEach es X.env)).any (·.1) = false := by rfl) : PE X (.Call (.Name x p) (e :: es) [] pos) (tD X.K (dCall o f)) :=
  pe_w (pe_callTy hc hg hm hv ha hn hdb he hpl) (tCB_of h)
/-- a def's promise by data -/
def spD (K : PySem.W.Frag) (n : Nat) (g : List PyData → Option PyData) : Sp := fun vs H Q _ => vs.length = n ∧ ∃ V ds d, Ex V H ∧ DqAll K V vs ds ∧ g ds = some d ∧ ∀ v V' H', Gr V H V' H' → Dq K V' v d → Q v H'
theorem de_call {k : Nat} {f : Addr} {fd : FuncData} {ps : List Str} {x : Str} {p : Pos} {g : List PyData → Option PyData} {fs : DA} (F : FnOk X.prog X.w X.K X.mg X.base CX0 k f fd ps (spD X.K ps.length g)) (hr : Room k X.A) (hg : Gl X x) (hm : X.mg x = some (.ref f)) (hk : PySem.W.keepIn X.K (.ref f) = true) (hb : Binds X.K fd ps [])
    (hlen : (e :: es).length = ps.length) (ha : PA X (e :: es) (tDA X.K fs)) (hfs : ∀ ρ ds, fs ρ = some ds → ds.length = (e :: es).length) (hdb : (x == ("__debug__" : Str)) = false := by decide)
    (he : starEach (e :: es) X.env = (false, eval e X.env) :: starEach es X.env := by rfl) (hpl : (backTo pos (starEach es X.env)).any (·.1) = false := by rfl) : PE X (.Call (.Name x p) (e :: es) [] pos) (tD X.K (dCall g fs)) :=
  pe_w (pe_call F hr hg hm hk hb .nil (E := E0) pass0 ha hdb he hpl) fun σ H Q ⟨BV, B, V, ρ, z, E, hz, q⟩ => by
    obtain ⟨ds, h1, h2⟩ := dCall_some hz
    exact ⟨BV, B, V, ρ, ds, E, h1, fun vs V1 H1 G1 D1 => by
      show spD X.K ps.length g (vs ++ []) H1 Q E0
      rw [List.append_nil]
      exact ⟨by rw [da_len D1, hfs ρ ds h1, hlen], V1, ds, z, G1.sub, D1, h2, fun v V' H' g d => q v V' H' (G1.trans g) d⟩⟩
theorem de_call0 {k : Nat} {f : Addr} {fd : FuncData} {x : Str} {p : Pos} {g : List PyData → Option PyData} (F : FnOk X.prog X.w X.K X.mg X.base CX0 k f fd [] (spD X.K 0 g)) (hr : Room k X.A) (hg : Gl X x) (hm : X.mg x = some (.ref f)) (hk : PySem.W.keepIn X.K (.ref f) = true) (hb : Binds X.K fd [] [])
    (hdb : (x == ("__debug__" : Str)) = false := by decide) : PE X (.Call (.Name x p) [] [] pos) (tD X.K (dCall g aNil)) :=
  pe_w (pe_call0 F hr hg hm hk hb .nil (E := E0) pass0 hdb) fun σ H Q ⟨BV, B, V, ρ, z, E, hz, q⟩ => by
    obtain ⟨ds, h1, h2⟩ := dCall_some hz
    cases h1
    exact ⟨rfl, V, [], z, E.sub, .nil, h2, fun v V' H' g d => q v V' H' g d⟩
theorem aNil_len (ρ : List Sl) (ds : List PyData) (h : aNil ρ = some ds) : ds.length = 0 := by cases h; rfl
theorem aCons_len {f : DE} {r : DA} {n : Nat} (hr : ∀ ρ ds, r ρ = some ds → ds.length = n) (ρ : List Sl) (ds : List PyData) (h : aCons f r ρ = some ds) : ds.length = n + 1 := by
  obtain ⟨d, ds, h1, h2, rfl⟩ := aCons_some h
  rw [List.length_cons, hr ρ _ h2]

/-! ### methods of texts -/
def MtD (K : PySem.W.Frag) (r : V → List V → Hp → VK → Prop) (o : PyData → List PyData → Option PyData) : Prop := ∀ (V H : Hp) (x : L2.V) (xs : List L2.V) (d : PyData) (ds : List PyData) (z : PyData) (Q : VK), Ex V H → Dq K V x d → DqAll K V xs ds → o d ds = some z → (∀ v V' H', Gr V H V' H' → Dq K V' v z → Q v H') → r x xs H Q
def dM (o : PyData → List PyData → Option PyData) (f : DE) (g : DA) : DE := fun ρ => (f ρ).bind fun x => (g ρ).bind fun y => o x y
theorem dM_some {o : PyData → List PyData → Option PyData} {f : DE} {g : DA} {ρ : List Sl} {z : PyData} (h : dM o f g ρ = some z) : ∃ d e, f ρ = some d ∧ g ρ = some e ∧ o d e = some z := by
  unfold dM at h
  cases h1 : f ρ with
  | none => rw [h1] at h; cases h
  | some d =>
    cases h2 : g ρ with
    | none => rw [h1, h2] at h; cases h
    | some e => rw [h1, h2] at h; exact ⟨d, e, rfl, rfl, h⟩
def tyD (T : String) : PyData → Bool
  | .str _ => T == "str"
  | .list _ => T == "list"
  | _ => false
theorem ty_of {K : PySem.W.Frag} {V H : Hp} {T : String} {x : L2.V} {d : PyData} (h : Dq K V x d) (s : Ex V H) (ht : tyD T d = true) : tyV K T x H := by
  cases h with
  | str z => exact (by simpa [tyD] using ht : T = "str")
  | lst hs _ => exact .inl ⟨(by simpa [tyD] using ht : T = "list"), _, Or.inl (s.rd hs)⟩
  | _ => simp [tyD] at ht
theorem de_bm {T id : String} {name : Str} {apos cpos : Pos} {r : V → List V → Hp → VK → Prop} {o : PyData → List PyData → Option PyData} {f : DE} {g : DA} (pa : PlainAttrs T) (slot : Slot T name id) (hty : typeOf (.builtin id) = pure (.type "method_descriptor")) (hm : MtR X id r) (h : MtD X.K r o) (hT : ∀ d ds z, o d ds = some z → tyD T d = true)
    (ho : PE X a (tD X.K f)) (ha : PA X (e :: es) (tDA X.K g)) (hbase : attributeBase a name X.env (eval a X.env) = eval a X.env := by rfl)
    (hfew : ((backTo cpos (starEach (e :: es) X.env)).all (fun x => !x.1) && (backToKw cpos (keywordEach [] X.env)).all (fun x => x.1.isSome)
      && decide ((e :: es).length + ([] : List Keyword).length + (if ([] : List Keyword).isEmpty then 0 else 1) < 30)) = true := by rfl)
    (hline : (apos.endLine == cpos.line) = true := by rfl) (hs : starEach (e :: es) X.env = (false, eval e X.env) :: starEach es X.env := by rfl) (hplain : (backTo cpos (starEach es X.env)).any (·.1) = false := by rfl) :
    PE X (.Call (.Attribute a name apos) (e :: es) [] cpos) (tD X.K (dM o f g)) :=
  pe_w (pe_bm pa slot hty hm ho ha hbase hfew hline hs hplain) fun σ H Q ⟨BV, B, V, ρ, z, E, hz, q⟩ => by
    obtain ⟨d, ds, hf, hg, ho⟩ := dM_some hz
    exact ⟨BV, B, V, ρ, d, E, hf, fun x V1 H1 G1 D1 => ⟨ty_of D1 G1.sub (hT _ _ _ ho), BV, B, V1, ρ, ds, E.grow G1, hg, fun xs V2 H2 G2 D2 =>
      h V2 H2 x xs d ds z Q G2.sub (dp_mono G2.v D1) D2 ho fun v V3 H3 G3 D3 => q v V3 H3 (G1.trans (G2.trans G3)) D3⟩⟩

/-! ### tests -/
def bOf (f : DE) : DB := fun ρ => match f ρ with
  | some (.bool b) => some b
  | _ => none
theorem bOf_some {f : DE} {ρ : List Sl} {b : Bool} (h : bOf f ρ = some b) : f ρ = some (.bool b) := by
  unfold bOf at h
  split at h
  · rename_i c e; cases h; exact e
  · cases h
theorem tB_of {K : PySem.W.Frag} {f : DE} (σ : L2.St) (H : Hp) (Q : Bool → Hp → Prop) (t : tDT K (bOf f) σ H Q) : tB (tD K f) σ H Q := by
  obtain ⟨BV, B, V, ρ, b, E, hb, q⟩ := t
  refine ⟨BV, B, V, ρ, _, E, bOf_some hb, fun v V' H' g d => ?_⟩
  cases d
  exact ⟨b, rfl, q V' H' g⟩
theorem dt_val {f : DE} (h : PE X e (tD X.K f)) (he : ∀ whole, isTrue e X.env whole = (do let v ← whole; standAt e.pos; holding [v] (truthy v)) := by intro _; rfl) : PT X e (tDT X.K (bOf f)) := pt_w (pt_val h he) tB_of
theorem dt_cmp {op : CmpOp} {r : R2} {o : PyData → PyData → Option PyData} {f g : DE} (ho : OpR X (compareOp op) r) (h : OpD X.K r o) (ha : PE X a (tD X.K f)) (hb : PE X b (tD X.K g)) (hm : behindInMarks op b = false) : PT X (.Compare a [op] [b] pos) (tDT X.K (bOf (d2 o f g))) :=
  pt_w (pt_cmpR ho ha hb hm) fun σ H Q t => by
    obtain ⟨BV, B, V, ρ, c, E, hb, q⟩ := t
    exact tOp_of h σ H _ ⟨BV, B, V, ρ, _, E, bOf_some hb, fun v V' H' g d => by cases d; exact ⟨c, rfl, q V' H' g⟩⟩
def bAnd (f g : DB) : DB := fun ρ => (f ρ).bind fun x => if x = true then g ρ else some false
def bOr (f g : DB) : DB := fun ρ => (f ρ).bind fun x => if x = true then some true else g ρ
def bNot (f : DB) : DB := fun ρ => (f ρ).map (!·)
def tAnd_of {K : PySem.W.Frag} {f g : DB} (σ : L2.St) (H : Hp) (Q : Bool → Hp → Prop) (t : tDT K (bAnd f g) σ H Q) : tAnd (tDT K f) (tDT K g) σ H Q := by
  obtain ⟨BV, B, V, ρ, b, E, hb, q⟩ := t
  unfold bAnd at hb
  cases h1 : f ρ with
  | none => rw [h1] at hb; cases hb
  | some x =>
    rw [h1] at hb
    refine ⟨BV, B, V, ρ, x, E, h1, fun V' H' g1 => ?_⟩
    cases x with
    | true => exact ⟨BV, B, V', ρ, b, E.grow g1, hb, fun V2 H2 g2 => q V2 H2 (g1.trans g2)⟩
    | false => cases hb; exact q V' H' g1
def tOr_of {K : PySem.W.Frag} {f g : DB} (σ : L2.St) (H : Hp) (Q : Bool → Hp → Prop) (t : tDT K (bOr f g) σ H Q) : tOr (tDT K f) (tDT K g) σ H Q := by
  obtain ⟨BV, B, V, ρ, b, E, hb, q⟩ := t
  unfold bOr at hb
  cases h1 : f ρ with
  | none => rw [h1] at hb; cases hb
  | some x =>
    rw [h1] at hb
    refine ⟨BV, B, V, ρ, x, E, h1, fun V' H' g1 => ?_⟩
    cases x with
    | true => cases hb; exact q V' H' g1
    | false => exact ⟨BV, B, V', ρ, b, E.grow g1, hb, fun V2 H2 g2 => q V2 H2 (g1.trans g2)⟩
theorem pw_w {t t' : TT} (h : PW X e t) (i : ∀ σ H Q, t' σ H Q → t σ H Q) : PW X e t' := ⟨fun wh pins s σ H Q I q => h.run wh pins s σ H Q I (i _ _ _ q)⟩
variable {rest : List Expr}
theorem dw_and1 {f : DB} (h : PT X a (tDT X.K f)) : PW X (.BoolOp .And [a] pos) (tDT X.K f) := pw_and1 h
theorem dw_or1 {f : DB} (h : PT X a (tDT X.K f)) : PW X (.BoolOp .Or [a] pos) (tDT X.K f) := pw_or1 h
theorem dw_and {f g : DB} (ha : PT X a (tDT X.K f)) (hb : PW X (.BoolOp .And (b :: rest) pos) (tDT X.K g)) : PW X (.BoolOp .And (a :: b :: rest) pos) (tDT X.K (bAnd f g)) := pw_w (pw_and ha hb) tAnd_of
theorem dw_or {f g : DB} (ha : PT X a (tDT X.K f)) (hb : PW X (.BoolOp .Or (b :: rest) pos) (tDT X.K g)) : PW X (.BoolOp .Or (a :: b :: rest) pos) (tDT X.K (bOr f g)) := pw_w (pw_or ha hb) tOr_of
theorem dt_not {f : DB} (h : PT X a (tDT X.K f)) : PT X (.UnaryOp .Not a pos) (tDT X.K (bNot f)) := pt_w (pt_not h) fun σ H Q ⟨BV, B, V, ρ, b, E, hb, q⟩ => by
  unfold bNot at hb
  cases h1 : f ρ with
  | none => rw [h1] at hb; cases hb
  | some x => rw [h1] at hb; cases hb; exact ⟨BV, B, V, ρ, x, E, h1, q⟩
/-- as values -/
def vAnd (f g : DE) : DE := fun ρ => (bOf f ρ).bind fun x => if x = true then g ρ else some (.bool false)
def vOr (f g : DE) : DE := fun ρ => (bOf f ρ).bind fun x => if x = true then some (.bool true) else g ρ
def vNot (f : DE) : DE := fun ρ => (bOf f ρ).map fun x => .bool (!x)
theorem de_one {op} {f : DE} (h : PE X a (tD X.K f)) : PE X (.BoolOp op [a] pos) (tD X.K f) := pe_one h
theorem de_and {f g : DE} (ha : PE X a (tD X.K f)) (hb : PE X (.BoolOp .And (b :: rest) pos) (tD X.K g)) : PE X (.BoolOp .And (a :: b :: rest) pos) (tD X.K (vAnd f g)) :=
  pe_w (pe_and ha hb) fun σ H Q ⟨BV, B, V, ρ, z, E, hz, q⟩ => by
    unfold vAnd at hz
    cases h1 : bOf f ρ with
    | none => rw [h1] at hz; cases hz
    | some x =>
      rw [h1] at hz
      refine ⟨BV, B, V, ρ, _, E, bOf_some h1, fun v V' H' g1 d1 => ?_⟩
      cases d1
      refine ⟨x, rfl, ?_⟩
      cases x with
      | true => exact ⟨BV, B, V', ρ, z, E.grow g1, hz, fun v V2 H2 g2 d2 => q v V2 H2 (g1.trans g2) d2⟩
      | false => cases hz; exact q _ V' H' g1 (.bl _)
theorem de_or {f g : DE} (ha : PE X a (tD X.K f)) (hb : PE X (.BoolOp .Or (b :: rest) pos) (tD X.K g)) : PE X (.BoolOp .Or (a :: b :: rest) pos) (tD X.K (vOr f g)) :=
  pe_w (pe_or ha hb) fun σ H Q ⟨BV, B, V, ρ, z, E, hz, q⟩ => by
    unfold vOr at hz
    cases h1 : bOf f ρ with
    | none => rw [h1] at hz; cases hz
    | some x =>
      rw [h1] at hz
      refine ⟨BV, B, V, ρ, _, E, bOf_some h1, fun v V' H' g1 d1 => ?_⟩
      cases d1
      refine ⟨x, rfl, ?_⟩
      cases x with
      | false => exact ⟨BV, B, V', ρ, z, E.grow g1, hz, fun v V2 H2 g2 d2 => q v V2 H2 (g1.trans g2) d2⟩
      | true => cases hz; exact q _ V' H' g1 (.bl _)
theorem de_not {f : DE} (ha : PE X a (tD X.K f)) : PE X (.UnaryOp .Not a pos) (tD X.K (vNot f)) :=
  pe_w (pe_not ha) fun σ H Q ⟨BV, B, V, ρ, z, E, hz, q⟩ => by
    unfold vNot at hz
    cases h1 : bOf f ρ with
    | none => rw [h1] at hz; cases hz
    | some x =>
      rw [h1] at hz; cases hz
      refine ⟨BV, B, V, ρ, _, E, bOf_some h1, fun v V' H' g1 d1 => ?_⟩
      cases d1
      exact ⟨x, rfl, q _ V' H' g1 (.bl _)⟩
def dIf (t : DB) (f g : DE) : DE := fun ρ => (t ρ).bind fun x => if x = true then f ρ else g ρ
theorem de_if {c : Expr} {t : DB} {f g : DE} (hc : PT X c (tDT X.K t)) (ha : PE X a (tD X.K f)) (hb : PE X b (tD X.K g)) : PE X (.IfExp c a b pos) (tD X.K (dIf t f g)) :=
  pe_w (pe_ifExp hc ha hb) fun σ H Q ⟨BV, B, V, ρ, z, E, hz, q⟩ => by
    unfold dIf at hz
    cases h1 : t ρ with
    | none => rw [h1] at hz; cases hz
    | some x =>
      rw [h1] at hz
      refine ⟨BV, B, V, ρ, x, E, h1, fun V' H' g1 => ?_⟩
      cases x with
      | true => exact ⟨BV, B, V', ρ, z, E.grow g1, hz, fun v V2 H2 g2 d2 => q v V2 H2 (g1.trans g2) d2⟩
      | false => exact ⟨BV, B, V', ρ, z, E.grow g1, hz, fun v V2 H2 g2 d2 => q v V2 H2 (g1.trans g2) d2⟩
end
end DL

namespace DL
open PySem PySem.Spec PyProof.Rows L2

/-! ### statements by data -/
inductive Fl where
  | nx (ρ : List Sl)
  | rt (d : PyData)
  | bk (ρ : List Sl)
  | ct (ρ : List Sl)
  /-- a return that tells the slots -/
  | ro (r : Sl) (ρ : List Sl)
abbrev DS := List Sl → Option Fl
def FlOk (K : PySem.W.Frag) (BV : Hp) (B : Bs) (D : Ends) : Fl → Prop
  | .nx ρ' => ∀ σ' V' H', EnvD K BV B V' H' σ' ρ' → D.nx σ' H'
  | .rt d => ∀ v V' H', Gr BV B V' H' → Dq K V' v d → D.rt v H'
  | .bk ρ' => ∀ σ' V' H', EnvD K BV B V' H' σ' ρ' → D.bk σ' H'
  | .ct ρ' => ∀ σ' V' H', EnvD K BV B V' H' σ' ρ' → D.ct σ' H'
  | .ro r ρ' => ∀ v σ' V' H' F S, EnvA K BV B V' H' σ' ρ' S → Own K V' H' (some v) r F → (∀ p, F p → S p ∧ V' p = none ∧ B.h p = none ∧ ¬ B.ex p) → D.rt v H'
def sD (K : PySem.W.Frag) (F : DS) : TS := fun D σ H => ∃ BV B V ρ r, EnvD K BV B V H σ ρ ∧ F ρ = some r ∧ FlOk K BV B D r
section
variable {X : Cx} {e a b : Expr} {es : List Expr} {pos : Pos} {st : Stmt} {rest : List Stmt}
/-- what is not served -/
def sNo : DS := fun _ => none
theorem ds_no : PS X st (sD X.K sNo) := ⟨fun _ _ _ _ _ _ ⟨_, _, _, _, _, _, h, _⟩ => by cases h⟩
def sSkip : DS := fun ρ => some (.nx ρ)
def sSeq (F G : DS) : DS := fun ρ => (F ρ).bind fun r => match r with
  | .nx ρ' => G ρ'
  | r => some r
theorem dss_nil : PSs X [] (sD X.K sSkip) := pss_w pss_nil fun D σ H ⟨BV, B, V, ρ, r, E, h, q⟩ => by
  cases h
  exact q σ V H E
theorem dss_cons {F G : DS} (h1 : PS X st (sD X.K F)) (h2 : PSs X rest (sD X.K G)) : PSs X (st :: rest) (sD X.K (sSeq F G)) := pss_w (pss_cons h1 h2) fun D σ H ⟨BV, B, V, ρ, r, E, h, q⟩ => by
  unfold sSeq at h
  cases h1 : F ρ with
  | none => rw [h1] at h; cases h
  | some x =>
    rw [h1] at h
    refine ⟨BV, B, V, ρ, x, E, h1, ?_⟩
    cases x with
    | nx ρ' => exact fun σ' V' H' E' => ⟨BV, B, V', ρ', r, E', h, q⟩
    | rt d => cases h; exact q
    | bk d => cases h; exact q
    | ct d => cases h; exact q
    | ro d _ => cases h; exact q
theorem dss_one {F : DS} (h1 : PS X st (sD X.K F)) : PSs X [st] (sD X.K F) := pss_one h1
/-- an expression alone -/
def sExpr (f : DE) : DS := fun ρ => (f ρ).map fun _ => .nx ρ
theorem ds_expr {f : DE} (h : PE X e (tD X.K f)) (hs : swapsWith e none pos.line X.env = pure false := by rfl) : PS X (.Expr e pos) (sD X.K (sExpr f)) := ps_w (ps_expr h hs) fun D σ H ⟨BV, B, V, ρ, r, E, h, q⟩ => by
  unfold sExpr at h
  cases h1 : f ρ with
  | none => rw [h1] at h; cases h
  | some x => rw [h1] at h; cases h; exact ⟨BV, B, V, ρ, x, E, h1, fun v V' H' g d => q σ V' H' (E.grow g)⟩
def sRet (f : DE) : DS := fun ρ => (f ρ).map .rt
theorem ds_ret {f : DE} (h : PE X e (tD X.K f)) : PS X (.Return (some e) pos) (sD X.K (sRet f)) := ps_w (ps_ret h) fun D σ H ⟨BV, B, V, ρ, r, E, h, q⟩ => by
  unfold sRet at h
  cases h1 : f ρ with
  | none => rw [h1] at h; cases h
  | some x => rw [h1] at h; cases h; exact ⟨BV, B, V, ρ, x, E, h1, fun v V' H' g d => q v V' H' (E.gr.trans g) d⟩
def sIf (t : DB) (F G : DS) : DS := fun ρ => (t ρ).bind fun x => if x = true then F ρ else G ρ
theorem ds_if {t : DB} {F G : DS} {st1 st2 : List Stmt} (ht : PT X e (tDT X.K t)) (h1 : PSs X st1 (sD X.K F)) (h2 : PSs X st2 (sD X.K G)) : PS X (.If e st1 st2 pos) (sD X.K (sIf t F G)) := ps_w (ps_if ht h1 h2) fun D σ H ⟨BV, B, V, ρ, r, E, h, q⟩ => by
  unfold sIf at h
  cases h1 : t ρ with
  | none => rw [h1] at h; cases h
  | some x =>
    rw [h1] at h
    refine ⟨BV, B, V, ρ, x, E, h1, fun V' H' g => ?_⟩
    cases x with
    | true => exact ⟨BV, B, V', ρ, r, E.grow g, h, q⟩
    | false => exact ⟨BV, B, V', ρ, r, E.grow g, h, q⟩
def sSet (i : Nat) (f : DE) : DS := fun ρ => (f ρ).map fun d => .nx (ρ.set i (.d d))
theorem tAsg_of {K : PySem.W.Frag} {i : Nat} {f : DE} (D : Ends) (σ : L2.St) (H : Hp) (t : sD K (sSet i f) D σ H) : tAsg (tD K f) (gName i) D σ H := by
  obtain ⟨BV, B, V, ρ, r, E, h, q⟩ := t
  unfold sSet at h
  cases h1 : f ρ with
  | none => rw [h1] at h; cases h
  | some x => rw [h1] at h; cases h; exact ⟨BV, B, V, ρ, x, E, h1, fun v V' H' g d => q _ V' H' ((E.grow g).set d i)⟩
theorem ds_set {i : Nat} {x : Str} {f : DE} {pos' : Pos} (hN : X.N.Nodup) (hi : X.N[i]? = some x) (hx : Loc X.env.scope x) (he : PE X e (tD X.K f)) (hs : swapsWith e (some (.Name x pos')) pos.line X.env = pure false := by rfl) (hf : X.fn x = true ∨ X.env.scope.names.lookup x = some .local := by first | exact .inl rfl | exact .inr rfl | assumption) :
    PS X (.Assign [.Name x pos'] e pos) (sD X.K (sSet i f)) := ps_w (ps_set hN hi hx he hs hf) tAsg_of
/-- an own slot -/
def sOwn (i : Nat) (f : DA) : DS := fun ρ => (f ρ).map fun d => .nx (ρ.set i (.own d))
theorem ds_own {i : Nat} {x : Str} {f : DA} {pos' : Pos} (hN : X.N.Nodup) (hi : X.N[i]? = some x) (hx : Loc X.env.scope x) (he : PE X e (tN X.K f)) (hs : swapsWith e (some (.Name x pos')) pos.line X.env = pure false := by rfl) (hf : X.fn x = true ∨ X.env.scope.names.lookup x = some .local := by first | exact .inl rfl | exact .inr rfl | assumption) :
    PS X (.Assign [.Name x pos'] e pos) (sD X.K (sOwn i f)) := ps_w (ps_set hN hi hx he hs hf) fun D σ H ⟨BV, B, V, ρ, r, E, h, q⟩ => by
  unfold sOwn at h
  cases h1 : f ρ with
  | none => rw [h1] at h; cases h
  | some x => rw [h1] at h; cases h; exact ⟨BV, B, V, ρ, x, E, h1, fun p vs V' H' g n hv h' da => q _ V' H' (E.setNew g (Own.lst h' da) (fun q z => by rw [z]; exact ⟨n, hv⟩) i rfl)⟩
/-- freezing a slot -/
def freeze (i : Nat) (ρ : List Sl) : List Sl := match ρ[i]? with
  | some (.own xs) => ρ.set i (.d (.list xs))
  | _ => ρ
theorem EnvA.freeze {K : PySem.W.Frag} {BV : Hp} {B : Bs} {V H : Hp} {σ : L2.St} {ρ : List Sl} (E : EnvD K BV B V H σ ρ) (i : Nat) : ∃ V', EnvD K BV B V' H σ (freeze i ρ) := by
  unfold DL.freeze
  split
  · rename_i xs e
    obtain ⟨φ, h1, h2⟩ := E.fp
    obtain ⟨o, q1, q2⟩ := h1 i _ e
    have own := q2.own
    cases o with
    | none => exact own.elim
    | some v =>
      obtain ⟨p, vs, rfl, k1, k2, k3⟩ := own
      have hp : φ i p := (k3 p).2 rfl
      have k4 := q2.out p hp
      have hx : Ex V (upd V p (.lst vs)) := Ex.new k4.1
      refine ⟨upd V p (.lst vs), ?_⟩
      rw [← set_at q1]
      refine mkEnv h1 h2 i (F := fun _ => False) ⟨fun _ z => z.elim, ⟨.lst (.inl upd_same) (da_mono hx k2), fun _ z => z⟩, trivial⟩ (fun _ _ _ _ _ z => z) (fun _ z => z.elim) (fun j q n hq a => ⟨rfl, ?_, a.2.2.1, a.2.2.2.1, fun z => z⟩) (fun _ _ => rfl) hx ⟨E.gr.v.trans hx, E.gr.h, fun a u z => ?_, fun a z1 z2 => ?_, fun a o u z => E.gr.nf a o u (by
        by_cases q : a = p
        · subst q; rw [upd_same] at z; cases z
        · rwa [upd_ne q] at z)⟩ E.xl
      · rw [upd_ne fun z => h2.1 j i q n hq (by rw [z]; exact hp)]; exact a.2.1
      · by_cases q : a = p
        · subst q; rw [upd_same] at z; cases z; exact k1
        · rw [upd_ne q] at z; exact E.sub a u z
      · rw [upd_ne (show a ≠ p from fun z => z2 (by rw [z]; exact k4.2.1))]
        exact E.gr.nw a z1 z2
  · exact ⟨V, E⟩
def sFr (i : Nat) (F : DS) : DS := fun ρ => F (freeze i ρ)
theorem ds_fr (i : Nat) {F : DS} (h : PS X st (sD X.K F)) : PS X st (sD X.K (sFr i F)) := ps_w h fun D σ H ⟨BV, B, V, ρ, r, E, h, q⟩ => by
  obtain ⟨V', E'⟩ := E.freeze i
  exact ⟨BV, B, V', _, r, E', h, q⟩
theorem dss_fr (i : Nat) {F : DS} (h : PSs X rest (sD X.K F)) : PSs X rest (sD X.K (sFr i F)) := pss_w h fun D σ H ⟨BV, B, V, ρ, r, E, h, q⟩ => by
  obtain ⟨V', E'⟩ := E.freeze i
  exact ⟨BV, B, V', _, r, E', h, q⟩
/-- forgetting a slot -/
def sUn (i : Nat) (F : DS) : DS := fun ρ => F (ρ.set i .un)
/-- the own list changes -/
theorem EnvA.write {K : PySem.W.Frag} {BV : Hp} {B : Bs} {V H : Hp} {σ : L2.St} {ρ : List Sl} {i : Nat} {xs ds : List PyData} {p : Addr} {vs us : List L2.V} (E : EnvD K BV B V H σ ρ) (e : ρ[i]? = some (.own xs)) (es : σ[i]? = some (some (.ref p))) (h4 : DqAll K V us ds) :
    EnvD K BV B V (upd H p (.lst us)) σ (ρ.set i (.own ds)) := by
  obtain ⟨o, F, q1, ok, ch⟩ := E.change e
  rw [es] at q1; cases q1
  obtain ⟨p', vs', e', k1, k2, k3⟩ := ok.own
  cases e'
  exact ch _ _ F (fun q n _ => upd_ne fun z => n ((k3 q).2 z)) ⟨p, us, rfl, upd_same, h4, k3⟩ trivial fun q z => .inl z
def ownAt (i : Nat) (ρ : List Sl) : Option (List PyData) := match ρ[i]? with
  | some (.own xs) => some xs
  | _ => none
theorem ownAt_some {i : Nat} {ρ : List Sl} {xs : List PyData} (h : ownAt i ρ = some xs) : ρ[i]? = some (.own xs) := by
  unfold ownAt at h
  split at h
  · rename_i e; cases h; exact e
  · cases h
theorem own_val {K : PySem.W.Frag} {BV : Hp} {B : Bs} {V H : Hp} {σ : L2.St} {ρ : List Sl} {i : Nat} {xs : List PyData} (E : EnvD K BV B V H σ ρ) (e : ρ[i]? = some (.own xs)) : ∃ p vs, σ[i]? = some (some (.ref p)) ∧ H p = some (.lst vs) ∧ V p = none ∧ DqAll K V vs xs := by
  obtain ⟨o, q1, F, q2⟩ := E.sl i _ e
  have own := q2.own
  cases o with
  | none => exact own.elim
  | some v =>
    obtain ⟨p, vs, rfl, h1, h2, h3⟩ := own
    exact ⟨p, vs, q1, h1, (q2.out p ((h3 p).2 rfl)).1, h2⟩
/-- x.append(e), x own -/
def sApp (i : Nat) (f : DE) : DS := fun ρ => (ownAt i ρ).bind fun xs => (f ρ).bind fun d => if xs.length < 100000 then some (.nx (ρ.set i (.own (xs ++ [d])))) else none
theorem ds_app {i : Nat} {f : DE} {o : Expr} {apos cpos : Pos} (ho : PE X o (tVar i)) (he : PE X e (tD X.K f)) (hbase : attributeBase o "append" X.env (eval o X.env) = eval o X.env := by rfl)
    (hfew : ((backTo cpos (starEach [e] X.env)).all (fun x => !x.1) && (backToKw cpos (keywordEach [] X.env)).all (fun x => x.1.isSome)
      && decide (([e] : List Expr).length + ([] : List Keyword).length + (if ([] : List Keyword).isEmpty then 0 else 1) < 30)) = true := by rfl)
    (hline : (apos.endLine == cpos.line) = true := by rfl) (hs : starEach [e] X.env = [(false, eval e X.env)] := by rfl) :
    PS X (.Expr (.Call (.Attribute o "append" apos) [e] [] cpos) pos) (sD X.K (sApp i f)) :=
  ps_w (ps_expr (pe_bm PySem.F.plainAttrs_list PySem.F.slot_list_append PySem.F.type_list_append mt_append ho (pa_cons he pa_nil hs) hbase hfew hline hs rfl)) fun D σ H ⟨BV, B, V, ρ, r, E, h, q⟩ => by
    unfold sApp at h
    cases h1 : ownAt i ρ with
    | none => rw [h1] at h; cases h
    | some xs =>
      cases h2 : f ρ with
      | none => rw [h1, h2] at h; cases h
      | some d =>
        rw [h1, h2] at h
        by_cases hz : xs.length < 100000
        · simp [hz] at h
          subst h
          obtain ⟨p, vs, es, k1, k2, k4⟩ := own_val E (ownAt_some h1)
          refine ⟨.ref p, es, .inl ⟨rfl, _, .inl (.inl k1)⟩, BV, B, V, ρ, d, E, h2, fun v V' H' g dd => ?_⟩
          have k1' := g.h _ _ k1
          refine ⟨p, vs, v, rfl, rfl, k1', by rw [da_len k4]; exact line_lt hz, ?_⟩
          exact q σ V' _ ((E.grow g).write (vs := vs) (ownAt_some h1) es (da_app (da_mono g.v k4) (.cons dd .nil)))
        · simp [hz] at h
end
end DL

namespace DL
open PySem PySem.Spec PyProof.Rows L2

/-! ### targets -/
/-- only the slots is differ -/
def Only (is : List Nat) (σ σ' : L2.St) : Prop := σ'.length = σ.length ∧ ∀ j, j ∉ is → σ'[j]? = σ[j]?
theorem Only.refl {is : List Nat} {σ : L2.St} : Only is σ σ := ⟨rfl, fun _ _ => rfl⟩
theorem Only.set {σ : L2.St} {i : Nat} {o : Option L2.V} : Only [i] σ (σ.set i o) := ⟨List.length_set, fun j h => by
  rw [List.getElem?_set_ne (fun z => h (by simp [z]))]⟩
theorem Only.mono {is js : List Nat} {σ σ' : L2.St} (h : Only is σ σ') (s : ∀ i ∈ is, i ∈ js) : Only js σ σ' := ⟨h.1, fun j n => h.2 j fun z => n (s j z)⟩
theorem Only.trans {is : List Nat} {σ σ1 σ2 : L2.St} (a : Only is σ σ1) (b : Only is σ1 σ2) : Only is σ σ2 := ⟨b.1.trans a.1, fun j n => (b.2 j n).trans (a.2 j n)⟩
theorem wipe_in {σ : L2.St} : ∀ {vs : List Nat} {j : Nat}, j ∈ vs → j < σ.length → (wipe σ vs)[j]? = some none
  | v :: vs, j, h, hl => by
    unfold wipe
    by_cases q : v = j
    · subst q
      rw [List.getElem?_set_self (by rw [wipe_length]; exact hl)]
    · rw [List.getElem?_set_ne q]
      rcases List.mem_cons.mp h with z | z
      · exact absurd z.symm q
      · exact wipe_in z hl
theorem wipe_out {σ : L2.St} : ∀ {vs : List Nat} {j : Nat}, j ∉ vs → (wipe σ vs)[j]? = σ[j]?
  | [], _, _ => rfl
  | v :: vs, j, h => by
    unfold wipe
    rw [List.getElem?_set_ne (fun z => h (by simp [z]))]
    exact wipe_out fun z => h (List.mem_cons_of_mem _ z)
theorem Only.wipe {is vs : List Nat} {σ σ' : L2.St} (h : Only is σ σ') (s : ∀ i ∈ is, i ∈ vs) : wipe σ' vs = wipe σ vs := by
  apply List.ext_getElem?
  intro j
  by_cases q : j ∈ vs
  · by_cases l : j < σ.length
    · rw [wipe_in q l, wipe_in q (by rw [h.1]; exact l)]
    · rw [List.getElem?_eq_none (by rw [wipe_length, h.1]; omega), List.getElem?_eq_none (by rw [wipe_length]; omega)]
  · rw [wipe_out q, wipe_out q, h.2 j fun z => q (s j z)]
/-- the own lists behind are those before, apart from the slots is -/
def OwnS (is : List Nat) (ρ ρ' : List Sl) : Prop := ∀ (j : Nat) (ys : List PyData), ρ'[j]? = some (.own ys) → ρ[j]? = some (.own ys) ∧ j ∉ is
theorem OwnS.trans {is js : List Nat} {ρ ρ1 ρ2 : List Sl} (a : OwnS is ρ ρ1) (b : OwnS js ρ1 ρ2) : OwnS (is ++ js) ρ ρ2 := fun j ys h => by
  obtain ⟨h1, n1⟩ := b j ys h
  obtain ⟨h2, n2⟩ := a j ys h1
  exact ⟨h2, fun z => (List.mem_append.mp z).elim n2 n1⟩
theorem OwnS.set {i : Nat} {ρ : List Sl} {d : PyData} : OwnS [i] ρ (ρ.set i (.d d)) := fun j ys h => by
  rcases get_set h with ⟨_, _, z⟩ | ⟨n, h⟩
  · cases z
  · exact ⟨h, fun z => n (List.mem_singleton.mp z).symm⟩
abbrev DG := PyData → List Sl → Option (List Sl)
def gD (K : PySem.W.Frag) (is : List Nat) (g : DG) : TG := fun v σ H Q => ∃ BV B V ρ d ρ', EnvD K BV B V H σ ρ ∧ Dq K V v d ∧ g d ρ = some ρ' ∧ ∀ σ' V', Gr V H V' H → EnvD K BV B V' H σ' ρ' → Only is σ σ' → OwnS is ρ ρ' → Q σ' H
abbrev DGs := List PyData → List Sl → Option (List Sl)
def gsD (K : PySem.W.Frag) (is : List Nat) (g : DGs) : TGs := fun vs σ H Q => ∃ BV B V ρ ds ρ', EnvD K BV B V H σ ρ ∧ DqAll K V vs ds ∧ g ds ρ = some ρ' ∧ ∀ σ' V', Gr V H V' H → EnvD K BV B V' H σ' ρ' → Only is σ σ' → OwnS is ρ ρ' → Q σ' H
section
variable {X : Cx} {e a b : Expr} {es : List Expr} {pos : Pos} {st : Stmt} {rest : List Stmt}
def gN (i : Nat) : DG := fun d ρ => some (ρ.set i (.d d))
theorem dg_name {i : Nat} {x : Str} (hN : X.N.Nodup) (hi : X.N[i]? = some x) (hx : Loc X.env.scope x) (hf : X.fn x = true ∨ X.env.scope.names.lookup x = some .local := by first | exact .inl rfl | exact .inr rfl | assumption) : PG X (.Name x pos) (gD X.K [i] (gN i)) :=
  pg_w (pg_name hN hi hx hf) fun v σ H Q ⟨BV, B, V, ρ, d, ρ', E, dd, h, q⟩ => by
    cases h
    exact q _ V (.refl E.sub) (E.set dd i) Only.set OwnS.set
def gsNil : DGs := fun ds ρ => match ds with
  | [] => some ρ
  | _ => none
def gsCons (g : DG) (r : DGs) : DGs := fun ds ρ => match ds with
  | d :: ds => (g d ρ).bind fun ρ' => r ds ρ'
  | [] => none
theorem pgs_w {ts : List Expr} {t t' : TGs} (h : PGs X ts t) (i : ∀ v σ H Q, t' v σ H Q → t v σ H Q) : PGs X ts t' := ⟨fun pins s σ H v u Q I r q => h.run pins s σ H v u Q I r (i _ _ _ _ q)⟩
theorem dgs_nil : PGs X [] (gsD X.K [] gsNil) := pgs_w pgs_nil fun v σ H Q ⟨BV, B, V, ρ, d, ρ', E, dd, h, q⟩ => by
  cases d with
  | cons _ _ => cases h
  | nil => cases h; cases dd; exact ⟨rfl, q σ V (.refl E.sub) E .refl fun j ys h => ⟨h, by simp⟩⟩
theorem dgs_cons {is js : List Nat} {g : DG} {r : DGs} (h1 : PG X e (gD X.K is g)) (h2 : PGs X es (gsD X.K js r)) (hs : (assignEach (e :: es) X.env).map (·.2) = assign e X.env :: (assignEach es X.env).map (·.2) := by rfl) : PGs X (e :: es) (gsD X.K (is ++ js) (gsCons g r)) :=
  pgs_w (pgs_cons h1 h2 hs) fun v σ H Q ⟨BV, B, V, ρ, d, ρ', E, dd, h, q⟩ => by
    cases d with
    | nil => cases h
    | cons d ds =>
      cases dd with
      | cons d1 dr =>
        unfold gsCons at h
        cases k : g d ρ with
        | none => simp [k] at h
        | some ρ1 =>
          simp [k] at h
          refine ⟨_, _, rfl, BV, B, V, ρ, d, ρ1, E, d1, k, fun σ1 V1 G1 E1 o1 w1 => ⟨BV, B, V1, ρ1, ds, ρ', E1, da_mono G1.v dr, h, fun σ2 V2 G2 E2 o2 w2 => ?_⟩⟩
          exact q σ2 V2 (G1.trans G2) E2 ((o1.mono fun i h => List.mem_append_left _ h).trans (o2.mono fun i h => List.mem_append_right _ h)) (w1.trans w2)
def gT (n : Nat) (r : DGs) : DG := fun d ρ => match d with
  | .tuple ds => if ds.length = n then r ds ρ else none
  | _ => none
theorem dg_tup {is : List Nat} {k : Nat} {r : DGs} {n : Nat} (hc : X.calm = true) (h : PGs X es (gsD X.K is r)) (hn : (assignEach es X.env).length = n := by rfl) (hst : (assignEach es X.env).findIdx? (·.1) = none := by rfl) : PG X (.Tuple es k pos) (gD X.K is (gT n r)) :=
  pg_w (pg_tup hc h hn hst) fun v σ H Q ⟨BV, B, V, ρ, d, ρ', E, dd, h, q⟩ => by
    cases dd with
    | @tup a xs ds hs da =>
      unfold gT at h
      by_cases hl : ds.length = n
      · simp [hl] at h
        exact ⟨a, xs, rfl, E.sub.sqT hs, by rw [da_len da]; exact hl, BV, B, V, ρ, ds, ρ', E, da, h, q⟩
      · simp [hl] at h
    | _ => cases h
/-! ### what is walked -/
/-- over any heaps that hold V: it goes, it gives ds, it stops -/
structure WalkD (K : PySem.W.Frag) (V : Hp) (J : It) (ds : List PyData) : Prop where
  go : ∀ i V1 H1, i < ds.length → Ex V V1 → Ex V1 H1 → J.go i H1
  stop : ∀ V1 H1, Ex V V1 → Ex V1 H1 → J.stop ds.length H1
  yld : ∀ i V1 H1 x H2 d, ds[i]? = some d → Ex V V1 → Ex V1 H1 → J.yld i H1 x H2 → ∃ V2, Gr V1 H1 V2 H2 ∧ Dq K V2 x d
theorem WalkD.mono {K : PySem.W.Frag} {V V' : Hp} {J : It} {ds : List PyData} (w : WalkD K V J ds) (e : Ex V V') : WalkD K V' J ds :=
  ⟨fun i V1 H1 h a b => w.go i V1 H1 h (e.trans a) b, fun V1 H1 a b => w.stop V1 H1 (e.trans a) b, fun i V1 H1 x H2 d h a b => w.yld i V1 H1 x H2 d h (e.trans a) b⟩
def iD (K : PySem.W.Frag) (f : DA) : TI := fun σ H R => ∃ BV B V ρ ds, EnvD K BV B V H σ ρ ∧ f ρ = some ds ∧ ∀ J V' H', Gr V H V' H' → WalkD K V' J ds → R J H'
/-- a list -/
def aList (f : DE) : DA := fun ρ => match f ρ with
  | some (.list ds) => some ds
  | _ => none
theorem walkD_list {K : PySem.W.Frag} {V : Hp} {a : Addr} {xs : List L2.V} {ds : List PyData} (h0 : Rd V a (.lst xs)) (da : DqAll K V xs ds) : WalkD K V (Itl K a) ds :=
  have h : SqL K V a xs := .inl h0
  ⟨fun i V1 H1 hi e1 e2 => ⟨xs, _, e2.sqL (e1.sqL h), List.getElem?_eq_getElem (by rw [da_len da]; exact hi)⟩, fun V1 H1 e1 e2 => ⟨xs, e2.sqL (e1.sqL h), by rw [da_len da]; exact Nat.le_refl _⟩,
    fun i V1 H1 x H2 d hd e1 e2 y => by
      obtain ⟨rfl, y⟩ := y
      have hx := y xs (e2.sqL (e1.sqL h))
      obtain ⟨v, h1, h2⟩ := da_get da hd
      rw [hx] at h1; cases h1
      exact ⟨V1, .refl e2, dp_mono e1 h2⟩⟩
theorem walkD_tup {K : PySem.W.Frag} {V : Hp} {a : Addr} {xs : List L2.V} {ds : List PyData} (h : SqT K V a xs) (da : DqAll K V xs ds) : WalkD K V (Itt K a) ds :=
  ⟨fun i V1 H1 hi e1 e2 => ⟨xs, _, e2.sqT (e1.sqT h), List.getElem?_eq_getElem (by rw [da_len da]; exact hi)⟩, fun V1 H1 e1 e2 => ⟨xs, e2.sqT (e1.sqT h), by rw [da_len da]; exact Nat.le_refl _⟩,
    fun i V1 H1 x H2 d hd e1 e2 y => by
      obtain ⟨rfl, y⟩ := y
      have hx := y xs (e2.sqT (e1.sqT h))
      obtain ⟨v, h1, h2⟩ := da_get da hd
      rw [hx] at h1; cases h1
      exact ⟨V1, .refl e2, dp_mono e1 h2⟩⟩
theorem di_list {tg : Expr} {f : DE} (h : PE X e (tD X.K f)) : PI X tg e (iD X.K (aList f)) := pi_w (pi_list h) fun σ H R ⟨BV, B, V, ρ, ds, E, hf, q⟩ => by
  unfold aList at hf
  split at hf
  · rename_i ds' e'
    cases hf
    refine ⟨BV, B, V, ρ, _, E, e', fun v V' H' g d => ?_⟩
    cases d with
    | @lst a xs _ hs da => exact ⟨a, rfl, ⟨xs, Or.inl (g.sub.rd hs)⟩, q _ V' H' g (walkD_list hs da)⟩
  · cases hf
def aTup (f : DE) : DA := fun ρ => match f ρ with
  | some (.tuple ds) => some ds
  | _ => none
theorem di_tup {tg : Expr} {f : DE} (h : PE X e (tD X.K f)) : PI X tg e (iD X.K (aTup f)) := pi_w (pi_tup h) fun σ H R ⟨BV, B, V, ρ, ds, E, hf, q⟩ => by
  unfold aTup at hf
  split at hf
  · rename_i ds' e'
    cases hf
    refine ⟨BV, B, V, ρ, _, E, e', fun v V' H' g d => ?_⟩
    cases d with
    | @tup a xs _ hs da => exact ⟨a, rfl, ⟨xs, g.sub.sqT hs⟩, q _ V' H' g (walkD_tup hs da)⟩
  · cases hf
def signs (z : Str) : List PyData := z.cps.toList.map fun c => .str ⟨#[c]⟩
def aStr (f : DE) : DA := fun ρ => match f ρ with
  | some (.str z) => some (signs z)
  | _ => none
theorem signs_len (z : Str) : (signs z).length = z.cps.size := by simp [signs]
theorem walkD_str {K : PySem.W.Frag} {V : Hp} {z : Str} : WalkD K V (Its z) (signs z) :=
  ⟨fun i V1 H1 hi _ _ => by rw [signs_len] at hi; exact hi, fun V1 H1 _ _ => by rw [signs_len]; exact Nat.le_refl _,
    fun i V1 H1 x H2 d hd e1 e2 y => by
      obtain ⟨rfl, c, hc, rfl⟩ := y
      unfold signs at hd
      rw [List.getElem?_map, Array.getElem?_toList, hc] at hd
      cases hd
      exact ⟨V1, .refl e2, .str _⟩⟩
theorem di_str {tg : Expr} {f : DE} (h : PE X e (tD X.K f)) : PI X tg e (iD X.K (aStr f)) := pi_w (pi_str h) fun σ H R ⟨BV, B, V, ρ, ds, E, hf, q⟩ => by
  unfold aStr at hf
  split at hf
  · rename_i ds' e'
    cases hf
    refine ⟨BV, B, V, ρ, _, E, e', fun v V' H' g d => ?_⟩
    cases d
    exact ⟨_, rfl, q _ V' H' g walkD_str⟩
  · cases hf
def rangeD (lo : Int) (n : Nat) : List PyData := (List.range n).map fun i => .int (lo + (i : Nat))
theorem walkD_range {K : PySem.W.Frag} {V : Hp} {lo : Int} {n : Nat} : WalkD K V (Itr lo n) (rangeD lo n) :=
  ⟨fun i V1 H1 hi _ _ => by simpa [rangeD, Itr] using hi, fun V1 H1 _ _ => by simp [rangeD, Itr],
    fun i V1 H1 x H2 d hd e1 e2 y => by
      obtain ⟨rfl, rfl⟩ := y
      unfold rangeD at hd
      rw [List.getElem?_map] at hd
      by_cases hi : i < n
      · rw [List.getElem?_range hi] at hd; cases hd
        exact ⟨V1, .refl e2, .int _⟩
      · rw [List.getElem?_eq_none (by simpa using hi)] at hd; cases hd⟩
/-- range(n), range(a, b) by their arguments -/
def rangeA : List PyData → Option (List PyData)
  | [.int j] => if -100000 ≤ j ∧ j ≤ 100000 then some (rangeD 0 j.toNat) else none
  | [.int i, .int j] => if (-100000 ≤ i ∧ i ≤ 100000) ∧ -100000 ≤ j ∧ j ≤ 100000 then some (rangeD i (j - i).toNat) else none
  | _ => none
def aRange (f : DA) : DA := fun ρ => (f ρ).bind rangeA
theorem di_range1 {tg : Expr} {f : DE} {pn : Pos} (hg : Gl X "range") (hm : X.mg "range" = none) (ha : PE X e (tD X.K f)) (hs : starEach [e] X.env = [(false, eval e X.env)] := by rfl) : PI X tg (.Call (.Name "range" pn) [e] [] pos) (iD X.K (aRange (aCons f aNil))) :=
  pi_w (pi_range1 hg hm (da_cons ha da_nil hs) hs) fun σ H R ⟨BV, B, V, ρ, ds, E, hf, q⟩ => by
    unfold aRange at hf
    cases h1 : aCons f aNil ρ with
    | none => rw [h1] at hf; cases hf
    | some xs =>
      rw [h1] at hf
      refine ⟨BV, B, V, ρ, _, E, h1, fun vs V' H' g d => ?_⟩
      obtain ⟨d0, dr, k1, k2, rfl⟩ := aCons_some h1
      cases k2
      cases d with
      | cons da dn =>
        cases dn
        cases da with
        | int j =>
          simp only [Option.bind_some, rangeA] at hf
          by_cases hj : -100000 ≤ j ∧ j ≤ 100000
          · simp [hj] at hf; subst hf
            exact ⟨j, rfl, by omega, by omega, q _ V' H' g walkD_range⟩
          · rw [if_neg hj] at hf; cases hf
        | _ => cases hf
theorem di_range2 {tg : Expr} {f1 f2 : DE} {pn : Pos} (hg : Gl X "range") (hm : X.mg "range" = none) (ha : PE X a (tD X.K f1)) (hb : PE X b (tD X.K f2)) (hs : starEach [a, b] X.env = (false, eval a X.env) :: starEach [b] X.env := by rfl) (hs2 : starEach [b] X.env = [(false, eval b X.env)] := by rfl) :
    PI X tg (.Call (.Name "range" pn) [a, b] [] pos) (iD X.K (aRange (aCons f1 (aCons f2 aNil)))) :=
  pi_w (pi_range2 hg hm (da_cons ha (da_cons hb da_nil hs2) hs) (by rw [hs, hs2]) hs2) fun σ H R ⟨BV, B, V, ρ, ds, E, hf, q⟩ => by
    unfold aRange at hf
    cases h1 : aCons f1 (aCons f2 aNil) ρ with
    | none => rw [h1] at hf; cases hf
    | some xs =>
      rw [h1] at hf
      refine ⟨BV, B, V, ρ, _, E, h1, fun vs V' H' g d => ?_⟩
      obtain ⟨d0, dr, k1, k2, rfl⟩ := aCons_some h1
      obtain ⟨d1, dr, k3, k4, rfl⟩ := aCons_some k2
      cases k4
      cases d with
      | cons da dn =>
        cases dn with
        | cons db dn =>
          cases dn
          cases da with
          | int i =>
            cases db with
            | int j =>
              simp only [Option.bind_some, rangeA] at hf
              by_cases hj : (-100000 ≤ i ∧ i ≤ 100000) ∧ -100000 ≤ j ∧ j ≤ 100000
              · rw [if_pos hj] at hf; cases hf
                exact ⟨i, j, rfl, by omega, q _ V' H' g walkD_range⟩
              · rw [if_neg hj] at hf; cases hf
            | _ => cases hf
          | _ => cases hf

/-! ### for -/
theorem Gr.rebase {BV B V H V' H' : Hp} (g : Gr BV B V H) (g' : Gr V B V' H') : Gr BV B V' H' := ⟨g.v.trans g'.v, g'.h, g'.sub, fun p h1 h2 => g'.nw p (g.nw p h1 h2) h2, fun p o u h => g.nf p o u (g'.nf p o u h)⟩
theorem EnvA.rebase {K : PySem.W.Frag} {BV : Hp} {B : Bs} {V H : Hp} {σ : L2.St} {ρ : List Sl} {S : Addr → Prop} (E : EnvA K BV B V H σ ρ S) : EnvA K V B V H σ ρ S := ⟨E.fp, ⟨.refl, E.gr.h, E.gr.sub, fun _ h _ => h, fun _ _ _ h => h⟩, E.xl⟩
theorem EnvA.unbase {K : PySem.W.Frag} {BV : Hp} {B : Bs} {V H V' H' : Hp} {σ : L2.St} {ρ : List Sl} {S : Addr → Prop} (g : Gr BV B V H) (E : EnvA K V B V' H' σ ρ S) : EnvA K BV B V' H' σ ρ S := ⟨E.fp, g.rebase E.gr, E.xl⟩
theorem FlOk.rebase {K : PySem.W.Frag} {BV : Hp} {B : Bs} {V H : Hp} {D : Ends} {r : Fl} (g : Gr BV B V H) (q : FlOk K BV B D r) : FlOk K V B D r := by
  cases r with
  | nx ρ => exact fun σ' V' H' E => q σ' V' H' (EnvA.unbase g E)
  | bk ρ => exact fun σ' V' H' E => q σ' V' H' (EnvA.unbase g E)
  | ct ρ => exact fun σ' V' H' E => q σ' V' H' (EnvA.unbase g E)
  | rt d => exact fun v V' H' E dd => q v V' H' (g.rebase E) dd
  | ro d ρ => exact fun v σ' V' H' F S E => q v σ' V' H' F S (EnvA.unbase g E)
def forGo (g : DG) (F : DS) : List PyData → DS
  | [], ρ => some (.nx ρ)
  | d :: ds, ρ => (g d ρ).bind fun ρ1 => (F ρ1).bind fun r => match r with
    | .nx ρ2 => forGo g F ds ρ2
    | .ct ρ2 => forGo g F ds ρ2
    | .bk ρ2 => some (.nx ρ2)
    | .rt d => some (.rt d)
    | .ro d ρ2 => some (.ro d ρ2)
def sFor (it : DA) (g : DG) (F : DS) : DS := fun ρ => (it ρ).bind fun ds => forGo g F ds ρ
theorem for_go {K : PySem.W.Frag} {J : It} {V : Hp} {ds : List PyData} (w : WalkD K V J ds) {is : List Nat} {g : DG} {F : DS} {D : Ends} {BV : Hp} {B : Bs} {r : Fl} (q : FlOk K BV B D r) {σ : L2.St} {H : Hp} {ρ : List Sl} (E : EnvD K BV B V H σ ρ) (h : forGo g F ds ρ = some r) :
    ∃ W : Nat → Nat → L2.St → Hp → Prop, (∃ m, W 0 m σ H) ∧ ∀ i m σ H, W i m σ H →
      (J.stop i H ∧ D.nx σ H) ∨ (J.go i H ∧ ∃ N : L2.St → Hp → Prop, (∀ σ' H', N σ' H' → ∃ m', m' < m ∧ W (i + 1) m' σ' H') ∧ ∀ x H', J.yld i H x H' → gD K is g x σ H' fun σ2 H2 => sD K F { D with nx := N, ct := N, bk := D.nx } σ2 H2) := by
  replace q := q.rebase E.gr
  replace E := E.rebase
  refine ⟨fun i m σ H => m = ds.length - i ∧ i ≤ ds.length ∧ ∃ V1 ρ1, EnvD K V B V1 H σ ρ1 ∧ forGo g F (ds.drop i) ρ1 = some r, ⟨ds.length, by simp, Nat.zero_le _, V, ρ, E, h⟩, ?_⟩
  rintro i m σ H ⟨rfl, hi, V1, ρ1, E1, h1⟩
  by_cases hlt : i < ds.length
  · rw [List.drop_eq_getElem_cons hlt] at h1
    unfold forGo at h1
    cases k1 : g ds[i] ρ1 with
    | none => rw [k1] at h1; cases h1
    | some ρ2 =>
      rw [k1] at h1
      simp only [Option.bind_some] at h1
      cases k2 : F ρ2 with
      | none => rw [k2] at h1; cases h1
      | some rr =>
        rw [k2] at h1
        simp only [Option.bind_some] at h1
        refine .inr ⟨w.go i V1 H hlt E1.gr.v E1.sub, fun σ' H' => ∃ V' ρ', EnvD K V B V' H' σ' ρ' ∧ forGo g F (ds.drop (i + 1)) ρ' = some r, fun σ' H' n => ⟨_, by omega, rfl, hlt, n⟩, fun x H' y => ?_⟩
        obtain ⟨V2, g2, d2⟩ := w.yld i V1 H x H' _ (List.getElem?_eq_getElem hlt) E1.gr.v E1.sub y
        refine ⟨V, B, V2, ρ1, ds[i], ρ2, E1.grow g2, d2, k1, fun σ' V' g3 E3 _ _ => ⟨V, B, V', ρ2, rr, E3, k2, ?_⟩⟩
        cases rr with
        | nx ρ3 => exact fun σ4 V4 H4 E4 => ⟨V4, ρ3, E4, h1⟩
        | ct ρ3 => exact fun σ4 V4 H4 E4 => ⟨V4, ρ3, E4, h1⟩
        | bk ρ3 => cases h1; exact q
        | rt d => cases h1; exact q
        | ro d ρ3 => cases h1; exact q
  · have ei : i = ds.length := by omega
    subst ei
    rw [List.drop_length] at h1
    cases h1
    exact .inl ⟨w.stop V1 H E1.gr.v E1.sub, q σ V1 H E1⟩
theorem ds_for {tg iter : Expr} {body : List Stmt} {it : DA} {is : List Nat} {g : DG} {F : DS} (hp : PassesOwn (model X.prog X.w) X.A X.env X.xe) (hc : X.calm = true) (hi : PI X tg iter (iD X.K it)) (hg : PG X tg (gD X.K is g)) (hb : PSs X body (sD X.K F))
    (hs : ∀ x, foldedSetIterable iter X.env x = pure x := by intro _; rfl) : PS X (.For tg iter body [] pos) (sD X.K (sFor it g F)) := ps_w (ps_for hp hc hi hg hb hs) fun D σ H ⟨BV, B, V, ρ, r, E, h, q⟩ => by
  unfold sFor at h
  cases h1 : it ρ with
  | none => rw [h1] at h; cases h
  | some ds =>
    rw [h1] at h
    exact ⟨BV, B, V, ρ, ds, E, h1, fun J V' H' g w => for_go w q (E.grow g) h⟩

/-! ### while, by a number of turns -/
def whileGo (t : DB) (F : DS) : Nat → DS
  | 0, _ => none
  | n + 1, ρ => (t ρ).bind fun x => if x = true then (F ρ).bind fun r => match r with
      | .nx ρ2 => whileGo t F n ρ2
      | .ct ρ2 => whileGo t F n ρ2
      | .bk ρ2 => some (.nx ρ2)
      | .rt d => some (.rt d)
      | .ro d ρ2 => some (.ro d ρ2)
    else some (.nx ρ)
def sWhile (n : Nat) (t : DB) (F : DS) : DS := whileGo t F n
theorem ds_while (n : Nat) {c : Expr} {body : List Stmt} {t : DB} {F : DS} (hp : PassesOwn (model X.prog X.w) X.A X.env X.xe) (hc : PT X c (tDT X.K t)) (hb : PSs X body (sD X.K F)) : PS X (.While c body [] pos) (sD X.K (sWhile n t F)) := ps_w (ps_while hp hc hb) fun D σ H ⟨BV, B, V, ρ, r, E, h, q⟩ => by
  refine ⟨fun m σ H => ∃ V ρ, EnvD X.K BV B V H σ ρ ∧ whileGo t F m ρ = some r, ⟨n, V, ρ, E, h⟩, ?_⟩
  rintro m σ H ⟨V1, ρ1, E1, h1⟩
  cases m with
  | zero => cases h1
  | succ m =>
    unfold whileGo at h1
    cases k1 : t ρ1 with
    | none => rw [k1] at h1; cases h1
    | some x =>
      rw [k1] at h1
      refine ⟨BV, B, V1, ρ1, x, E1, k1, fun V' H' g => ?_⟩
      cases x with
      | false =>
        cases h1
        exact q σ V' H' (E1.grow g)
      | true =>
        simp only [Option.bind_some, if_true] at h1
        cases k2 : F ρ1 with
        | none => rw [k2] at h1; cases h1
        | some rr =>
          rw [k2] at h1
          simp only [Option.bind_some] at h1
          refine ⟨fun σ' H' => ∃ V ρ, EnvD X.K BV B V H' σ' ρ ∧ whileGo t F m ρ = some r, fun σ' H' n => ⟨m, by omega, n⟩, BV, B, V', ρ1, rr, E1.grow g, k2, ?_⟩
          cases rr with
          | nx ρ3 => exact fun σ4 V4 H4 E4 => ⟨V4, ρ3, E4, h1⟩
          | ct ρ3 => exact fun σ4 V4 H4 E4 => ⟨V4, ρ3, E4, h1⟩
          | bk ρ3 => cases h1; exact q
          | rt d => cases h1; exact q
          | ro d ρ3 => cases h1; exact q

/-! ### comprehensions -/
def lcGo (g : DG) (t : DB) (f : DE) (ρ : List Sl) : List PyData → Option (List PyData)
  | [] => some []
  | d :: ds => (g d ρ).bind fun ρ1 => (t ρ1).bind fun b => if b = true then (f ρ1).bind fun y => (lcGo g t f ρ ds).map fun ys => y :: ys else lcGo g t f ρ ds
def nLc (it : DA) (g : DG) (t : DB) (f : DE) (vs : List Nat) : DA := fun ρ => (it ρ).bind fun ds => if ds.length ≤ 90000 then lcGo g t f (wipeD ρ vs) ds else none
def tYesD : DB := fun _ => some true
theorem pts_w {es : List Expr} {t t' : TT} (h : PTs X es t) (i : ∀ σ H Q, t' σ H Q → t σ H Q) : PTs X es t' := ⟨fun pins s σ H Q I q => h.run pins s σ H Q I (i _ _ _ q)⟩
end
end DL

namespace DL
open PySem PySem.Spec PyProof.Rows L2
section
variable {X : Cx} {e a b : Expr} {es : List Expr} {pos : Pos} {st : Stmt} {rest : List Stmt}
theorem dts_nil : PTs X [] (tDT X.K tYesD) := pts_w pts_nil fun σ H Q ⟨BV, B, V, ρ, b, E, h, q⟩ => by
  cases h
  exact q V H (.refl E.sub)
theorem dts_one {c : Expr} {t : DB} (h : PT X c (tDT X.K t)) : PTs X [c] (tDT X.K t) := pts_one h
/-- the reading of a comprehension -/
theorem tLc_of {K : PySem.W.Frag} {it : DA} {is : List Nat} {g : DG} {t : DB} {f : DE} {vs : List Nat} (hv : ∀ i ∈ is, i ∈ vs) (σ : L2.St) (H : Hp) (Q : VK) (h : tN K (nLc it g t f vs) σ H Q) :
    tLc (iD K it) (gD K is g) (tDT K t) (tD K f) vs σ H Q := by
  obtain ⟨BV, B, V, ρ, ys, E, h, q⟩ := h
  unfold nLc at h
  cases h1 : it ρ with
  | none => rw [h1] at h; cases h
  | some ds =>
    rw [h1] at h
    simp only [Option.bind_some] at h
    by_cases hz : ds.length ≤ 90000
    · rw [if_pos hz] at h
      refine ⟨BV, B, V, ρ, ds, E, h1, fun J V1 H1 g1 w D hD => ?_⟩
      have E1 := E.grow g1
      have hBD : B.h D = none := E1.gr.h.back hD
      refine ⟨fun i m H => m = ds.length - i ∧ i ≤ ds.length ∧ ∃ V2 acc xs zs, EnvD K V1 (B.out D) V2 H σ ρ ∧ V2 D = none ∧ H D = some (.lst acc) ∧ DqAll K V2 acc xs ∧ Gr V1 H1 V2 H ∧ acc.length ≤ i ∧ lcGo g t f (wipeD ρ vs) (ds.drop i) = some zs ∧ ys = xs ++ zs,
        ⟨ds.length, by simp, Nat.zero_le _, V1, [], [], ys, ((E1.rebase.fresh (S' := fun p => p = D) fun p z => by rw [z]; exact hD).grow (Gr.held E1.sub hD)).out (by rw [upd_same]; simp), E1.sub.back hD, upd_same, .nil, Gr.held E1.sub hD, Nat.le_refl _, h, rfl⟩, ?_⟩
      rintro i m H2 ⟨rfl, hi, V2, acc, xs, zs, E2, hV, hD2, da, g2, hal, hl, rfl⟩
      by_cases hlt : i < ds.length
      · refine .inr ⟨w.go i V2 H2 hlt g2.v g2.sub, fun H' => ∃ V2 acc xs zs', EnvD K V1 (B.out D) V2 H' σ ρ ∧ V2 D = none ∧ H' D = some (.lst acc) ∧ DqAll K V2 acc xs ∧ Gr V1 H1 V2 H' ∧ acc.length ≤ i + 1 ∧ lcGo g t f (wipeD ρ vs) (ds.drop (i + 1)) = some zs' ∧ _ = xs ++ zs', fun H' n => ⟨_, by omega, rfl, hlt, n⟩, fun x H3 y => ?_⟩
        obtain ⟨V3, g3, d3⟩ := w.yld i V2 H2 x H3 _ (List.getElem?_eq_getElem hlt) g2.v g2.sub y
        rw [List.drop_eq_getElem_cons hlt] at hl
        unfold lcGo at hl
        cases k1 : g ds[i] (wipeD ρ vs) with
        | none => rw [k1] at hl; cases hl
        | some ρ1 =>
          rw [k1] at hl
          simp only [Option.bind_some] at hl
          cases k2 : t ρ1 with
          | none => rw [k2] at hl; cases hl
          | some bb =>
            rw [k2] at hl
            simp only [Option.bind_some] at hl
            refine ⟨V1, B.out D, V3, wipeD ρ vs, ds[i], ρ1, (E2.grow g3).wipe vs, d3, k1, fun σ4 V4 g4 E4 o4 _ => ⟨?_, V1, B.out D, V4, ρ1, bb, E4, k2, fun V5 H5 g5 => ?_⟩⟩
            · have z := o4.wipe (vs := vs) hv
              rw [z]
              exact Only.wipe (is := vs) ⟨wipe_length σ vs, fun j hj => wipe_out hj⟩ fun _ h => h
            · have g35 := g3.trans (g4.trans g5)
              have hV5 : V5 D = none := g35.nw D hV (by rw [hD2]; simp)
              have hD5 := g35.h _ _ hD2
              cases bb with
              | false =>
                simp only [Bool.false_eq_true, if_false] at hl
                exact ⟨V5, acc, xs, zs, E2.grow g35, hV5, hD5, da_mono g35.v da, g2.trans g35, by omega, hl, rfl⟩
              | true =>
                simp only [if_true] at hl
                cases k3 : f ρ1 with
                | none => rw [k3] at hl; cases hl
                | some yv =>
                  rw [k3] at hl
                  simp only [Option.bind_some] at hl
                  cases k4 : lcGo g t f (wipeD ρ vs) (ds.drop (i + 1)) with
                  | none => rw [k4] at hl; cases hl
                  | some zr =>
                    rw [k4] at hl
                    cases hl
                    refine ⟨V1, B.out D, V5, ρ1, yv, E4.grow g5, k3, fun v V6 H6 g6 d6 => ?_⟩
                    have g36 := g35.trans g6
                    have hV6 : V6 D = none := g36.nw D hV (by rw [hD2]; simp)
                    have hD6 := g36.h _ _ hD2
                    have nD : ∀ a u, V6 a = some u → a ≠ D := fun a u z w => by subst w; rw [hV6] at z; cases z
                    have E6 := E2.grow g36
                    refine ⟨acc, hD6, by have := line_lt (n := acc.length) (by omega); exact this, V6, acc ++ [v], xs ++ [yv], zr, ?_, hV6, upd_same, da_app (da_mono g36.v da) (.cons d6 .nil), ?_, by rw [List.length_append, List.length_singleton]; omega, rfl, by rw [List.append_assoc]; rfl⟩
                    · exact E6.pushD hBD hV6 (.inr rfl)
                    · have gg := g2.trans g36
                      refine ⟨gg.v, fun a u z => ?_, fun a u z => ?_, gg.nw, gg.nf⟩
                      · rw [upd_ne (ne_of_none z hD)]; exact gg.h a u z
                      · rw [upd_ne (nD a u z)]; exact gg.sub a u z
      · have ei : i = ds.length := by omega
        subst ei
        rw [List.drop_length] at hl
        cases hl
        rw [List.append_nil]  at q
        exact .inl ⟨w.stop V2 H2 g2.v g2.sub, q D acc V2 H2 (g1.trans g2) (g1.h.back hD) hV hD2 da⟩
    · rw [if_neg hz] at h; cases h
theorem dn_lc {elt tg iter : Expr} {ifs : List Expr} {scope : Scope} {own : List (Str × Nat)} {it : DA} {is : List Nat} {g : DG} {t : DB} {f : DE} (hc : X.calm = true) (hN : X.N.Nodup) (hi : PI X tg iter (iD X.K it)) (ok : BlkOk X.N X.env.scope scope own) (hv : ∀ i ∈ is, i ∈ own.map (·.2))
    (hg : ∀ (s : Shared) (H : Hp) (C : Addr) (cl : List (Str × Addr)) (fp : List Addr), PG (X.blk s H scope (compEnvC scope cl C X.env) fp) tg (gD X.K is g)) (ht : ∀ (s : Shared) (H : Hp) (C : Addr) (cl : List (Str × Addr)) (fp : List Addr), PTs (X.blk s H scope (compEnvC scope cl C X.env) fp) ifs (tDT X.K t))
    (he : ∀ (s : Shared) (H : Hp) (C : Addr) (cl : List (Str × Addr)) (fp : List Addr), PE (X.blk s H scope (compEnvC scope cl C X.env) fp) elt (tD X.K f)) (hs : ∀ x, foldedSetIterable iter X.env x = pure x := by intro _; rfl) :
    PE X (.ListComp elt [⟨tg, iter, ifs, 0⟩] scope pos) (tN X.K (nLc it g t f (own.map (·.2)))) := pe_w (pe_lc hc hN hi ok hg ht he hs) (tLc_of hv)
theorem de_lc {elt tg iter : Expr} {ifs : List Expr} {scope : Scope} {own : List (Str × Nat)} {it : DA} {is : List Nat} {g : DG} {t : DB} {f : DE} (hc : X.calm = true) (hN : X.N.Nodup) (hi : PI X tg iter (iD X.K it)) (ok : BlkOk X.N X.env.scope scope own) (hv : ∀ i ∈ is, i ∈ own.map (·.2))
    (hg : ∀ (s : Shared) (H : Hp) (C : Addr) (cl : List (Str × Addr)) (fp : List Addr), PG (X.blk s H scope (compEnvC scope cl C X.env) fp) tg (gD X.K is g)) (ht : ∀ (s : Shared) (H : Hp) (C : Addr) (cl : List (Str × Addr)) (fp : List Addr), PTs (X.blk s H scope (compEnvC scope cl C X.env) fp) ifs (tDT X.K t))
    (he : ∀ (s : Shared) (H : Hp) (C : Addr) (cl : List (Str × Addr)) (fp : List Addr), PE (X.blk s H scope (compEnvC scope cl C X.env) fp) elt (tD X.K f)) (hs : ∀ x, foldedSetIterable iter X.env x = pure x := by intro _; rfl) :
    PE X (.ListComp elt [⟨tg, iter, ifs, 0⟩] scope pos) (tD X.K (dL (nLc it g t f (own.map (·.2))))) := de_new (dn_lc hc hN hi ok hv hg ht he hs)
/-- name = [..] -/
theorem ds_setLc {i : Nat} {y : Str} {py : Pos} {elt tg iter : Expr} {ifs : List Expr} {scope : Scope} {own : List (Str × Nat)} {spos : Pos} {it : DA} {is : List Nat} {g : DG} {t : DB} {f : DE} (hc : X.calm = true) (hN : X.N.Nodup) (hy : X.N[i]? = some y) (hyl : X.env.scope.names.lookup y = some .local)
    (hsw : swapsWith (.ListComp elt [⟨tg, iter, ifs, 0⟩] scope pos) (some (.Name y py)) spos.line X.env = pure true) (hi : PI X tg iter (iD X.K it)) (ok : BlkOk X.N X.env.scope scope own) (hv : ∀ i ∈ is, i ∈ own.map (·.2))
    (hg : ∀ (s : Shared) (H : Hp) (C : Addr) (cl : List (Str × Addr)) (fp : List Addr), PG (X.blk s H scope (compEnvC scope cl C X.env) fp) tg (gD X.K is g)) (ht : ∀ (s : Shared) (H : Hp) (C : Addr) (cl : List (Str × Addr)) (fp : List Addr), PTs (X.blk s H scope (compEnvC scope cl C X.env) fp) ifs (tDT X.K t))
    (he : ∀ (s : Shared) (H : Hp) (C : Addr) (cl : List (Str × Addr)) (fp : List Addr), PE (X.blk s H scope (compEnvC scope cl C X.env) fp) elt (tD X.K f)) (hs : ∀ x, foldedSetIterable iter X.env x = pure x := by intro _; rfl) :
    PS X (.Assign [.Name y py] (.ListComp elt [⟨tg, iter, ifs, 0⟩] scope pos) spos) (sD X.K (sSet i (dL (nLc it g t f (own.map (·.2)))))) :=
  ps_w (ps_setLc hc hN hy hyl hsw hi ok hg ht he hs) fun D σ H ⟨BV, B, V, ρ, r, E, h, q⟩ => by
    unfold sSet dL at h
    cases h1 : nLc it g t f (own.map (·.2)) ρ with
    | none => rw [h1] at h; cases h
    | some ds =>
      rw [h1] at h
      cases h
      exact tLc_of hv σ H _ ⟨BV, B, V, ρ, ds, E, h1, fun p vs V' H' g n hv h' da => q _ _ _ ((E.grow (g.freeze n h' hv)).set (.lst (.inl upd_same) (da_mono (Ex.new hv) da)) i)⟩

/-! ### a def -/
def startD (N : Nat) (ds : List PyData) : List Sl := ds.map Sl.d ++ List.replicate (N - ds.length) .un
def fnDen (N : Nat) (F : DS) : List PyData → Option PyData := fun ds => (F (startD N ds)).bind fun r => match r with
  | .rt d => some d
  | .nx _ => some .none
  | _ => none
theorem fnDen_some {N : Nat} {F : DS} {ds : List PyData} {d : PyData} (h : fnDen N F ds = some d) : F (startD N ds) = some (.rt d) ∨ ∃ ρ, F (startD N ds) = some (.nx ρ) ∧ d = .none := by
  unfold fnDen at h
  cases k : F (startD N ds) with
  | none => rw [k] at h; cases h
  | some r =>
    rw [k] at h
    cases r with
    | rt x => cases h; exact .inl rfl
    | nx ρ => cases h; exact .inr ⟨ρ, rfl, rfl⟩
    | bk ρ => cases h
    | ct ρ => cases h
    | ro _ _ => cases h
theorem start_ok {K : PySem.W.Frag} {V H : Hp} {N : List Str} {vs : List L2.V} {ds : List PyData} (s : Ex V H) (da : DqAll K V vs ds) : EnvD K V (Bs.of H) V H (L2.start N vs) (startD N.length ds) := by
  have hl := da_len da
  refine ⟨⟨fun _ _ => False, fun i x h => ?_, fun i j p _ h => h.elim, fun i p h => h.elim⟩, .refl s, fun p h => h.elim⟩
  unfold startD at h
  unfold L2.start
  by_cases hi : i < ds.length
  · rw [List.getElem?_append_left (by simpa using hi), List.getElem?_map] at h
    rw [List.getElem?_append_left (by rw [List.length_map, hl]; exact hi), List.getElem?_map]
    cases k : ds[i]? with
    | none => rw [k] at h; cases h
    | some d =>
      rw [k] at h
      cases h
      obtain ⟨v, h1, h2⟩ := da_get da k
      exact ⟨some v, by rw [h1]; rfl, fun p z => z.elim, ⟨h2, fun p z => z⟩, trivial⟩
  · have hn : i < N.length := by
      have := getN h
      simp at this
      omega
    rw [List.getElem?_append_right (by simpa using hi)] at h
    rw [List.getElem?_append_right (by rw [List.length_map, hl]; omega)]
    rw [List.getElem?_replicate] at h ⊢
    rw [List.length_map] at h ⊢
    rw [if_pos (by omega)] at h
    cases h
    exact ⟨none, by rw [if_pos (by omega)], fun p z => z.elim, fun p z => z, trivial⟩
theorem fnD {P : Program} {w : World} {K : PySem.W.Frag} {mg : Str → Option Value} {base : Heap} {x qual : Str} {st : Stmt} {f : Addr} {fd : FuncData} {N ps : List Str} {k : Nat} {F : DS} (Fu : Fun K x qual st f fd) (S : FnScope N ps (defScope st))
    (hb : ∀ (cdv : Value) (A : Around) (outer : List Env) (s : Shared) (H : Hp) (E : XK), Room k (A.deeper (envOfC qual (defScope st) s.heap.objs.size f cdv)) → PSs (cxOf CX0 P w K mg base N qual (defScope st) f cdv A outer s H E).nox (defBody st) (sD K F)) :
    FnOk P w K mg base CX0 (k + 1) f fd ps (spD K ps.length (fnDen N.length F)) := by
  refine Fu.ok S (fun vs H Q E h => h.1) fun cdv A outer s H vs Q E hr h => ⟨_, hb cdv A outer s H E hr, ?_⟩
  obtain ⟨_, V, ds, d, s', da, hg, q⟩ := h
  have E0' := start_ok (N := N) s' da
  rcases fnDen_some hg with k | ⟨ρ, k, rfl⟩
  · exact ⟨V, Bs.of H, V, _, _, E0', k, fun v V' H' g d => q v V' H' g d⟩
  · exact ⟨V, Bs.of H, V, _, _, E0', k, fun σ' V' H' E' => q _ V' H' E'.gr .non⟩
end
end DL

namespace DL
open PySem PySem.Spec PyProof.Rows L2
section
variable {X : Cx}
theorem op_or2 {f : Value → Value → Sem Value} {r1 r2 : R2} (h1 : OpR X f r1) (h2 : OpR X f r2) : OpR X f (fun x y H Q => r1 x y H Q ∨ r2 x y H Q) := fun pins s σ H x y v u Q I rx ry h => h.elim (h1 pins s σ H x y v u Q I rx ry) (h2 pins s σ H x y v u Q I rx ry)
theorem call_or2 {f : Value} {r1 r2 : List V → Hp → VK → Prop} (h1 : CallR X f r1) (h2 : CallR X f r2) : CallR X f (fun x H Q => r1 x H Q ∨ r2 x H Q) := fun pins s σ H xs us Q I r h => h.elim (h1 pins s σ H xs us Q I r) (h2 pins s σ H xs us Q I r)
theorem mt_or2 {id : String} {r1 r2 : V → List V → Hp → VK → Prop} (h1 : MtR X id r1) (h2 : MtR X id r2) : MtR X id (fun x xs H Q => r1 x xs H Q ∨ r2 x xs H Q) := fun pins s σ H x xs v us Q I rx rs h => h.elim (h1 pins s σ H x xs v us Q I rx rs) (h2 pins s σ H x xs v us Q I rx rs)
theorem lstR {pins : List (Addr × Obj)} {σ : L2.St} {H : Hp} {s : Shared} {l : Addr} {xs : List L2.V} (I : Inv X pins σ H s) (hH : Rd H l (.lst xs)) : xs.length ≤ sizeLine ∧ ∃ (its : List Value) (n : Nat), Vals xs its ∧ xs.length = its.length ∧ s.heap.get? l = some { cls := .type "list", data := .seq its.toArray n } := by
  obtain ⟨z, its, n, r, e⟩ := hH.ok I.hok
  exact ⟨z, its, n, r, r.length, e⟩
/-! ### + -/
def rCatR : R2 := fun x y H Q => ∃ l b xs zs, x = .ref l ∧ y = .ref b ∧ Rd H l (.lst xs) ∧ Rd H b (.lst zs) ∧ xs.length + zs.length ≤ sizeLine ∧ ∀ p, H p = none → Q (.ref p) (upd H p (.lst (xs ++ zs)))
theorem op_catR : OpR X (binaryOp .Add) rCatR := by
  intro pins s σ H x y v u Q I rx ry h
  obtain ⟨l, b, xs, zs, rfl, rfl, hH, hB, hz, q⟩ := h
  cases rx
  cases ry
  obtain ⟨z, its, n, r, hl, e⟩ := lstR I hH
  obtain ⟨z2, its2, n2, r2, hl2, e2⟩ := lstR I hB
  refine PySem.P.add_list e e2 ?_ (by rw [List.size_toArray, List.size_toArray]; omega)
  have ea : its.toArray ++ its2.toArray = (its ++ its2).toArray := by simp
  rw [ea]
  exact ⟨.ref _, _, I.lnew (t' := s.toks) (r.append r2) (by rw [List.length_append]; omega), rfl, q _ I.fresh⟩
def addP : PyData → PyData → Option PyData
  | .int i, .int j => some (.int (i + j))
  | .int i, .bool k => some (.int (i + b2i k))
  | .str a, .str b => if a.length + b.length ≤ 100000 then some (.str (a ++ b)) else none
  | .list a, .list b => if a.length + b.length ≤ 100000 then some (.list (a ++ b)) else none
  | .tuple a, .tuple b => if a.length + b.length ≤ 100000 then some (.tuple (a ++ b)) else none
  | _, _ => none
def rAddP (K : PySem.W.Frag) : R2 := fun x y H Q => rI0 (fun i j => .int (i + j)) x y H Q ∨ ((∃ i k, x = .int i ∧ y = .bl k ∧ Q (.int (i + b2i k)) H) ∨ ((∃ i j, x = .str i ∧ y = .str j ∧ i.length + j.length ≤ sizeLine ∧ Q (.str (i ++ j)) H) ∨ (rCatR x y H Q ∨ rCatA K x y H Q)))
theorem op_addP : OpR X (binaryOp .Add) (rAddP X.K) := op_or2 op_add (op_or2 op_add_ib (op_or2 op_add_str (op_or2 op_catR op_catA)))
theorem od_add {K : PySem.W.Frag} : OpD K (rAddP K) addP := by
  intro V H x y d e z Q s hx hy ho q
  cases hx with
  | non => cases hy <;> cases ho
  | bl _ => cases hy <;> cases ho
  | lk _ _ => cases hy <;> cases ho
  | int i =>
    cases hy with
    | int j => cases ho; exact .inl ⟨i, j, rfl, rfl, keep s q (.int _)⟩
    | bl k => cases ho; exact .inr (.inl ⟨i, k, rfl, rfl, keep s q (.int _)⟩)
    | _ => cases ho
  | str a =>
    cases hy with
    | str b =>
      simp only [addP] at ho
      split at ho
      · rename_i hl; cases ho
        exact .inr (.inr (.inl ⟨a, b, rfl, rfl, line_of hl, keep s q (.str _)⟩))
      · cases ho
    | _ => cases ho
  | lst h1 d1 =>
    cases hy with
    | lst h2 d2 =>
      simp only [addP] at ho
      split at ho
      · rename_i hl; cases ho
        exact .inr (.inr (.inr (.inl ⟨_, _, _, _, rfl, rfl, s.rd h1, s.rd h2, by rw [da_len d1, da_len d2]; exact line_of hl, fun p n => newL s q (da_app d1 d2) n⟩)))
      · cases ho
    | _ => cases ho
  | tup h1 d1 =>
    cases hy with
    | tup h2 d2 =>
      simp only [addP] at ho
      split at ho
      · rename_i hl; cases ho
        refine .inr (.inr (.inr (.inr ⟨_, _, _, _, rfl, rfl, s.sqT h1, s.sqT h2, by rw [da_len d1, da_len d2]; exact line_of hl, fun z => ?_, fun _ z => ?_, fun _ _ p n => newT s q (da_app d1 d2) n⟩)))
        · subst z; cases d1; exact keep s q (.tup h2 d2)
        · subst z; cases d2
          rw [List.append_nil] at q
          exact keep s q (.tup h1 d1)
      · cases ho
    | _ => cases ho
/-! ### - * // % ** -/
def subP : PyData → PyData → Option PyData
  | .int i, .int j => some (.int (i - j))
  | _, _ => none
theorem od_sub {K : PySem.W.Frag} : OpD K (rI0 fun i j => .int (i - j)) subP := by
  intro V H x y d e z Q s hx hy ho q
  cases hx <;> cases hy <;> cases ho
  exact ⟨_, _, rfl, rfl, keep s q (.int _)⟩
def smallI (i : Int) : Bool := decide (-(2 ^ 64) < i) && decide (i < 2 ^ 64)
def mulP : PyData → PyData → Option PyData
  | .int i, .int j => if (smallI i || smallI j) = true then some (.int (i * j)) else none
  | _, _ => none
theorem od_mul {K : PySem.W.Frag} : OpD K (rI CMul fun i j => .int (i * j)) mulP := by
  intro V H x y d e z Q s hx hy ho q
  cases hx <;> cases hy <;> try cases ho
  rename_i i j
  simp only [mulP] at ho
  split at ho
  · rename_i h
    cases ho
    refine ⟨_, _, rfl, rfl, ?_, keep s q (.int _)⟩
    simp only [smallI, Bool.or_eq_true, Bool.and_eq_true, decide_eq_true_eq] at h
    exact h
  · cases ho
def smallD (j : Int) : Bool := decide (0 < j) && decide (j < 2 ^ 64)
def fdivP : PyData → PyData → Option PyData
  | .int i, .int j => if smallD j = true then some (.int (i / j)) else none
  | _, _ => none
theorem od_fdiv {K : PySem.W.Frag} : OpD K (rI CDivW fun i j => .int (i / j)) fdivP := by
  intro V H x y d e z Q s hx hy ho q
  cases hx <;> cases hy <;> try cases ho
  rename_i i j
  simp only [fdivP] at ho
  split at ho
  · rename_i h
    cases ho
    simp only [smallD, Bool.and_eq_true, decide_eq_true_eq] at h
    exact ⟨_, _, rfl, rfl, wide_div (b := 64) h.1 (by omega) (by decide) (by decide), keep s q (.int _)⟩
  · cases ho
def modP : PyData → PyData → Option PyData
  | .int i, .int j => if 0 < j then some (.int (i % j)) else none
  | _, _ => none
theorem od_mod {K : PySem.W.Frag} : OpD K (rI (fun _ j => 0 < j) fun i j => .int (i % j)) modP := by
  intro V H x y d e z Q s hx hy ho q
  cases hx <;> cases hy <;> try cases ho
  rename_i i j
  simp only [modP] at ho
  split at ho
  · rename_i h
    cases ho
    exact ⟨_, _, rfl, rfl, h, keep s q (.int _)⟩
  · cases ho
def powP : PyData → PyData → Option PyData
  | .int i, .int j => if 0 ≤ j ∧ j ≤ 1000 ∧ i.natAbs < 1000 then some (.int (i ^ j.toNat)) else none
  | _, _ => none
theorem od_pow {K : PySem.W.Frag} : OpD K (rI CPow fun i j => .int (i ^ j.toNat)) powP := by
  intro V H x y d e z Q s hx hy ho q
  cases hx <;> cases hy <;> try cases ho
  rename_i i j
  simp only [powP] at ho
  split at ho
  · rename_i h
    cases ho
    exact ⟨_, _, rfl, rfl, ⟨h.1, by omega, by omega⟩, keep s q (.int _)⟩
  · cases ho
def negP : PyData → Option PyData
  | .int i => some (.int (-i))
  | _ => none
theorem ud_neg {K : PySem.W.Frag} : UnD K (rU fun i => .int (-i)) negP := by
  intro V H x d z Q s hx ho q
  cases hx <;> cases ho
  exact ⟨_, rfl, keep s q (.int _)⟩
/-! ### == != -/
def eqP (x y : PyData) : Option PyData := if (SeqAt.shaped x && SeqAt.shaped y) = true then some (.bool (PyData.eqv x y)) else none
def neP (x y : PyData) : Option PyData := if (SeqAt.shaped x && SeqAt.shaped y) = true then some (.bool (!PyData.eqv x y)) else none
/-- the script against [] -/
def nePS : PyData → PyData → Option PyData
  | .dict [(.list ds, .none)], .list [] => if (SeqAt.shaped (.list ds)) = true then some (.bool (!ds.isEmpty)) else none
  | x, y => neP x y
theorem od_eq {K : PySem.W.Frag} : OpD K (rEqD K) eqP := by
  intro V H x y d e z Q s hx hy ho q
  unfold eqP at ho
  split at ho
  · rename_i h
    cases ho
    rw [Bool.and_eq_true] at h
    exact ⟨d, e, (dp_mono s hx).dp (noLk_of _ (SeqAt.canLay_of_shaped h.1)), (dp_mono s hy).dp (noLk_of _ (SeqAt.canLay_of_shaped h.2)), h.1, h.2, keep s q (.bl _)⟩
  · cases ho
theorem od_ne {K : PySem.W.Frag} : OpD K (rNeD K) neP := by
  intro V H x y d e z Q s hx hy ho q
  unfold neP at ho
  split at ho
  · rename_i h
    cases ho
    rw [Bool.and_eq_true] at h
    exact ⟨d, e, (dp_mono s hx).dp (noLk_of _ (SeqAt.canLay_of_shaped h.1)), (dp_mono s hy).dp (noLk_of _ (SeqAt.canLay_of_shaped h.2)), h.1, h.2, keep s q (.bl _)⟩
  · cases ho
theorem nePS_other {x y : PyData} (h : ∀ ds, x ≠ .dict [(.list ds, .none)]) : nePS x y = neP x y := by
  unfold nePS
  split
  · rename_i ds; exact absurd rfl (h ds)
  · rfl
theorem od_neS {K : PySem.W.Frag} : OpD K (rNeD K) nePS := by
  intro V H x y d e z Q s hx hy ho q
  cases hx with
  | @lk a xs ds hs da =>
    cases hy with
    | @lst b ys es hb db =>
      cases db with
      | nil =>
        simp only [nePS] at ho
        split at ho
        · rename_i h
          cases ho
          refine ⟨.list ds, .list [], .lst (s.sqL hs) (DqAll.dp (da_mono s da) ?_), .lst (.inl (s.rd hb)) .nil, h, by decide, ?_⟩
          · have := noLk_of _ (SeqAt.canLay_of_shaped h)
            rwa [noLk] at this
          · have e : (!PyData.eqv (.list ds) (.list [])) = !ds.isEmpty := by cases ds <;> simp [PyData.eqv, PyData.eqvAll]
            rw [e]
            exact keep s q (.bl _)
        · cases ho
      | cons _ _ => simp [nePS, neP, SeqAt.shaped, PyData.canLay0] at ho
    | _ => simp [nePS, neP, SeqAt.shaped, PyData.canLay0] at ho
  | non => exact od_ne V H _ y _ e z Q s .non hy ho q
  | bl b => exact od_ne V H _ y _ e z Q s (.bl b) hy ho q
  | int b => exact od_ne V H _ y _ e z Q s (.int b) hy ho q
  | str b => exact od_ne V H _ y _ e z Q s (.str b) hy ho q
  | lst h1 d1 => exact od_ne V H _ y _ e z Q s (.lst h1 d1) hy (by rw [← nePS_other (fun _ h => by cases h)]; exact ho) q
  | tup h1 d1 => exact od_ne V H _ y _ e z Q s (.tup h1 d1) hy (by rw [← nePS_other (fun _ h => by cases h)]; exact ho) q
/-! ### < <= > >= -/
def ltP : PyData → PyData → Option PyData
  | .int i, .int j => some (.bool (decide (i < j)))
  | .str i, .str j => some (.bool (decide (i.cps.toList < j.cps.toList)))
  | _, _ => none
def rLtP : R2 := fun x y H Q => rI0 (fun i j => .bl (decide (i < j))) x y H Q ∨ ∃ i j, x = .str i ∧ y = .str j ∧ Q (.bl (decide (i.cps.toList < j.cps.toList))) H
theorem op_ltP : OpR X (compareOp .Lt) rLtP := op_or2 op_lt op_lt_str
theorem od_lt {K : PySem.W.Frag} : OpD K rLtP ltP := by
  intro V H x y d e z Q s hx hy ho q
  cases hx <;> cases hy <;> cases ho
  · exact .inl ⟨_, _, rfl, rfl, keep s q (.bl _)⟩
  · exact .inr ⟨_, _, rfl, rfl, keep s q (.bl _)⟩
def leP : PyData → PyData → Option PyData
  | .int i, .int j => some (.bool (decide (i ≤ j)))
  | _, _ => none
theorem od_le {K : PySem.W.Frag} : OpD K (rI0 fun i j => .bl (decide (i ≤ j))) leP := by
  intro V H x y d e z Q s hx hy ho q
  cases hx <;> cases hy <;> cases ho
  exact ⟨_, _, rfl, rfl, keep s q (.bl _)⟩
def gtP : PyData → PyData → Option PyData
  | .int i, .int j => some (.bool (decide (j < i)))
  | _, _ => none
theorem od_gt {K : PySem.W.Frag} : OpD K (rI0 fun i j => .bl (decide (j < i))) gtP := by
  intro V H x y d e z Q s hx hy ho q
  cases hx <;> cases hy <;> cases ho
  exact ⟨_, _, rfl, rfl, keep s q (.bl _)⟩
def geP : PyData → PyData → Option PyData
  | .int i, .int j => some (.bool (decide (j ≤ i)))
  | _, _ => none
theorem od_ge {K : PySem.W.Frag} : OpD K (rI0 fun i j => .bl (decide (j ≤ i))) geP := by
  intro V H x y d e z Q s hx hy ho q
  cases hx <;> cases hy <;> cases ho
  exact ⟨_, _, rfl, rfl, keep s q (.bl _)⟩
/-! ### in -/
def flatD : PyData → Bool
  | .none | .bool _ | .int _ | .str _ => true
  | _ => false
theorem flat_of {K : PySem.W.Frag} {V : Hp} {v : L2.V} {d : PyData} (h : Dq K V v d) (f : flatD d = true) : flatV v = true := by
  cases h <;> first | rfl | cases f
theorem flats_of {K : PySem.W.Frag} {V : Hp} : ∀ {vs : List L2.V} {ds : List PyData}, DqAll K V vs ds → ds.all flatD = true → vs.all flatV = true
  | _, _, .nil, _ => rfl
  | _, _, .cons a b, f => by
    rw [List.all_cons, Bool.and_eq_true] at f ⊢
    exact ⟨flat_of a f.1, flats_of b f.2⟩
theorem eqV_of {K : PySem.W.Frag} {V : Hp} {v u : L2.V} {d e : PyData} (h : Dq K V v d) (k : Dq K V u e) (f : flatD d = true) (g : flatD e = true) : eqV v u = PyData.eqv d e := by
  cases h <;> cases k <;> first | cases f | cases g | rfl | skip
  all_goals simp [eqV, PyData.eqv, Bool.beq_eq_decide_eq]
theorem inV_of {K : PySem.W.Frag} {V : Hp} {v : L2.V} {d : PyData} (h : Dq K V v d) (f : flatD d = true) : ∀ {vs : List L2.V} {ds : List PyData}, DqAll K V vs ds → ds.all flatD = true → inV v vs = ds.any fun z => PyData.eqv z d
  | _, _, .nil, _ => rfl
  | _, _, .cons a b, g => by
    rw [List.all_cons, Bool.and_eq_true] at g
    show (eqV _ v || inV v _) = _
    rw [eqV_of a h g.1 f, inV_of h f b g.2]
    rfl
def inDs (x : PyData) (ds : List PyData) : Option Bool := if (flatD x && ds.all flatD) = true then some (ds.any fun z => PyData.eqv z x) else none
def inB : PyData → PyData → Option Bool
  | .str i, .str j => some (!(Builtin.Str.occurrences j i 0 j.length 1).isEmpty)
  | x, .list ds => inDs x ds
  | x, .tuple ds => inDs x ds
  | _, _ => none
def inP (x y : PyData) : Option PyData := (inB x y).map .bool
def notInP (x y : PyData) : Option PyData := (inB x y).map fun b => .bool (!b)
def rInP (K : PySem.W.Frag) (neg : Bool) : R2 := fun x y H Q => (∃ i j, x = .str i ∧ y = .str j ∧ Q (.bl (if neg then !(!(Builtin.Str.occurrences j i 0 j.length 1).isEmpty) else !(Builtin.Str.occurrences j i 0 j.length 1).isEmpty)) H) ∨ rIn K neg x y H Q
theorem op_inP : OpR X (compareOp .In) (rInP X.K false) := op_or2 op_in_str op_in_seq
theorem op_notInP : OpR X (compareOp .NotIn) (rInP X.K true) := op_or2 op_notIn_str op_notIn_seq
theorem in_core {K : PySem.W.Frag} {neg : Bool} {V H : Hp} {x y : L2.V} {d e : PyData} {b : Bool} {Q : VK} (s : Ex V H) (hx : Dq K V x d) (hy : Dq K V y e) (ho : inB d e = some b) (q : ∀ v V' H', Gr V H V' H' → Dq K V' v (.bool (if neg then !b else b)) → Q v H') : rInP K neg x y H Q := by
  have seq : ∀ {ds : List PyData} {p : Addr} {xs : List L2.V}, DqAll K V xs ds → (SqL K H p xs ∨ SqT K H p xs) → inDs d ds = some b → rIn K neg x (.ref p) H Q := fun {ds p xs} da hs h => by
    unfold inDs at h
    split at h
    · rename_i f
      cases h
      rw [Bool.and_eq_true] at f
      refine ⟨p, xs, rfl, hs, flat_of hx f.1, flats_of da f.2, ?_⟩
      rw [inV_of hx f.1 da f.2]
      exact keep s q (.bl _)
    · cases h
  cases hy with
  | lst h1 d1 => exact .inr (seq d1 (.inl (.inl (s.rd h1))) (by cases hx <;> exact ho))
  | tup h1 d1 => exact .inr (seq d1 (.inr (s.sqT h1)) (by cases hx <;> exact ho))
  | str j =>
    cases hx with
    | str i => cases ho; exact .inl ⟨_, _, rfl, rfl, keep s q (.bl _)⟩
    | _ => cases ho
  | _ => cases hx <;> cases ho
theorem od_in {K : PySem.W.Frag} : OpD K (rInP K false) inP := by
  intro V H x y d e z Q s hx hy ho q
  unfold inP at ho
  cases h : inB d e with
  | none => rw [h] at ho; cases ho
  | some b => rw [h] at ho; cases ho; exact in_core s hx hy h q
theorem od_notIn {K : PySem.W.Frag} : OpD K (rInP K true) notInP := by
  intro V H x y d e z Q s hx hy ho q
  unfold notInP at ho
  cases h : inB d e with
  | none => rw [h] at ho; cases ho
  | some b => rw [h] at ho; cases ho; exact in_core s hx hy h q
/-! ### is -/
def isNoneD : PyData → Bool
  | .none => true
  | _ => false
def isB : PyData → PyData → Option Bool
  | .bool a, .bool b => some (decide (a = b))
  | x, .none => some (isNoneD x)
  | _, _ => none
def isP (x y : PyData) : Option PyData := (isB x y).map .bool
def isNotP (x y : PyData) : Option PyData := (isB x y).map fun b => .bool (!b)
def rIsP : R2 := fun x y H Q => rIsB x y H Q ∨ (y = .non ∧ Q (.bl (decide (x = .non))) H)
def rIsNotP : R2 := fun x y H Q => rNotB x y H Q ∨ (y = .non ∧ Q (.bl (!decide (x = .non))) H)
theorem op_isP : OpR X (compareOp .Is) rIsP := op_or2 op_isBl op_isN
theorem op_isNotP : OpR X (compareOp .IsNot) rIsNotP := op_or2 op_notBl op_notN
theorem od_is {K : PySem.W.Frag} : OpD K rIsP isP := by
  intro V H x y d e z Q s hx hy ho q
  cases hy with
  | non => cases hx <;> cases ho <;> exact .inr ⟨rfl, keep s q (.bl _)⟩
  | bl b => cases hx <;> cases ho; exact .inl ⟨_, _, rfl, rfl, keep s q (.bl _)⟩
  | _ => cases hx <;> cases ho
theorem od_isNot {K : PySem.W.Frag} : OpD K rIsNotP isNotP := by
  intro V H x y d e z Q s hx hy ho q
  cases hy with
  | non => cases hx <;> cases ho <;> exact .inr ⟨rfl, keep s q (.bl _)⟩
  | bl b => cases hx <;> cases ho; exact .inl ⟨_, _, rfl, rfl, keep s q (.bl _)⟩
  | _ => cases hx <;> cases ho
/-! ### x[i] -/
def ixP : PyData → PyData → Option PyData
  | .list ds, .int i => atI ds i
  | .tuple ds, .int i => atI ds i
  | .dict [(.list ds, .none)], .int i => atI ds i
  | .str z, .int i => if z.length ≤ 100000 then (atI z.cps.toList i).map fun c => .str ⟨#[c]⟩ else none
  | _, _ => none
theorem at_of {K : PySem.W.Frag} {V : Hp} {vs : List L2.V} {ds : List PyData} {i : Int} {d : PyData} (h : DqAll K V vs ds) (e : atI ds i = some d) : ∃ v, atI vs i = some v ∧ Dq K V v d := by
  unfold atI at e ⊢
  rw [da_len h]
  cases k : ixN ds.length i with
  | none => rw [k] at e; cases e
  | some j => rw [k] at e; exact da_get h e
theorem od_ix {K : PySem.W.Frag} : OpD K (rIx K) ixP := by
  intro V H x y d e z Q s hx hy ho q
  cases hx with
  | lst h1 d1 =>
    cases hy <;> try cases ho
    obtain ⟨v, h2, h3⟩ := at_of d1 ho
    exact .inl ⟨_, _, _, v, rfl, rfl, .inl (s.rd h1), h2, keep s q h3⟩
  | tup h1 d1 =>
    cases hy <;> try cases ho
    obtain ⟨v, h2, h3⟩ := at_of d1 ho
    exact .inr (.inl ⟨_, _, _, v, rfl, rfl, s.sqT h1, h2, keep s q h3⟩)
  | lk h1 d1 =>
    cases hy <;> try cases ho
    obtain ⟨v, h2, h3⟩ := at_of d1 ho
    exact .inl ⟨_, _, _, v, rfl, rfl, s.sqL h1, h2, keep s q h3⟩
  | str w =>
    cases hy <;> try cases ho
    simp only [ixP] at ho
    split at ho
    · rename_i hl
      cases k : atI w.cps.toList ‹Int› with
      | none => rw [k] at ho; cases ho
      | some c => rw [k] at ho; cases ho; exact .inr (.inr ⟨_, _, c, rfl, rfl, line_of hl, k, keep s q (.str _)⟩)
    · cases ho
  | _ => cases hy <;> cases ho
/-! ### len, max, all, any, list, tuple -/
def lenP : List PyData → Option PyData
  | [.str z] => if z.length ≤ 100000 then some (.int z.length) else none
  | [.list ds] => some (.int ds.length)
  | [.tuple ds] => some (.int ds.length)
  | [.dict [(.list ds, .none)]] => some (.int ds.length)
  | _ => none
def rLenP (K : PySem.W.Frag) : List V → Hp → VK → Prop := fun xs H Q => (∃ p ys, xs = [.ref p] ∧ (SqL K H p ys ∨ SqT K H p ys) ∧ Q (.int ys.length) H) ∨ ∃ z, xs = [.str z] ∧ z.length ≤ sizeLine ∧ Q (.int z.length) H
theorem call_lenP : CallR X (.builtin "len") (rLenP X.K) := call_or2 call_len_seq call_len_str
theorem cd_len {K : PySem.W.Frag} : CallD K (rLenP K) lenP := by
  intro V H xs ds z Q s da ho q
  cases da with
  | nil => cases ho
  | cons a r =>
    cases r with
    | cons _ _ => cases a <;> cases ho
    | nil =>
      cases a with
      | str w =>
        simp only [lenP] at ho
        split at ho
        · rename_i hl; cases ho; exact .inr ⟨_, rfl, line_of hl, keep s q (.int _)⟩
        · cases ho
      | lst h1 d1 => cases ho; exact .inl ⟨_, _, rfl, .inl (.inl (s.rd h1)), by rw [da_len d1]; exact keep s q (.int _)⟩
      | tup h1 d1 => cases ho; exact .inl ⟨_, _, rfl, .inr (s.sqT h1), by rw [da_len d1]; exact keep s q (.int _)⟩
      | lk h1 d1 => cases ho; exact .inl ⟨_, _, rfl, .inl (s.sqL h1), by rw [da_len d1]; exact keep s q (.int _)⟩
      | _ => cases ho
def max2P : List PyData → Option PyData
  | [.int i, .int j] => some (.int (if j > i then j else i))
  | _ => none
theorem cd_max2 {K : PySem.W.Frag} : CallD K (fun xs H Q => ∃ i j, xs = [.int i, .int j] ∧ Q (.int (if j > i then j else i)) H) max2P := by
  intro V H xs ds z Q s da ho q
  cases da with
  | nil => cases ho
  | cons a r =>
    cases r with
    | nil => cases a <;> cases ho
    | cons b r =>
      cases r with
      | cons _ _ => cases a <;> cases b <;> cases ho
      | nil => cases a <;> cases b <;> cases ho; exact ⟨_, _, rfl, keep s q (.int _)⟩
def allP : List PyData → Option PyData
  | [.list ds] => (asBools ds).map fun bs => .bool (bs.all id)
  | _ => none
def anyP : List PyData → Option PyData
  | [.list ds] => (asBools ds).map fun bs => .bool (bs.any id)
  | _ => none
theorem cd_all {K : PySem.W.Frag} : CallD K (rAll K) allP := by
  intro V H xs ds z Q s da ho q
  cases da with
  | nil => cases ho
  | cons a r =>
    cases r with
    | cons _ _ => cases a <;> cases ho
    | nil =>
      cases a with
      | @lst p xs ds h1 d1 =>
        simp only [allP] at ho
        cases k : asBools ds with
        | none => rw [k] at ho; cases ho
        | some bs =>
          rw [k] at ho; cases ho
          exact ⟨p, bs, rfl, by rw [← da_asBools d1 k]; exact .inl (s.rd h1), keep s q (.bl _)⟩
      | _ => cases ho
theorem cd_any {K : PySem.W.Frag} : CallD K (rAny K) anyP := by
  intro V H xs ds z Q s da ho q
  cases da with
  | nil => cases ho
  | cons a r =>
    cases r with
    | cons _ _ => cases a <;> cases ho
    | nil =>
      cases a with
      | @lst p xs ds h1 d1 =>
        simp only [anyP] at ho
        cases k : asBools ds with
        | none => rw [k] at ho; cases ho
        | some bs =>
          rw [k] at ho; cases ho
          exact ⟨p, bs, rfl, by rw [← da_asBools d1 k]; exact .inl (s.rd h1), keep s q (.bl _)⟩
      | _ => cases ho
def listP : List PyData → Option PyData
  | [.list ds] => some (.list ds)
  | [.tuple ds] => some (.list ds)
  | _ => none
theorem cd_list {K : PySem.W.Frag} : CallD K (fun xs H Q => ∃ p ys, xs = [.ref p] ∧ (SqL K H p ys ∨ SqT K H p ys) ∧ ∀ l, H l = none → Q (.ref l) (upd H l (.lst ys))) listP := by
  intro V H xs ds z Q s da ho q
  cases da with
  | nil => cases ho
  | cons a r =>
    cases r with
    | cons _ _ => cases a <;> cases ho
    | nil =>
      cases a with
      | lst h1 d1 => cases ho; exact ⟨_, _, rfl, .inl (.inl (s.rd h1)), fun l n => newL s q d1 n⟩
      | tup h1 d1 => cases ho; exact ⟨_, _, rfl, .inr (s.sqT h1), fun l n => newL s q d1 n⟩
      | _ => cases ho
def tupleP : List PyData → Option PyData
  | [.list ds] => some (.tuple ds)
  | [.tuple ds] => some (.tuple ds)
  | _ => none
theorem cd_tuple {K : PySem.W.Frag} : CallD K (fun xs H Q => ∃ p ys, xs = [.ref p] ∧ ((SqL K H p ys ∧ ∀ l, H l = none → Q (.ref l) (upd H l (.tup ys))) ∨ (SqT K H p ys ∧ Q (.ref p) H))) tupleP := by
  intro V H xs ds z Q s da ho q
  cases da with
  | nil => cases ho
  | cons a r =>
    cases r with
    | cons _ _ => cases a <;> cases ho
    | nil =>
      cases a with
      | lst h1 d1 => cases ho; exact ⟨_, _, rfl, .inl ⟨.inl (s.rd h1), fun l n => newT s q d1 n⟩⟩
      | tup h1 d1 => cases ho; exact ⟨_, _, rfl, .inr ⟨s.sqT h1, keep s q (.tup h1 d1)⟩⟩
      | _ => cases ho
/-! ### methods of texts -/
def joinP : PyData → List PyData → Option PyData
  | .str a, [.list ds] => (asStrs ds).bind fun ys => if (ys.map (·.length)).sum + ys.length * a.length ≤ 100000 then some (.str (Txt.join a ys)) else none
  | _, _ => none
theorem md_join {K : PySem.W.Frag} : MtD K (fun x xs H Q => ∃ a p, ∃ ys : List Str, x = .str a ∧ xs = [.ref p] ∧ (SqL K H p (ys.map V.str) ∨ SqT K H p (ys.map V.str)) ∧
    (ys.map (·.length)).sum + ys.length * a.length ≤ 16777216 ∧ Q (.str (Txt.join a ys)) H) joinP := by
  intro V H x xs d ds z Q s hx da ho q
  cases hx with
  | str a =>
    cases da with
    | nil => cases ho
    | cons b r =>
      cases r with
      | cons _ _ => cases b <;> cases ho
      | nil =>
        cases b with
        | @lst p xs ds h1 d1 =>
          simp only [joinP] at ho
          cases k : asStrs ds with
          | none => rw [k] at ho; cases ho
          | some ys =>
            rw [k] at ho
            simp only [Option.bind_some] at ho
            split at ho
            · rename_i hl
              cases ho
              exact ⟨a, p, ys, rfl, rfl, .inl (by rw [← da_asStrs d1 k]; exact .inl (s.rd h1)), by omega, keep s q (.str _)⟩
            · cases ho
        | _ => cases ho
  | _ => cases ho
theorem join_ty (d : PyData) (ds : List PyData) (z : PyData) (h : joinP d ds = some z) : tyD "str" d = true := by
  cases d <;> first | rfl | (simp [joinP] at h)
def sindexP : PyData → List PyData → Option PyData
  | .str a, [.str b] => match Builtin.Str.occurrences a b 0 a.length 1 with
    | i :: _ => some (.int (i : Nat))
    | [] => none
  | _, _ => none
theorem md_sindex {K : PySem.W.Frag} : MtD K (fun x xs H Q => ∃ a b i rest, x = .str a ∧ xs = [.str b] ∧ Builtin.Str.occurrences a b 0 a.length 1 = i :: rest ∧ Q (.int (i : Nat)) H) sindexP := by
  intro V H x xs d ds z Q s hx da ho q
  cases hx with
  | str a =>
    cases da with
    | nil => cases ho
    | cons b r =>
      cases r with
      | cons _ _ => cases b <;> cases ho
      | nil =>
        cases b with
        | str b =>
          simp only [sindexP] at ho
          split at ho
          · rename_i i rest e
            cases ho
            exact ⟨a, b, i, rest, rfl, rfl, e, keep s q (.int _)⟩
          · cases ho
        | _ => cases ho
  | _ => cases ho
theorem sindex_ty (d : PyData) (ds : List PyData) (z : PyData) (h : sindexP d ds = some z) : tyD "str" d = true := by
  cases d <;> first | rfl | (simp [sindexP] at h)
end
end DL

namespace DL
open PySem PySem.Spec PyProof.Rows L2
/-! ### a stable sort that the kernel runs -/
def insD (x : PyData) : List PyData → List PyData
  | [] => [x]
  | y :: ys => if W.dataLt y x = true then y :: insD x ys else x :: y :: ys
def isortD : List PyData → List PyData
  | [] => []
  | x :: xs => insD x (isortD xs)
abbrev leD : PyData → PyData → Bool := W.dataLe false id
theorem leD_eq (a b : PyData) : leD a b = !W.dataLt b a := rfl
theorem leD_total : W.TotalLe leD := W.sortLe_total _ _ _
theorem insD_mem {x z : PyData} : ∀ {ys : List PyData}, z ∈ insD x ys ↔ z = x ∨ z ∈ ys
  | [] => by simp [insD]
  | y :: ys => by
    unfold insD
    split
    · rw [List.mem_cons, insD_mem, List.mem_cons]
      constructor
      · rintro (h | h | h)
        · exact .inr (.inl h)
        · exact .inl h
        · exact .inr (.inr h)
      · rintro (h | h | h)
        · exact .inr (.inl h)
        · exact .inl h
        · exact .inr (.inr h)
    · simp [List.mem_cons]
theorem insD_sorted {x : PyData} : ∀ {ys : List PyData}, ys.Pairwise (fun a b => leD a b = true) → (insD x ys).Pairwise (fun a b => leD a b = true)
  | [], _ => by simp [insD]
  | y :: ys, h => by
    rw [List.pairwise_cons] at h
    unfold insD
    split
    · rename_i q
      rw [List.pairwise_cons]
      refine ⟨fun z hz => ?_, insD_sorted h.2⟩
      rcases insD_mem.mp hz with rfl | hz
      · rcases leD_total.total y z with k | k
        · exact k
        · rw [leD_eq, q] at k; cases k
      · exact h.1 z hz
    · rename_i q
      have hxy : leD x y = true := by rw [leD_eq]; simpa using q
      rw [List.pairwise_cons]
      refine ⟨fun z hz => ?_, List.pairwise_cons.mpr h⟩
      rcases List.mem_cons.mp hz with rfl | hz
      · exact hxy
      · exact leD_total.trans _ _ _ hxy (h.1 z hz)
theorem insD_filter {x c : PyData} : ∀ {ys : List PyData}, ys.Pairwise (fun a b => leD a b = true) → (insD x ys).filter (W.sameRank leD c) = (x :: ys).filter (W.sameRank leD c)
  | [], _ => rfl
  | y :: ys, h => by
    rw [List.pairwise_cons] at h
    unfold insD
    split
    · rename_i q
      rw [List.filter_cons, insD_filter h.2]
      by_cases hx : W.sameRank leD c x = true
      · have hy : W.sameRank leD c y = false := by
          cases k : W.sameRank leD c y with
          | false => rfl
          | true =>
            exfalso
            unfold W.sameRank at k hx
            rw [Bool.and_eq_true] at k hx
            have : leD x y = true := leD_total.trans _ _ _ hx.2 k.1
            rw [leD_eq, q] at this
            cases this
        rw [List.filter_cons_of_pos hx, List.filter_cons_of_pos hx, List.filter_cons_of_neg (by rw [hy]; decide)]
        simp [hy]
      · rw [List.filter_cons_of_neg hx, List.filter_cons_of_neg hx]
        by_cases hy : W.sameRank leD c y = true
        · rw [if_pos hy, List.filter_cons_of_pos hy]
        · rw [if_neg hy, List.filter_cons_of_neg hy]
    · rfl
theorem isortD_sorted : ∀ l : List PyData, (isortD l).Pairwise (fun a b => leD a b = true)
  | [] => by simp [isortD]
  | x :: xs => insD_sorted (isortD_sorted xs)
theorem isortD_filter (c : PyData) : ∀ l : List PyData, (isortD l).filter (W.sameRank leD c) = l.filter (W.sameRank leD c)
  | [] => rfl
  | x :: xs => by
    show (insD x (isortD xs)).filter _ = _
    rw [insD_filter (isortD_sorted xs), List.filter_cons, List.filter_cons, isortD_filter c xs]
theorem isortD_is (l : List PyData) : isortD l = l.mergeSort leD := W.sort_unique leD_total (isortD_sorted l) fun c => isortD_filter c l
/-! ### sorted -/
def sortOk (ds : List PyData) : Bool := (ds.all fun d => ds.all fun e => W.alike d e) && (ds.all fun d => decide (d.depth ≤ 50)) && ((ds.all fun d => match d with | .tuple (_ :: _) => true | _ => false) || (ds.all fun d => match d with | .none => false | .tuple _ => false | _ => true)) && decide (ds.length ≤ 100000) && noLkAll ds
def sortP : List PyData → Option PyData
  | [.list ds] => if sortOk ds = true then some (.list (isortD ds)) else none
  | _ => none
theorem sortOk_1 {ds : List PyData} (h : sortOk ds = true) : W.AllAlike ds ∧ W.Sortable ds ∧ (∀ d ∈ ds, d.depth ≤ 50) ∧ ds.length ≤ 100000 ∧ noLkAll ds = true := by
  unfold sortOk at h
  simp only [Bool.and_eq_true, List.all_eq_true, decide_eq_true_eq, Bool.or_eq_true] at h
  obtain ⟨⟨⟨⟨h1, h2⟩, h3⟩, h4⟩, h5⟩ := h
  refine ⟨fun d hd e he => h1 d hd e he, ?_, h2, h4, h5⟩
  rcases h3 with h3 | h3
  · refine .inl fun d hd => ?_
    have := h3 d hd
    split at this
    · rename_i x r; exact ⟨x, r, rfl⟩
    · cases this
  · refine .inr fun d hd => ?_
    have := h3 d hd
    refine ⟨fun e => ?_, fun xs e => ?_⟩
    · subst e; cases this
    · subst e; cases this
theorem each_of {K : PySem.W.Frag} {V : Hp} {R : Value → PyData → Prop} (f : ∀ x u d, RelV x u → Dq K V x d → R u d) : ∀ {vs : List L2.V} {us : List Value} {ds : List PyData}, Vals vs us → DqAll K V vs ds → W.EachIs R us ds
  | _, _, _, .nil, .nil => .nil
  | _, _, _, .cons r t, .cons a b => .cons (f _ _ _ r a) (each_of f t b)
theorem each_ofP {K : PySem.W.Frag} {V : Hp} {R : Value → PyData → Prop} (f : ∀ x u d, RelV x u → Dp K V x d → R u d) : ∀ {vs : List L2.V} {us : List Value} {ds : List PyData}, Vals vs us → DpAll K V vs ds → W.EachIs R us ds
  | _, _, _, .nil, .nil => .nil
  | _, _, _, .cons r t, .cons a b => .cons (f _ _ _ r a) (each_ofP f t b)
theorem of_each {K : PySem.W.Frag} {V : Hp} : ∀ {us : List Value} {ds : List PyData}, W.EachIs (fun u d => ∃ x, RelV x u ∧ Dq K V x d) us ds → ∃ vs, Vals vs us ∧ DqAll K V vs ds
  | _, _, .nil => ⟨[], .nil, .nil⟩
  | _, _, .cons ⟨x, r, d⟩ t => by
    obtain ⟨vs, h1, h2⟩ := of_each t
    exact ⟨x :: vs, .cons r h1, .cons d h2⟩
def rSortP (K : PySem.W.Frag) : List V → Hp → VK → Prop := fun xs H Q => ∃ V a vs ds, xs = [.ref a] ∧ Ex V H ∧ Rd H a (.lst vs) ∧ DqAll K V vs ds ∧ sortOk ds = true ∧ ∀ p ys, H p = none → DqAll K V ys (isortD ds) → Q (.ref p) (upd H p (.lst ys))
section
variable {X : Cx}
theorem cr_sortP (hu : X.A.units + 64 < cLine) : CallR X (.builtin "sorted") (rSortP X.K) := by
  intro pins s σ H xs us Q I r h
  obtain ⟨V, a, vs, ds, rfl, hx, hs, da, ok, q⟩ := h
  obtain ⟨al, so, dep, len, nl⟩ := sortOk_1 ok
  obtain ⟨z, its, n, rv, hl, e⟩ := lstR I hs
  rw [Vals.ref1 r]
  have ea : W.EachIs (fun u d => ∃ x, RelV x u ∧ Dq X.K V x d) its ds := each_of (fun x u d r d' => ⟨x, r, d'⟩) rv da
  have er : W.EachIs (fun u d => ∃ as, Reads s.heap u (id d) as) its ds := each_ofP (fun x u d r d' => Dp.reads I d x u d' r) rv ((da_mono hx da).dp nl)
  refine W.sorted_data (enc := id) (bs := ds) (R := fun u d => ∃ x, RelV x u ∧ Dq X.K V x d) ⟨_, e, rfl, _, rfl⟩ ea er (by rw [List.map_id]; exact al) (by rw [List.map_id]; exact so) (line_of len) (fun d hd => by have := dep d hd; show X.A.units + 2 + d.depth < _; omega) fun out hlen hout => ?_
  rw [show ds.mergeSort (W.dataLe false id) = isortD ds from (isortD_is ds).symm] at hout
  obtain ⟨ys, k1, k2⟩ := of_each hout
  obtain ⟨ep, he'⟩ := PyProof.Rows.sortedAll_at s.heap its out.toArray
  have hys : ys.length ≤ sizeLine := by
    rw [k1.length, hlen]; exact line_of len
  exact ⟨.ref _, upd H (s.heap.objs.size + 1) (.lst ys), I.laid (t' := s.toks) (fun _ _ => PyProof.Rows.sortedAll_old) (Nat.le_succ _) ⟨hys, out, ep, k1, he'⟩, rfl, q _ _ (I.hok.fresh (Nat.le_succ _)) k2⟩
theorem cd_sort {K : PySem.W.Frag} : CallD K (rSortP K) sortP := by
  intro V H xs ds z Q s da ho q
  cases da with
  | nil => cases ho
  | cons a r =>
    cases r with
    | cons _ _ => cases a <;> cases ho
    | nil =>
      cases a with
      | @lst p vs ds h1 d1 =>
        simp only [sortP] at ho
        split at ho
        · rename_i ok
          cases ho
          exact ⟨V, p, vs, ds, rfl, s, s.rd h1, d1, ok, fun p ys n dy => newL s q dy n⟩
        · cases ho
      | _ => cases ho
/-! ### min, max of a list -/
def mmOk (ds : List PyData) : Bool := (ds.all fun d => ds.all fun e => W.alike d e) && (ds.all fun d => match d with | .none => false | _ => true) && decide (PyData.depthAll ds ≤ 50) && noLkAll ds
theorem mmOk_1 {ds : List PyData} (h : mmOk ds = true) : W.AlikeAll ds ∧ PyData.depthAll ds ≤ 50 ∧ noLkAll ds = true := by
  unfold mmOk at h
  simp only [Bool.and_eq_true, List.all_eq_true, decide_eq_true_eq] at h
  obtain ⟨⟨⟨h1, h2⟩, h3⟩, h4⟩ := h
  exact ⟨⟨fun x hx y hy => h1 x hx y hy, fun x hx e => by have := h2 x hx; subst e; cases this⟩, h3, h4⟩
theorem minD_mem : ∀ (xs : List PyData) (x : PyData), W.minD x xs ∈ x :: xs
  | [], x => by simp [W.minD]
  | y :: ys, x => by
    show (y :: ys).foldl _ x ∈ _
    rw [List.foldl_cons]
    have h := minD_mem ys (if W.dataLt y x = true then y else x)
    show List.foldl _ _ ys ∈ _
    rcases List.mem_cons.mp h with h | h
    · unfold W.minD at h
      rw [h]
      split
      · simp
      · simp
    · exact List.mem_cons_of_mem _ (List.mem_cons_of_mem _ h)
theorem maxD_mem : ∀ (xs : List PyData) (x : PyData), W.maxD x xs ∈ x :: xs
  | [], x => by simp [W.maxD]
  | y :: ys, x => by
    show (y :: ys).foldl _ x ∈ _
    rw [List.foldl_cons]
    have h := maxD_mem ys (if W.dataLt x y = true then y else x)
    show List.foldl _ _ ys ∈ _
    rcases List.mem_cons.mp h with h | h
    · unfold W.maxD at h
      rw [h]
      split
      · simp
      · simp
    · exact List.mem_cons_of_mem _ (List.mem_cons_of_mem _ h)
def mmD (m : PyData → List PyData → PyData) : List PyData → Option PyData
  | [] => none
  | x :: xs => if mmOk (x :: xs) = true then some (m x xs) else none
def minP : List PyData → Option PyData
  | [.list ds] => mmD W.minD ds
  | _ => none
def maxP : List PyData → Option PyData
  | [.list ds] => mmD W.maxD ds
  | [.int i, .int j] => some (.int (if j > i then j else i))
  | _ => none
theorem noLk_mem : ∀ {ds : List PyData} {d : PyData}, noLkAll ds = true → d ∈ ds → noLk d = true
  | x :: xs, d, h, hd => by
    rw [noLkAll, Bool.and_eq_true] at h
    rcases List.mem_cons.mp hd with rfl | hd
    · exact h.1
    · exact noLk_mem h.2 hd
def rMmP (K : PySem.W.Frag) (m : PyData → List PyData → PyData) : List V → Hp → VK → Prop := fun xs H Q => ∃ V a vs x ds, xs = [.ref a] ∧ Ex V H ∧ Rd H a (.lst vs) ∧ DqAll K V vs (x :: ds) ∧ mmOk (x :: ds) = true ∧ ∀ y, Dq K V y (m x ds) → Q y H
theorem mm_end {pins : List (Addr × Obj)} {σ : L2.St} {H V : Hp} {s : Shared} {Q : VK} {vs : List L2.V} {ds : List PyData} {its : List Value} {m : PyData} (I : Inv X pins σ H s) (hx : Ex V H) (rv : Vals vs its) (da : DqAll X.K V vs ds) (al : W.AlikeAll ds) (nl : noLkAll ds = true) (hm : m ∈ ds) (q : ∀ y, Dq X.K V y m → Q y H)
    {i : Nat} {v : Value} {h' : Heap} {tk : Tok} {bs : List Addr} (hi : its.toArray[i]? = some v) (hr : Reads h' v m bs) (hk : ∀ b o, s.heap.get? b = some o → h'.get? b = some o) : EP X pins σ Q v { s with heap := h', toks := tk } := by
  have hl := rv.length
  rw [List.getElem?_toArray] at hi
  have hi' : i < its.length := getN hi
  obtain ⟨y, hy⟩ : ∃ y, vs[i]? = some y := ⟨_, List.getElem?_eq_getElem (by omega)⟩
  obtain ⟨u, hu, ru⟩ := rv.get hy
  rw [hi] at hu; cases hu
  obtain ⟨d, hd, dy⟩ := da_getv da hy
  obtain ⟨as, rd⟩ := Dp.reads I d y v ((dp_mono hx dy).dp (noLk_mem nl (List.mem_of_getElem? hd))) ru
  have e := W.alike_unique d m v as bs (al.1 d (List.mem_of_getElem? hd) m hm) (W.reads_keeps hk rd) hr
  subst e
  exact ⟨y, H, I.kept hk, ru, q y dy⟩
theorem cr_minP (hc : X.calm = true) (hu : X.A.units + 64 < cLine) : CallR X (.builtin "min") (rMmP X.K W.minD) := by
  intro pins s σ H xs us Q I r h
  obtain ⟨V, a, vs, x, ds, rfl, hx, hs, da, ok, q⟩ := h
  obtain ⟨al, dep, nl⟩ := mmOk_1 ok
  obtain ⟨z, its, n, rv, hl, e⟩ := lstR I hs
  rw [Vals.ref1 r]
  obtain ⟨as, ra⟩ := Dp.readsAll I (x :: ds) vs its ((da_mono hx da).dp nl) rv
  refine W.min_list_data (I.ok.hd hc) ⟨_, e, rfl, _, rfl⟩ ra al (by omega) fun i v h' tk bs hi hr hk => ?_
  exact mm_end I hx rv da al nl (minD_mem ds x) q hi hr hk
theorem cr_maxP (hc : X.calm = true) (hu : X.A.units + 64 < cLine) : CallR X (.builtin "max") (rMmP X.K W.maxD) := by
  intro pins s σ H xs us Q I r h
  obtain ⟨V, a, vs, x, ds, rfl, hx, hs, da, ok, q⟩ := h
  obtain ⟨al, dep, nl⟩ := mmOk_1 ok
  obtain ⟨z, its, n, rv, hl, e⟩ := lstR I hs
  rw [Vals.ref1 r]
  obtain ⟨as, ra⟩ := Dp.readsAll I (x :: ds) vs its ((da_mono hx da).dp nl) rv
  refine W.max_list_data (I.ok.hd hc) ⟨_, e, rfl, _, rfl⟩ ra al (by omega) fun i v h' tk bs hi hr hk => ?_
  exact mm_end I hx rv da al nl (maxD_mem ds x) q hi hr hk
theorem cd_min {K : PySem.W.Frag} : CallD K (rMmP K W.minD) minP := by
  intro V H xs ds z Q s da ho q
  cases da with
  | nil => cases ho
  | cons a r =>
    cases r with
    | cons _ _ => cases a <;> cases ho
    | nil =>
      cases a with
      | @lst p vs ds h1 d1 =>
        cases ds with
        | nil => cases ho
        | cons x ds =>
          simp only [minP, mmD] at ho
          split at ho
          · rename_i ok
            cases ho
            exact ⟨V, p, vs, x, ds, rfl, s, s.rd h1, d1, ok, fun y dy => keep s q dy⟩
          · cases ho
      | _ => cases ho
def rMaxP (K : PySem.W.Frag) : List V → Hp → VK → Prop := fun xs H Q => rMmP K W.maxD xs H Q ∨ ∃ i j, xs = [.int i, .int j] ∧ Q (.int (if j > i then j else i)) H
theorem cr_maxA (hc : X.calm = true) (hu : X.A.units + 64 < cLine) : CallR X (.builtin "max") (rMaxP X.K) := call_or2 (cr_maxP hc hu) (call_max2 hc)
theorem cd_max {K : PySem.W.Frag} : CallD K (rMaxP K) maxP := by
  intro V H xs ds z Q s da ho q
  cases da with
  | nil => cases ho
  | cons a r =>
    cases r with
    | cons b r =>
      cases r with
      | nil => cases a <;> cases b <;> cases ho; exact .inr ⟨_, _, rfl, keep s q (.int _)⟩
      | cons _ _ => cases a <;> cases b <;> cases ho
    | nil =>
      cases a with
      | @lst p vs ds h1 d1 =>
        cases ds with
        | nil => cases ho
        | cons x ds =>
          simp only [maxP, mmD] at ho
          split at ho
          · rename_i ok
            cases ho
            exact .inl ⟨V, p, vs, x, ds, rfl, s, s.rd h1, d1, ok, fun y dy => keep s q dy⟩
          · cases ho
      | _ => cases ho
/-! ### isinstance -/
def tyName : PyData → String
  | .none => "NoneType"
  | .bool _ => "bool"
  | .int _ => "int"
  | .str _ => "str"
  | .list _ => "list"
  | .tuple _ => "tuple"
  | .dict _ => "dict"
def isiB (T : String) (d : PyData) : Bool := tyName d == T || (T == "int" && tyName d == "bool")
def isiP (T : String) : PyData → Option PyData
  | .dict _ => none
  | d => some (.bool (isiB T d))
theorem isiP_some {T : String} {d z : PyData} (h : isiP T d = some z) : z = .bool (isiB T d) ∧ ∀ l, d ≠ .dict l := by
  unfold isiP at h
  split at h
  · cases h
  · rename_i n
    cases h
    exact ⟨rfl, fun l e => n l e⟩
theorem kit_all (T : String) (hT : T = "str" ∨ T = "int" ∨ T = "bool" ∨ T = "list" ∨ T = "tuple") {K : PySem.W.Frag} {V : Hp} {v : L2.V} {d : PyData} (h : Dq K V v d) (hn : ∀ l, d ≠ .dict l) : kitB (tyName d) T = some (isiB T d) := by
  have e : ∀ n : String, (n = "NoneType" ∨ n = "bool" ∨ n = "int" ∨ n = "str" ∨ n = "list" ∨ n = "tuple") → kitB n T = some (n == T || (T == "int" && n == "bool")) := by
    intro n hn
    rcases hT with rfl | rfl | rfl | rfl | rfl <;> rcases hn with rfl | rfl | rfl | rfl | rfl | rfl <;> decide +kernel
  exact e (tyName d) (by cases h <;> first | exact absurd rfl (hn _) | simp [tyName])
theorem tyX_of {K : PySem.W.Frag} {V H : Hp} {v : L2.V} {d : PyData} (h : Dq K V v d) (s : Ex V H) (hn : ∀ l, d ≠ .dict l) : TyX K H v (.type (tyName d)) := by
  cases h with
  | lk _ _ => exact absurd rfl (hn _)
  | non => exact .base .non
  | bl b => exact .base (.bl b)
  | int b => exact .base (.int b)
  | str b => exact .base (.str b)
  | lst h1 _ =>
    rcases s.rd h1 with h1 | ⟨o, h1⟩
    · exact .base (.lst h1)
    · exact .base (.frz h1)
  | tup h1 _ =>
    rcases s.sqT h1 with (h1 | ⟨o, h1⟩) | ⟨o, its, n, h1, h2, _⟩
    · exact .base (.tup h1)
    · exact .fTuple h1
    · exact .kTuple h1 h2
theorem de_isi {e : Expr} {f : DE} {T : String} {t : Str} {p p2 pos : Pos} (hT : T = "str" ∨ T = "int" ∨ T = "bool" ∨ T = "list" ∨ T = "tuple") (hg : Gl X "isinstance") (hm : X.mg "isinstance" = none) (hv : bootBuiltins "isinstance" = some (.builtin "isinstance")) (he : PE X e (tD X.K f)) (ht : PE X (.Name t p2) (tC (.ty T)))
    (hs : starEach [e, .Name t p2] X.env = (false, eval e X.env) :: starEach [.Name t p2] X.env := by rfl) (hs2 : starEach [.Name t p2] X.env = [(false, eval (.Name t p2) X.env)] := by rfl) (hpl : (backTo pos (starEach [.Name t p2] X.env)).any (·.1) = false := by rfl) :
    PE X (.Call (.Name "isinstance" p) [e, .Name t p2] [] pos) (tD X.K (d1 (isiP T) f)) :=
  pe_w (pe_callB call_isi hg hm hv (pa_cons he (pa_cons ht pa_nil hs2) hs) (by decide) (by decide) hs hpl) fun σ H Q ⟨BV, B, V, ρ, z, E, hz, q⟩ => by
    obtain ⟨d, hf, ho⟩ := d1_some hz
    obtain ⟨rfl, hn⟩ := isiP_some ho
    exact ⟨BV, B, V, ρ, d, E, hf, fun x V1 H1 G1 D1 => ⟨x, .ty T, _, .type T, isiB T d, rfl, .ty T, tyX_of D1 G1.sub hn, kit_ty (kit_all T hT D1 hn), q _ V1 H1 G1 (.bl _)⟩⟩
/-! ### a dict of the module -/
def tblP (l : List (Str × PyData)) : PyData → Option PyData
  | .str z => l.lookup z
  | _ => none
theorem de_dict {e : Expr} {f : DE} {p : Addr} {x : Str} {px pos : Pos} (l : List (Str × PyData)) (hx : PE X (.Name x px) (tC (.ref p))) (he : PE X e (tD X.K f)) (hs : PlainIx e) (hl : ∀ z d, l.lookup z = some d → ∃ v, KDct X.K X.w p z v ∧ ∀ V, Dq X.K V v d) :
    PE X (.Subscript (.Name x px) e pos) (tD X.K (d1 (tblP l) f)) :=
  pe_w (pe_ix ix_kdict hx he hs) fun σ H Q ⟨BV, B, V, ρ, z, E, hz, q⟩ => by
    obtain ⟨d, hf, ho⟩ := d1_some hz
    refine ⟨BV, B, V, ρ, d, E, hf, fun y V1 H1 G1 D1 => ?_⟩
    cases D1 with
    | str w =>
      obtain ⟨v, h1, h2⟩ := hl w z ho
      exact ⟨p, w, v, rfl, rfl, h1, q v V1 H1 G1 (h2 V1)⟩
    | _ => cases ho
/-! ### list(range(..)), tuple(range(..)) -/
theorem rg_da {K : PySem.W.Frag} {V : Hp} (a b : Int) : DqAll K V (rgV a b) (rangeD a (b - a).toNat) := by
  unfold rgV rangeD
  induction (List.range (b - a).toNat) with
  | nil => exact .nil
  | cons i r ih => exact .cons (.int _) ih
def nRange (f : DE) : DA := fun ρ => match f ρ with
  | some (.int n) => if -100000 ≤ n ∧ n ≤ 100000 then some (rangeD 0 n.toNat) else none
  | _ => none
theorem dn_listRg {e : Expr} {f : DE} {p p2 pos pos2 : Pos} (hc : X.calm = true) (hg : Gl X "list") (hm : X.mg "list" = none) (hg2 : Gl X "range") (hm2 : X.mg "range" = none) (he : PE X e (tD X.K f))
    (na : starEach [.Call (.Name "range" p2) [e] [] pos2] X.env = (false, eval (.Call (.Name "range" p2) [e] [] pos2) X.env) :: starEach [] X.env := by rfl) (na2 : starEach [e] X.env = (false, eval e X.env) :: starEach [] X.env := by rfl) :
    PE X (.Call (.Name "list" p) [.Call (.Name "range" p2) [e] [] pos2] [] pos) (tN X.K (nRange f)) :=
  pe_w (pe_listRg hc hg hm (prg_1 hg2 hm2 he na2) na) fun σ H Q ⟨BV, B, V, ρ, z, E, hz, q⟩ => by
    unfold nRange at hz
    split at hz
    · rename_i n hn
      split at hz
      · rename_i hb
        cases hz
        refine ⟨BV, B, V, ρ, _, E, hn, fun x V1 H1 G1 D1 => ?_⟩
        cases D1
        refine ⟨n, rfl, ⟨by decide, by decide, by omega, by omega, by omega⟩, fun p n' => ?_⟩
        have := rg_da (K := X.K) (V := V1) 0 n
        rw [Int.sub_zero] at this
        exact q p _ V1 _ (G1.trans (Gr.held G1.sub n')) (G1.h.back n') (G1.sub.back n') upd_same this
      · cases hz
    · cases hz
/-! ### slices -/
def cutD (ds : List PyData) (lo hi : Option Int) : List PyData := (ds.drop (HT.sIx ds.length 0 lo)).take (HT.sIx ds.length ds.length hi - HT.sIx ds.length 0 lo)
theorem da_cut {K : PySem.W.Frag} {V : Hp} {vs : List L2.V} {ds : List PyData} (h : DqAll K V vs ds) (lo hi : Option Int) : DqAll K V (cutV vs lo hi) (cutD ds lo hi) := by
  unfold cutV cutD
  rw [da_len h]
  exact da_take _ (da_drop _ h)
def slP : PyData → Option Int → Option Int → Option PyData
  | .str z, lo, hi => if z.length ≤ 100000 then some (.str (cutS z lo hi)) else none
  | .list ds, lo, hi => some (.list (cutD ds lo hi))
  | _, _, _ => none
def oPart : Option DE → List Sl → Option (Option Int)
  | none, _ => some none
  | some f, ρ => match f ρ with
    | some (.int i) => some (some i)
    | _ => none
def dSl (f : DE) (lo hi : Option DE) : DE := fun ρ => (f ρ).bind fun x => (oPart lo ρ).bind fun l => (oPart hi ρ).bind fun u => slP x l u
def tDO (K : PySem.W.Frag) (f : Option DE) : TO := fun σ H Q => ∃ BV B V ρ o, EnvD K BV B V H σ ρ ∧ oPart f ρ = some o ∧ ∀ V' H', Gr V H V' H' → Q o H'
theorem po_w {e : Option Expr} {t t' : TO} (h : PO X e t) (i : ∀ σ H Q, t' σ H Q → t σ H Q) : PO X e t' := ⟨fun pins s σ H Q I q => h.run pins s σ H Q I (i _ _ _ q)⟩
theorem do_none : PO X none (tDO X.K none) := po_w po_none fun σ H Q ⟨BV, B, V, ρ, o, E, h, q⟩ => by
  cases h
  exact q V H (.refl E.sub)
theorem do_some {e : Expr} {f : DE} (h : PE X e (tD X.K f)) : PO X (some e) (tDO X.K (some f)) := po_w (po_some h) fun σ H Q ⟨BV, B, V, ρ, o, E, h, q⟩ => by
  simp only [oPart] at h
  split at h
  · rename_i i hi
    cases h
    refine ⟨BV, B, V, ρ, _, E, hi, fun x V1 H1 G1 D1 => ?_⟩
    cases D1
    exact ⟨i, rfl, q V1 H1 G1⟩
  · cases h
theorem de_slice {e : Expr} {lo hi : Option Expr} {f : DE} {l u : Option DE} {p2 pos : Pos} (he : PE X e (tD X.K f)) (hl : PO X lo (tDO X.K l)) (hu : PO X hi (tDO X.K u)) : PE X (.Subscript e (.Slice lo hi none p2) pos) (tD X.K (dSl f l u)) :=
  pe_w (pe_slice (sl_str.or sl_list) he hl hu) fun σ H Q ⟨BV, B, V, ρ, z, E, hz, q⟩ => by
    unfold dSl at hz
    cases h1 : f ρ with
    | none => rw [h1] at hz; cases hz
    | some d =>
      cases h2 : oPart l ρ with
      | none => rw [h1, h2] at hz; cases hz
      | some lv =>
        cases h3 : oPart u ρ with
        | none => rw [h1, h2, h3] at hz; cases hz
        | some uv =>
          rw [h1, h2, h3] at hz
          simp only [Option.bind_some] at hz
          refine ⟨BV, B, V, ρ, d, E, h1, fun x V1 H1 G1 D1 => ⟨BV, B, V1, ρ, lv, E.grow G1, h2, fun V2 H2 G2 => ⟨BV, B, V2, ρ, uv, (E.grow G1).grow G2, h3, fun V3 H3 G3 => ?_⟩⟩⟩
          have G := G1.trans (G2.trans G3)
          have D3 := dp_mono (G2.v.trans G3.v) D1
          cases D3 with
          | str w =>
            simp only [slP] at hz
            split at hz
            · rename_i hl
              cases hz
              exact .inl ⟨w, rfl, line_of hl, q _ V3 H3 G (.str _)⟩
            · cases hz
          | lst k1 d1 =>
            cases hz
            exact .inr ⟨_, _, rfl, .inl (G.sub.rd k1), fun p n => newL G.sub (fun v V' H' g d => q v V' H' (G.trans g) d) (da_cut d1 lv uv) n⟩
          | _ => cases hz
/-! ### chains -/
def dChain (o o' : PyData → PyData → Option PyData) (f g h : DE) : DE := fun ρ => (f ρ).bind fun x => (g ρ).bind fun y => (o x y).bind fun z => match z with
  | .bool true => (h ρ).bind fun w => o' y w
  | .bool false => some (.bool false)
  | _ => none
theorem tChain_of {K : PySem.W.Frag} {r r' : R2} {o o' : PyData → PyData → Option PyData} (k : OpD K r o) (k' : OpD K r' o') {f g h : DE} (σ : L2.St) (H : Hp) (Q : VK) (t : tD K (dChain o o' f g h) σ H Q) : tChain r r' (tD K f) (tD K g) (tD K h) σ H Q := by
  obtain ⟨BV, B, V, ρ, z, E, hz, q⟩ := t
  unfold dChain at hz
  cases h1 : f ρ with
  | none => rw [h1] at hz; cases hz
  | some x =>
    cases h2 : g ρ with
    | none => rw [h1, h2] at hz; cases hz
    | some y =>
      rw [h1, h2] at hz
      simp only [Option.bind_some] at hz
      cases h3 : o x y with
      | none => rw [h3] at hz; cases hz
      | some c =>
        rw [h3] at hz
        simp only [Option.bind_some] at hz
        refine ⟨BV, B, V, ρ, x, E, h1, fun xv V1 H1 G1 D1 => ⟨BV, B, V1, ρ, y, E.grow G1, h2, fun yv V2 H2 G2 D2 => k V2 H2 xv yv x y c _ G2.sub (dp_mono G2.v D1) D2 h3 fun v V3 H3 G3 D3 => ?_⟩⟩
        have G := G1.trans (G2.trans G3)
        cases D3 with
        | bl b =>
          refine ⟨b, rfl, ?_⟩
          cases b with
          | false => cases hz; exact q _ V3 H3 G (.bl _)
          | true =>
            cases h4 : h ρ with
            | none => rw [h4] at hz; cases hz
            | some wv =>
              rw [h4] at hz
              simp only [Option.bind_some] at hz
              exact ⟨BV, B, V3, ρ, wv, E.grow G, h4, fun w V4 H4 G4 D4 => k' V4 H4 yv w y wv z Q G4.sub (dp_mono (G3.v.trans G4.v) D2) D4 hz fun v V5 H5 G5 D5 => q v V5 H5 (G.trans (G4.trans G5)) D5⟩
        | _ => cases hz
variable {a b c : Expr} {pos : Pos}
theorem de_chain {op op' : CmpOp} {r r' : R2} {o o' : PyData → PyData → Option PyData} {f g h : DE} (ho : OpR X (compareOp op) r) (ho' : OpR X (compareOp op') r') (k : OpD X.K r o) (k' : OpD X.K r' o') (ha : PE X a (tD X.K f)) (hb : PE X b (tD X.K g)) (hc : PE X c (tD X.K h))
    (hm : lastMarks [op, op'] [b, c] = false := by with_unfolding_all rfl) : PE X (.Compare a [op, op'] [b, c] pos) (tD X.K (dChain o o' f g h)) := pe_w (pe_chain ho ho' ha hb hc hm) (tChain_of k k')
theorem dt_chain {op op' : CmpOp} {r r' : R2} {o o' : PyData → PyData → Option PyData} {f g h : DE} (ho : OpR X (compareOp op) r) (ho' : OpR X (compareOp op') r') (k : OpD X.K r o) (k' : OpD X.K r' o') (ha : PE X a (tD X.K f)) (hb : PE X b (tD X.K g)) (hc : PE X c (tD X.K h))
    (hm : lastMarks [op, op'] [b, c] = false := by with_unfolding_all rfl) : PT X (.Compare a [op, op'] [b, c] pos) (tDT X.K (bOf (dChain o o' f g h))) := pt_w (pt_chain ho ho' ha hb hc hm) fun σ H Q t => by
  obtain ⟨BV, B, V, ρ, c, E, hb, q⟩ := t
  exact tChain_of k k' σ H _ ⟨BV, B, V, ρ, _, E, bOf_some hb, fun v V' H' g d => by cases d; exact ⟨c, rfl, q V' H' g⟩⟩
end
end DL

namespace DL
open PySem PySem.Spec PyProof.Rows L2
/-! ### several values at once, some of them new lists that are kept -/
inductive MArgs (K : PySem.W.Frag) (V H : Hp) : (Addr → Prop) → List L2.V → List Sl → Prop
  | nil {S : Addr → Prop} : MArgs K V H S [] []
  | cons {S F : Addr → Prop} {v : L2.V} {s : Sl} {vs : List L2.V} {ss : List Sl} : Own K V H (some v) s F → s.loose = true → (∀ p, F p → S p ∧ V p = none) → MArgs K V H (fun q => S q ∧ ¬ F q) vs ss → MArgs K V H S (v :: vs) (s :: ss)
theorem MArgs.mono {K : PySem.W.Frag} {V H : Hp} : ∀ {S S' : Addr → Prop} {vs : List L2.V} {ss : List Sl}, MArgs K V H S vs ss → (∀ p, S p → S' p) → MArgs K V H S' vs ss
  | _, _, _, _, .nil, _ => .nil
  | _, _, _, _, .cons a l b r, e => .cons a l (fun p hp => ⟨e p (b p hp).1, (b p hp).2⟩) (r.mono fun p hp => ⟨e p hp.1, hp.2⟩)
abbrev DM := List Sl → Option (List Sl)
def tM (K : PySem.W.Frag) (f : DM) : TA := fun σ H Q => ∃ BV B V ρ ss, EnvD K BV B V H σ ρ ∧ f ρ = some ss ∧ ∀ vs V' H', Gr V H V' H' → MArgs K V' H' (fun p => H p = none) vs ss → Q vs H'
/-- something new for a slot -/
abbrev DSl := List Sl → Option Sl
def tSl (K : PySem.W.Frag) (f : DSl) : TE := fun σ H Q => ∃ BV B V ρ s, EnvD K BV B V H σ ρ ∧ f ρ = some s ∧ ∀ v V' H' F, Gr V H V' H' → Own K V' H' (some v) s F → s.loose = true → (∀ p, F p → H p = none ∧ V' p = none) → Q v H'
theorem Own.grow {K : PySem.W.Frag} {V H V' H' : Hp} {o : Option L2.V} {s : Sl} {F : Addr → Prop} (h : Own K V H o s F) (g : Gr V H V' H') : Own K V' H' o s F := h.frame g.v fun p hp => by
  cases q : H p with
  | none => exact absurd q (h.live p hp)
  | some u => exact g.h p u q
section
variable {X : Cx} {e a b : Expr} {es : List Expr} {pos : Pos} {st : Stmt} {rest : List Stmt}
def mNil : DM := fun _ => some []
def mD (f : DE) (r : DM) : DM := fun ρ => (f ρ).bind fun x => (r ρ).map fun ss => .d x :: ss
def mOwn (f : DA) (r : DM) : DM := fun ρ => (f ρ).bind fun x => (r ρ).map fun ss => .own x :: ss
theorem dm_nil : PA X [] (tM X.K mNil) := pa_w pa_nil fun σ H Q ⟨BV, B, V, ρ, z, E, hz, q⟩ => by
  cases hz
  exact q [] V H (.refl E.sub) .nil
def mS (f : DSl) (r : DM) : DM := fun ρ => (f ρ).bind fun x => (r ρ).map fun ss => x :: ss
theorem dm_s {f : DSl} {r : DM} (ha : PE X e (tSl X.K f)) (hr : PA X es (tM X.K r)) (hs : starEach (e :: es) X.env = (false, eval e X.env) :: starEach es X.env := by rfl) : PA X (e :: es) (tM X.K (mS f r)) :=
  pa_w (pa_cons ha hr hs) fun σ H Q ⟨BV, B, V, ρ, z, E, hz, q⟩ => by
    unfold mS at hz
    cases h1 : f ρ with
    | none => rw [h1] at hz; cases hz
    | some x =>
      cases h2 : r ρ with
      | none => rw [h1, h2] at hz; cases hz
      | some ss =>
        rw [h1, h2] at hz; cases hz
        exact ⟨BV, B, V, ρ, x, E, h1, fun v V1 H1 F G1 O1 l1 f1 => ⟨BV, B, V1, ρ, ss, E.grow G1, h2, fun vs V2 H2 G2 M2 => q _ V2 H2 (G1.trans G2)
          (.cons (O1.grow G2) l1 (fun p hp => ⟨(f1 p hp).1, G2.nw p (f1 p hp).2 (O1.live p hp)⟩) (M2.mono fun p hp => ⟨G1.h.back hp, fun z => O1.live p z hp⟩))⟩⟩
theorem tSl_d {f : DE} (h : PE X e (tD X.K f)) : PE X e (tSl X.K fun ρ => (f ρ).map .d) := pe_w h fun σ H Q ⟨BV, B, V, ρ, z, E, hz, q⟩ => by
  dsimp only at hz
  cases h1 : f ρ with
  | none => rw [h1] at hz; cases hz
  | some x => rw [h1] at hz; cases hz; exact ⟨BV, B, V, ρ, x, E, h1, fun v V' H' g d => q v V' H' _ g (Own.dat d) rfl fun p hp => hp.elim⟩
theorem tSl_own {f : DA} (h : PE X e (tN X.K f)) : PE X e (tSl X.K fun ρ => (f ρ).map .own) := pe_w h fun σ H Q ⟨BV, B, V, ρ, z, E, hz, q⟩ => by
  dsimp only at hz
  cases h1 : f ρ with
  | none => rw [h1] at hz; cases hz
  | some x => rw [h1] at hz; cases hz; exact ⟨BV, B, V, ρ, x, E, h1, fun p vs V' H' g n hv h' da => q _ V' H' _ g (Own.lst h' da) rfl fun p hp => by rw [hp]; exact ⟨n, hv⟩⟩
theorem mS_d {f : DE} {r : DM} : mS (fun ρ => (f ρ).map .d) r = mD f r := by
  funext ρ
  unfold mS mD
  dsimp only
  cases f ρ <;> rfl
theorem mS_own {f : DA} {r : DM} : mS (fun ρ => (f ρ).map .own) r = mOwn f r := by
  funext ρ
  unfold mS mOwn
  dsimp only
  cases f ρ <;> rfl
theorem dm_d {f : DE} {r : DM} (ha : PE X e (tD X.K f)) (hr : PA X es (tM X.K r)) (hs : starEach (e :: es) X.env = (false, eval e X.env) :: starEach es X.env := by rfl) : PA X (e :: es) (tM X.K (mD f r)) := by
  rw [← mS_d]; exact dm_s (tSl_d ha) hr hs
theorem dm_own {f : DA} {r : DM} (ha : PE X e (tN X.K f)) (hr : PA X es (tM X.K r)) (hs : starEach (e :: es) X.env = (false, eval e X.env) :: starEach es X.env := by rfl) : PA X (e :: es) (tM X.K (mOwn f r)) := by
  rw [← mS_own]; exact dm_s (tSl_own ha) hr hs
def setsD : List Nat → List Sl → List Sl → List Sl
  | i :: is, s :: ss, ρ => setsD is ss (ρ.set i s)
  | _, _, ρ => ρ
def setsV : List Nat → List L2.V → L2.St → L2.St
  | i :: is, s :: ss, ρ => setsV is ss (ρ.set i (some s))
  | _, _, ρ => ρ
theorem EnvA.sets {K : PySem.W.Frag} {BV : Hp} {B : Bs} {V H : Hp} : ∀ {is : List Nat} {vs : List L2.V} {ss : List Sl} {σ : L2.St} {ρ : List Sl} {S : Addr → Prop}, EnvA K BV B V H σ ρ S → MArgs K V H S vs ss → ss.length = is.length → (∀ p, S p → B.h p = none ∧ ¬ B.ex p) → EnvD K BV B V H (setsV is vs σ) (setsD is ss ρ)
  | [], _, _, _, _, _, E, .nil, _, _ => E.env
  | _ :: _, _, _, _, _, _, _, .nil, h, _ => by simp at h
  | [], _, _, _, _, _, _, .cons _ _ _ _, h, _ => by simp at h
  | i :: is, _, _, _, _, _, E, .cons a l b r, h, k => EnvA.sets (is := is) (E.take a (fun p hp => ⟨(b p hp).1, (b p hp).2, k p (b p hp).1⟩) i l) r (by simpa using h) fun p hp => k p hp.1
theorem EnvA.sets' {K : PySem.W.Frag} {BV : Hp} {B : Bs} {V H V' H' : Hp} {is : List Nat} {vs : List L2.V} {ss : List Sl} {σ : L2.St} {ρ : List Sl} (E : EnvD K BV B V H σ ρ) (g : Gr V H V' H') (m : MArgs K V' H' (fun p => H p = none) vs ss) (hl : ss.length = is.length) : EnvD K BV B V' H' (setsV is vs σ) (setsD is ss ρ) :=
  EnvA.sets ((E.fresh (S' := fun p => H p = none) fun _ z => z).grow g) m hl fun p hp => ⟨E.gr.h.back hp, fun z => E.xl p z hp⟩
def sMulti (is : List Nat) (f : DM) : DS := fun ρ => (f ρ).bind fun ss => if ss.length = is.length then some (.nx (setsD is ss ρ)) else none
theorem sMulti_some {is : List Nat} {f : DM} {ρ : List Sl} {r : Fl} (h : sMulti is f ρ = some r) : ∃ ss, f ρ = some ss ∧ ss.length = is.length ∧ r = .nx (setsD is ss ρ) := by
  unfold sMulti at h
  cases h1 : f ρ with
  | none => rw [h1] at h; cases h
  | some ss =>
    rw [h1] at h
    by_cases q : ss.length = is.length
    · simp [q] at h; exact ⟨ss, rfl, q, h.symm⟩
    · simp [q] at h
theorem margs_len {K : PySem.W.Frag} {V H : Hp} : ∀ {S : Addr → Prop} {vs : List L2.V} {ss : List Sl}, MArgs K V H S vs ss → vs.length = ss.length
  | _, _, _, .nil => rfl
  | _, _, _, .cons _ _ _ r => by simp [margs_len r]
theorem ds_par {i j : Nat} {x y : Str} {f : DM} {px py pt : Pos} {kt k2 pt2} (hc : X.calm = true) (hN : X.N.Nodup) (hi : X.N[i]? = some x) (hj : X.N[j]? = some y) (hij : i ≠ j) (hx : X.env.scope.names.lookup x = some .local) (hy : X.env.scope.names.lookup y = some .local) (ha : PA X [a, b] (tM X.K f))
    (hw : swappedStores [.Tuple [.Name x px, .Name y py] kt pt] (.Tuple [a, b] k2 pt2) X.env = pure (some [x, y])) (hs : swapsWithSole [.Tuple [.Name x px, .Name y py] kt pt] (.Tuple [a, b] k2 pt2) pos.line X.env = pure false := by rfl) :
    PS X (.Assign [.Tuple [.Name x px, .Name y py] kt pt] (.Tuple [a, b] k2 pt2) pos) (sD X.K (sMulti [i, j] f)) :=
  ps_w (ps_par hc hN hi hj hij hx hy ha hw hs) fun D σ H ⟨BV, B, V, ρ, r, E, h, q⟩ => by
    obtain ⟨ss, h1, h2, rfl⟩ := sMulti_some h
    refine ⟨BV, B, V, ρ, ss, E, h1, fun vs V' H' g m => ?_⟩
    have hl := margs_len m
    match vs, hl, m with
    | [v, w], _, m => exact ⟨v, w, rfl, q _ V' H' (E.sets' (is := [i, j]) g m h2)⟩
    | [], hl, _ => rw [h2] at hl; simp at hl
    | [_], hl, _ => rw [h2] at hl; simp at hl
    | _ :: _ :: _ :: _, hl, _ => rw [h2] at hl; simp at hl
theorem ds_par3 {i j l : Nat} {x y z : Str} {c : Expr} {f : DM} {px py pz pt : Pos} {kt k2 pt2} (hc : X.calm = true) (hN : X.N.Nodup) (hi : X.N[i]? = some x) (hj : X.N[j]? = some y) (hl : X.N[l]? = some z) (hij : i ≠ j) (hil : i ≠ l) (hjl : j ≠ l)
    (hx : X.env.scope.names.lookup x = some .local) (hy : X.env.scope.names.lookup y = some .local) (hz : X.env.scope.names.lookup z = some .local) (ha : PA X [a, b, c] (tM X.K f))
    (hw : swappedStores [.Tuple [.Name x px, .Name y py, .Name z pz] kt pt] (.Tuple [a, b, c] k2 pt2) X.env = pure (some [x, y, z])) (hs : swapsWithSole [.Tuple [.Name x px, .Name y py, .Name z pz] kt pt] (.Tuple [a, b, c] k2 pt2) pos.line X.env = pure false := by rfl) :
    PS X (.Assign [.Tuple [.Name x px, .Name y py, .Name z pz] kt pt] (.Tuple [a, b, c] k2 pt2) pos) (sD X.K (sMulti [i, j, l] f)) :=
  ps_w (ps_par3 hc hN hi hj hl hij hil hjl hx hy hz ha hw hs) fun D σ H ⟨BV, B, V, ρ, r, E, h, q⟩ => by
    obtain ⟨ss, h1, h2, rfl⟩ := sMulti_some h
    refine ⟨BV, B, V, ρ, ss, E, h1, fun vs V' H' g m => ?_⟩
    have hl := margs_len m
    match vs, hl, m with
    | [u, v, w], _, m => exact ⟨u, v, w, rfl, q _ V' H' (E.sets' (is := [i, j, l]) g m h2)⟩
    | [], hl, _ => rw [h2] at hl; simp at hl
    | [_], hl, _ => rw [h2] at hl; simp at hl
    | [_, _], hl, _ => rw [h2] at hl; simp at hl
    | _ :: _ :: _ :: _ :: _, hl, _ => rw [h2] at hl; simp at hl
/-- by a tuple -/
def gNames : List Nat → TGs
  | [] => gNil
  | i :: is => gCons (gName i) (gNames is)
theorem gNames_ok {Q : L2.St → Hp → Prop} {H : Hp} : ∀ {is : List Nat} {vs : List L2.V} {σ : L2.St}, vs.length = is.length → Q (setsV is vs σ) H → gNames is vs σ H Q
  | [], [], σ, _, q => ⟨rfl, q⟩
  | i :: is, v :: vs, σ, h, q => ⟨v, vs, rfl, gNames_ok (is := is) (by simpa using h) q⟩
  | [], _ :: _, _, h, _ => by simp at h
  | _ :: _, [], _, h, _ => by simp at h
theorem dgn_nil : PGs X [] (gNames []) := pgs_nil
theorem dgn_cons {i : Nat} {is : List Nat} (h1 : PG X e (gName i)) (h2 : PGs X es (gNames is)) (hs : (assignEach (e :: es) X.env).map (·.2) = assign e X.env :: (assignEach es X.env).map (·.2) := by rfl) : PGs X (e :: es) (gNames (i :: is)) := pgs_cons h1 h2 hs
theorem ds_multi {is : List Nat} {ts : List Expr} {k k2 n : Nat} {tp vp : Pos} {f : DM} (hc : X.calm = true) (ha : PA X es (tM X.K f)) (hg : PGs X ts (gNames is)) (hn : (assignEach ts X.env).length = n := by rfl) (hst : (assignEach ts X.env).findIdx? (·.1) = none := by rfl) (hni : is.length = n := by rfl) (hbig : n ≤ 100 := by decide)
    (hs : swapsWithSole [.Tuple ts k tp] (.Tuple es k2 vp) pos.line X.env = pure false := by rfl) (hw : swappedStores [.Tuple ts k tp] (.Tuple es k2 vp) X.env = pure none := by rfl) (h1 : (assignEach [.Tuple ts k tp] X.env).map (·.2) = [assign (.Tuple ts k tp) X.env] := by rfl) :
    PS X (.Assign [.Tuple ts k tp] (.Tuple es k2 vp) pos) (sD X.K (sMulti is f)) :=
  ps_w (ps_asg (pe_tup ha) (pg_tup hc hg hn hst) hs hw h1) fun D σ H ⟨BV, B, V, ρ, r, E, h, q⟩ => by
    obtain ⟨ss, h1, h2, rfl⟩ := sMulti_some h
    refine ⟨BV, B, V, ρ, ss, E, h1, fun vs V' H' g m => ?_⟩
    have hl := margs_len m
    refine ⟨by rw [hl, h2, hni]; exact line_of (by omega), fun p n' => ⟨p, vs, rfl, .inl (.inl upd_same), by rw [hl, h2, hni], gNames_ok (by rw [hl, h2]) ?_⟩⟩
    exact q _ V' _ ((E.sets' (is := is) g m h2).grow (Gr.held g.sub n'))
/-- target = e -/
def sAsg (f : DE) (g : DG) : DS := fun ρ => (f ρ).bind fun d => (g d ρ).map .nx
theorem ds_asg {tg : Expr} {is : List Nat} {f : DE} {g : DG} (he : PE X e (tD X.K f)) (hg : PG X tg (gD X.K is g)) (hs : swapsWithSole [tg] e pos.line X.env = pure false := by rfl) (hw : swappedStores [tg] e X.env = pure none := by rfl)
    (h1 : (assignEach [tg] X.env).map (·.2) = [assign tg X.env] := by rfl) : PS X (.Assign [tg] e pos) (sD X.K (sAsg f g)) := ps_w (ps_asg he hg hs hw h1) fun D σ H ⟨BV, B, V, ρ, r, E, h, q⟩ => by
  unfold sAsg at h
  cases h1 : f ρ with
  | none => rw [h1] at h; cases h
  | some d =>
    rw [h1] at h
    simp only [Option.bind_some] at h
    cases h2 : g d ρ with
    | none => rw [h2] at h; cases h
    | some ρ' =>
      rw [h2] at h; cases h
      exact ⟨BV, B, V, ρ, d, E, h1, fun v V' H' g1 d1 => ⟨BV, B, V', ρ, d, ρ', E.grow g1, d1, h2, fun σ' V2 g2 E2 _ _ => q σ' V2 H' E2⟩⟩
/-! ### x.extend(e), x own -/
def rExtR : V → List V → Hp → VK → Prop := fun x vs H Q => ∃ l b xs zs, x = .ref l ∧ vs = [.ref b] ∧ H l = some (.lst xs) ∧ Rd H b (.lst zs) ∧ xs.length + zs.length ≤ sizeLine ∧ Q .non (upd H l (.lst (xs ++ zs)))
theorem mt_extR : MtM X "list.extend" rExtR := by
  intro pins s σ H x vs v us Q I rx rv h
  obtain ⟨l, b, xs, zs, rfl, rfl, hH, hB, hz, q⟩ := h
  cases rx
  obtain ⟨u, rfl, ru⟩ := rv.one
  cases ru
  obtain ⟨z, its, n, r, hl, e⟩ := I.lstM hH
  obtain ⟨z2, its2, n2, r2, hl2, e2⟩ := lstR I hB
  have hsz : its.toArray.size + its2.toArray.size ≤ sizeLine := by rw [List.size_toArray, List.size_toArray]; omega
  have hlong : ¬ (!its.toArray.isEmpty && Builtin.List.listTooLong (its.toArray.size + its2.toArray.size)) = true := by
    rw [notLongL hsz, Bool.and_false]
    exact Bool.false_ne_true
  refine call_meets F.slot_list_extend ⟨_, e, rfl⟩ F.entry_list_extend (F.args_list_extend_2 _ _)
    (AutoSeq1.list_extend_list_list_0 l its.toArray n b its2.toArray n2 hlong (by rw [List.size_toArray]; omega) (by omega)) ⟨e, e2, ?_⟩
  refine ⟨.non, _, I.lset (its' := its ++ its2) hH e (by simp) (r.append r2) ?_, rfl, q⟩
  rw [List.length_append]
  omega
def sExt (i : Nat) (f : DE) : DS := fun ρ => (ownAt i ρ).bind fun xs => (f ρ).bind fun d => match d with
  | .list ds => if xs.length + ds.length ≤ 100000 then some (.nx (ρ.set i (.own (xs ++ ds)))) else none
  | _ => none
theorem ds_ext {i : Nat} {f : DE} {o : Expr} {apos cpos : Pos} (ho : PE X o (tVar i)) (he : PE X e (tD X.K f)) (hbase : attributeBase o "extend" X.env (eval o X.env) = eval o X.env := by rfl)
    (hfew : ((backTo cpos (starEach [e] X.env)).all (fun x => !x.1) && (backToKw cpos (keywordEach [] X.env)).all (fun x => x.1.isSome)
      && decide (([e] : List Expr).length + ([] : List Keyword).length + (if ([] : List Keyword).isEmpty then 0 else 1) < 30)) = true := by rfl)
    (hline : (apos.endLine == cpos.line) = true := by rfl) (hs : starEach [e] X.env = [(false, eval e X.env)] := by rfl) :
    PS X (.Expr (.Call (.Attribute o "extend" apos) [e] [] cpos) pos) (sD X.K (sExt i f)) :=
  ps_w (ps_expr (pe_bm PySem.F.plainAttrs_list PySem.F.slot_list_extend PySem.F.type_list_extend mt_extR ho (pa_cons he pa_nil hs) hbase hfew hline hs rfl)) fun D σ H ⟨BV, B, V, ρ, r, E, h, q⟩ => by
    unfold sExt at h
    cases h1 : ownAt i ρ with
    | none => rw [h1] at h; cases h
    | some xs =>
      cases h2 : f ρ with
      | none => rw [h1, h2] at h; cases h
      | some d =>
        rw [h1, h2] at h
        simp only [Option.bind_some] at h
        cases d with
        | list ds =>
          simp only at h
          split at h
          · rename_i hz
            cases h
            obtain ⟨p, vs, es, k1, k2, k4⟩ := own_val E (ownAt_some h1)
            refine ⟨.ref p, es, .inl ⟨rfl, _, .inl (.inl k1)⟩, BV, B, V, ρ, _, E, h2, fun v V' H' g dd => ?_⟩
            cases dd with
            | lst r1 d1 =>
              have k1' := g.h _ _ k1
              refine ⟨p, _, vs, _, rfl, rfl, k1', g.sub.rd r1, by rw [da_len k4, da_len d1]; exact line_of hz, ?_⟩
              exact q σ V' _ ((E.grow g).write (vs := vs) (ownAt_some h1) es (da_app (da_mono g.v k4) d1))
          · cases h
        | _ => cases h
/-! ### looking into an own list -/
def dOwnIx (i : Nat) (g : DE) : DE := fun ρ => (ownAt i ρ).bind fun xs => (g ρ).bind fun y => match y with
  | .int k => atI xs k
  | _ => none
theorem de_ownIx {i : Nat} {g : DE} {o : Expr} (ho : PE X o (tVar i)) (hb : PE X b (tD X.K g)) (hs : PlainIx b) : PE X (.Subscript o b pos) (tD X.K (dOwnIx i g)) :=
  pe_w (pe_ix ix_list ho hb hs) fun σ H Q ⟨BV, B, V, ρ, z, E, hz, q⟩ => by
    unfold dOwnIx at hz
    cases h1 : ownAt i ρ with
    | none => rw [h1] at hz; cases hz
    | some xs =>
      cases h2 : g ρ with
      | none => rw [h1, h2] at hz; cases hz
      | some y =>
        rw [h1, h2] at hz
        simp only [Option.bind_some] at hz
        obtain ⟨p, vs, es, k1, k2, k4⟩ := own_val E (ownAt_some h1)
        refine ⟨.ref p, es, BV, B, V, ρ, y, E, h2, fun v V' H' g1 d1 => ?_⟩
        cases d1 with
        | int k =>
          obtain ⟨w, r1, r2⟩ := at_of (da_mono g1.v k4) hz
          exact ⟨p, vs, k, w, rfl, rfl, .inl (.inl (g1.h _ _ k1)), r1, q w V' H' g1 r2⟩
        | _ => cases hz
def dOwnLen (i : Nat) : DE := fun ρ => (ownAt i ρ).map fun xs => .int xs.length
theorem de_ownLen {i : Nat} {o : Expr} {p : Pos} (hg : Gl X "len") (hm : X.mg "len" = none) (ho : PE X o (tVar i)) (hs : starEach [o] X.env = [(false, eval o X.env)] := by rfl) : PE X (.Call (.Name "len" p) [o] [] pos) (tD X.K (dOwnLen i)) :=
  pe_w (pe_callB call_len_seq hg hm PySem.boot_len (pa_cons ho pa_nil hs) (by decide) (by decide) hs rfl) fun σ H Q ⟨BV, B, V, ρ, z, E, hz, q⟩ => by
    unfold dOwnLen at hz
    cases h1 : ownAt i ρ with
    | none => rw [h1] at hz; cases hz
    | some xs =>
      rw [h1] at hz; cases hz
      obtain ⟨p, vs, es, k1, k2, k4⟩ := own_val E (ownAt_some h1)
      exact ⟨.ref p, es, p, vs, rfl, .inl (.inl (.inl k1)), by rw [da_len k4]; exact q _ V H (.refl E.sub) (.int _)⟩
/-- x[i] = e, x own -/
def sSetIx (i : Nat) (g f : DE) : DS := fun ρ => (f ρ).bind fun d => (ownAt i ρ).bind fun xs => (g ρ).bind fun y => match y with
  | .int k => (ixN xs.length k).map fun j => .nx (ρ.set i (.own (xs.set j d)))
  | _ => none
theorem ds_setIx {i : Nat} {g f : DE} {o : Expr} {p2 : Pos} (ho : PE X o (tVar i)) (hb : PE X b (tD X.K g)) (he : PE X e (tD X.K f)) (hs : swapsWithSole [.Subscript o b p2] e pos.line X.env = pure false := by rfl) (hw : swappedStores [.Subscript o b p2] e X.env = pure none := by rfl)
    (h1 : (assignEach [.Subscript o b p2] X.env).map (·.2) = [assign (.Subscript o b p2) X.env] := by rfl) (ha : ∀ v, assign (.Subscript o b p2) X.env v = (do
      let ov ← holding [v] (eval o X.env)
      let iv ← holding [v, ov] (eval b X.env)
      standAt p2
      holding [v, ov, iv] (setItem ov iv v)
      release [v, ov, iv] []) := by intro _; rfl) : PS X (.Assign [.Subscript o b p2] e pos) (sD X.K (sSetIx i g f)) :=
  ps_w (ps_asg he (pg_sub ho hb set_list ha) hs hw h1) fun D σ H ⟨BV, B, V, ρ, r, E, h, q⟩ => by
    unfold sSetIx at h
    cases h1 : f ρ with
    | none => rw [h1] at h; cases h
    | some d =>
      cases h2 : ownAt i ρ with
      | none => rw [h1, h2] at h; cases h
      | some xs =>
        cases h3 : g ρ with
        | none => rw [h1, h2, h3] at h; cases h
        | some y =>
          rw [h1, h2, h3] at h
          simp only [Option.bind_some] at h
          refine ⟨BV, B, V, ρ, d, E, h1, fun v V1 H1 g1 d1 => ?_⟩
          obtain ⟨p, vs, es, k1, k2, k4⟩ := own_val (E.grow g1) (ownAt_some h2)
          refine ⟨.ref p, es, BV, B, V1, ρ, y, E.grow g1, h3, fun w V2 H2 g2 d2 => ?_⟩
          cases d2 with
          | int k =>
            simp only at h
            cases h4 : ixN xs.length k with
            | none => rw [h4] at h; cases h
            | some j =>
              rw [h4] at h; cases h
              refine ⟨p, vs, k, j, rfl, rfl, g2.h _ _ k1, by rw [da_len k4]; exact h4, ?_⟩
              exact q σ V2 _ ((E.grow (g1.trans g2)).write (vs := vs) (ownAt_some h2) es (da_set (dp_mono g2.v d1) j (da_mono g2.v k4)))
          | _ => cases h
end
end DL

namespace DL
open PySem PySem.Spec PyProof.Rows L2
structure FnAt (K : PySem.W.Frag) (mg : Str → Option Value) (x : Str) (st : Stmt) (ps : List Str) (f : Addr) (fd : FuncData) : Prop where
  F : Fun K x x st f fd
  b : Binds K fd ps []
  g : mg x = some (.ref f)
theorem tbl_of {α β : Type} [BEq α] [LawfulBEq α] {P : α → β → Prop} : ∀ {l : List (α × β)} {z : α} {d : β}, l.lookup z = some d → (∀ k v, (k, v) ∈ l → P k v) → P z d
  | [], _, _, h, _ => by simp at h
  | (k, v) :: r, z, d, h, f => by
    rw [List.lookup_cons] at h
    split at h
    · rename_i e
      cases h
      have : z = k := by simpa using e
      subst this
      exact f _ _ List.mem_cons_self
    · exact tbl_of h fun k v hk => f k v (List.mem_cons_of_mem _ hk)
/-- the script -/
def scr (ns : List Int) : PyData := .dict [(.list (ns.map .int), .none)]
theorem law_end {K : PySem.W.Frag} {D : List PyData → Option PyData} {H : Hp} {a : Addr} {ns : List Int} {E : XK} (h : D [scr ns] = some (.bool true)) (hS : SqL K H a (ns.map V.int)) : spD K 1 D [.ref a] H (fun v _ => v = .bl true) E :=
  ⟨rfl, H, [scr ns], _, .refl, .cons (.lk hS (da_ints ns)) .nil, h, fun v V' H' _ d => by cases d; rfl⟩
section
variable {X : Cx} {e a b : Expr} {es : List Expr} {pos : Pos}
theorem pe_or2 {t u : TE} (h : PE X e t) (k : PE X e u) : PE X e (fun σ H Q => t σ H Q ∨ u σ H Q) := ⟨fun pins s σ H Q I q => q.elim (h.run pins s σ H Q I) (k.run pins s σ H Q I)⟩
theorem pi_or2 {tg : Expr} {t u : TI} (h : PI X tg e t) (k : PI X tg e u) : PI X tg e (fun σ H Q => t σ H Q ∨ u σ H Q) := ⟨fun pins s σ H Q I q => q.elim (h.run pins s σ H Q I) (k.run pins s σ H Q I)⟩
/-- a list, a tuple or a text -/
def items : PyData → Option (List PyData)
  | .list ds => some ds
  | .tuple ds => some ds
  | .str z => some (signs z)
  | _ => none
def aAny (f : DE) : DA := fun ρ => (f ρ).bind items
theorem di_any {tg : Expr} {f : DE} (h : PE X e (tD X.K f)) : PI X tg e (iD X.K (aAny f)) := pi_w (pi_or2 (di_list h) (pi_or2 (di_tup h) (di_str h))) fun σ H R ⟨BV, B, V, ρ, ds, E, hf, q⟩ => by
  unfold aAny at hf
  cases h1 : f ρ with
  | none => rw [h1] at hf; cases hf
  | some d =>
    rw [h1] at hf
    cases d with
    | list xs => exact .inl ⟨BV, B, V, ρ, ds, E, by unfold aList; rw [h1]; exact hf, q⟩
    | tuple xs => exact .inr (.inl ⟨BV, B, V, ρ, ds, E, by unfold aTup; rw [h1]; exact hf, q⟩)
    | str z => exact .inr (.inr ⟨BV, B, V, ρ, ds, E, by unfold aStr; rw [h1]; exact hf, q⟩)
    | _ => cases hf
theorem op_leP : OpR X (compareOp .LtE) (rI0 fun i j => .bl (decide (i ≤ j))) := op_le
theorem op_mulP : OpR X (binaryOp .Mult) (rI CMul fun i j => .int (i * j)) := op_mul
end
end DL

namespace DL
open PySem PySem.Spec PyProof.Rows L2
/-! ### loops over data -/
theorem forGo_inv {g : DG} {F : DS} {P : List Sl → Prop} : ∀ {ds : List PyData} {ρ : List Sl}, (∀ d ∈ ds, ∀ ρ, P ρ → ∃ ρ1 ρ', g d ρ = some ρ1 ∧ F ρ1 = some (.nx ρ') ∧ P ρ') → P ρ → ∃ ρ', forGo g F ds ρ = some (.nx ρ') ∧ P ρ'
  | [], ρ, _, p => ⟨ρ, rfl, p⟩
  | d :: ds, ρ, h, p => by
    obtain ⟨ρ1, ρ2, h1, h2, p2⟩ := h d List.mem_cons_self ρ p
    obtain ⟨ρ3, h3, p3⟩ := forGo_inv (ds := ds) (ρ := ρ2) (fun d hd => h d (List.mem_cons_of_mem _ hd)) p2
    exact ⟨ρ3, by simp only [forGo, h1, h2, Option.bind_some]; exact h3, p3⟩
theorem mem_rangeD {lo : Int} {n : Nat} {d : PyData} (h : d ∈ rangeD lo n) : ∃ i : Nat, i < n ∧ d = .int (lo + i) := by
  unfold rangeD at h
  obtain ⟨i, hi, rfl⟩ := List.mem_map.mp h
  exact ⟨i, List.mem_range.mp hi, rfl⟩
theorem canLay_ints : ∀ ns : List Int, PyData.canLayAll0 (ns.map .int) = true
  | [] => by simp [PyData.canLayAll0]
  | n :: r => by simp [PyData.canLayAll0, PyData.canLay0, canLay_ints r]
theorem depth_ints : ∀ ns : List Int, PyData.depthAll (ns.map .int) ≤ 1
  | [] => by simp [PyData.depthAll]
  | n :: r => by
    have := depth_ints r
    simp [PyData.depthAll, PyData.depth] 
    omega
theorem shaped_ints (ns : List Int) : SeqAt.shaped (.list (ns.map .int)) = true := by
  have h1 := canLay_ints ns
  have h2 := depth_ints ns
  simp only [SeqAt.shaped, PyData.canLay0, h1, PyData.depth, Bool.true_and]
  exact decide_eq_true (by omega)
/-- the draw of a cell -/
theorem scr_ne (ns : List Int) : nePS (scr ns) (.list []) = some (.bool (!ns.isEmpty)) := by
  unfold scr nePS
  simp only [shaped_ints ns, if_true]
  cases ns <;> rfl
theorem scr_len (ns : List Int) : lenP [scr ns] = some (.int ns.length) := by
  unfold scr lenP
  simp
theorem scr_at {ns : List Int} {i : Int} (h0 : 0 ≤ i) (h1 : i < ns.length) : ∃ c, ixP (scr ns) (.int i) = some (.int c) := by
  have hl : i.toNat < ns.length := by omega
  refine ⟨ns[i.toNat], ?_⟩
  show atI (ns.map PyData.int) i = _
  unfold atI ixN
  rw [if_pos h0, if_pos (by rw [List.length_map]; exact h1)]
  simp [hl]
theorem smallI_of {i : Int} (h : -(2 ^ 64) < i ∧ i < 2 ^ 64) : smallI i = true := by
  unfold smallI
  rw [decide_eq_true h.1, decide_eq_true h.2]; rfl
theorem smallD_of {i : Int} (h : 0 < i ∧ i < 2 ^ 64) : smallD i = true := by
  unfold smallD
  rw [decide_eq_true h.1, decide_eq_true h.2]; rfl
theorem mulP_l {i j : Int} (h : -(2 ^ 64) < i ∧ i < 2 ^ 64) : mulP (.int i) (.int j) = some (.int (i * j)) := by
  simp only [mulP, smallI_of h, Bool.true_or, if_true]
theorem mulP_r {i j : Int} (h : -(2 ^ 64) < j ∧ j < 2 ^ 64) : mulP (.int i) (.int j) = some (.int (i * j)) := by
  simp only [mulP, smallI_of h, Bool.or_true, if_true]
theorem fdivP_eq {i j : Int} (h : 0 < j ∧ j < 2 ^ 64) : fdivP (.int i) (.int j) = some (.int (i / j)) := by
  simp only [fdivP, smallD_of h, if_true]
theorem modP_eq {i j : Int} (h : 0 < j) : modP (.int i) (.int j) = some (.int (i % j)) := by
  simp only [modP, h, if_true]
theorem addP_eq (i j : Int) : addP (.int i) (.int j) = some (.int (i + j)) := rfl
theorem subP_eq (i j : Int) : subP (.int i) (.int j) = some (.int (i - j)) := rfl
theorem gtP_eq (i j : Int) : gtP (.int i) (.int j) = some (.bool (decide (j < i))) := rfl
end DL
namespace DL
open PySem L2
/-! ### signs and traffic -/
def sgC (a : Fin 4) : Nat := [80, 45, 71, 84].getD a.val 0
def trC (a : Fin 4) : Nat := [46, 76, 83, 82].getD a.val 0
def st4 (f : Fin 4 → Nat) (a b c d : Fin 4) : Str := ⟨#[f a, f b, f c, f d]⟩
theorem join4S : ∀ a b c d : Fin 4, Txt.join "" [⟨#[sgC a]⟩, ⟨#[sgC b]⟩, ⟨#[sgC c]⟩, ⟨#[sgC d]⟩] = st4 sgC a b c d := by decide +kernel
theorem join4T : ∀ a b c d : Fin 4, Txt.join "" [⟨#[trC a]⟩, ⟨#[trC b]⟩, ⟨#[trC c]⟩, ⟨#[trC d]⟩] = st4 trC a b c d := by decide +kernel
theorem joinP4 {f : Fin 4 → Nat} (h : ∀ a b c d, Txt.join "" [⟨#[f a]⟩, ⟨#[f b]⟩, ⟨#[f c]⟩, ⟨#[f d]⟩] = st4 f a b c d) (a b c d : Fin 4) :
    joinP (.str "") [.list [.str ⟨#[f a]⟩, .str ⟨#[f b]⟩, .str ⟨#[f c]⟩, .str ⟨#[f d]⟩]] = some (.str (st4 f a b c d)) := by
  simp only [joinP, asStrs, Option.map_some, Option.bind_some]
  have e : (("" : Str)).length = 0 := by decide
  rw [e, if_pos (by simp [Str.length]), h a b c d]
theorem lt8 {n : Int} (h0 : 0 ≤ n) (h1 : n < 8) : n = 0 ∨ n = 1 ∨ n = 2 ∨ n = 3 ∨ n = 4 ∨ n = 5 ∨ n = 6 ∨ n = 7 := by omega
theorem lt6 {n : Int} (h0 : 0 ≤ n) (h1 : n < 6) : n = 0 ∨ n = 1 ∨ n = 2 ∨ n = 3 ∨ n = 4 ∨ n = 5 := by omega
end DL
namespace DL
open PySem L2
def isT : Option PyData → Bool
  | some (.bool true) => true
  | _ => false
def isF : Option PyData → Bool
  | some (.bool false) => true
  | _ => false
def isI (i : Int) : Option PyData → Bool
  | some (.int j) => decide (j = i)
  | _ => false
theorem of_isT {x : Option PyData} (h : isT x = true) : x = some (.bool true) := by
  unfold isT at h
  split at h
  · rfl
  · cases h
theorem of_isF {x : Option PyData} (h : isF x = true) : x = some (.bool false) := by
  unfold isF at h
  split at h
  · rfl
  · cases h
theorem of_isI {i : Int} {x : Option PyData} (h : isI i x = true) : x = some (.int i) := by
  unfold isI at h
  split at h
  · rename_i j; rw [of_decide_eq_true h]
  · cases h
end DL
namespace DL
open PySem L2
def rk : Fin 4 → Int
  | 0 => 2
  | 1 => 1
  | 2 => 0
  | 3 => 0
def isBo (b : Bool) : Option PyData → Bool
  | some (.bool c) => c == b
  | _ => false
theorem of_isBo {b : Bool} {x : Option PyData} (h : isBo b x = true) : x = some (.bool b) := by
  unfold isBo at h
  split at h
  · rw [eq_of_beq h]
  · cases h
theorem sg_P (z : Fin 4) : eqP (.str ⟨#[sgC z]⟩) (.str "P") = some (.bool (z == 0)) := by
  have h : ∀ z : Fin 4, isBo (z == 0) (eqP (.str ⟨#[sgC z]⟩) (.str "P")) = true := by decide +kernel
  exact of_isBo (h z)
theorem sg_N (z : Fin 4) : eqP (.str ⟨#[sgC z]⟩) (.str "-") = some (.bool (z == 1)) := by
  have h : ∀ z : Fin 4, isBo (z == 1) (eqP (.str ⟨#[sgC z]⟩) (.str "-")) = true := by decide +kernel
  exact of_isBo (h z)
theorem neI (i j : Int) : nePS (.int i) (.int j) = some (.bool (!(i == j))) := by
  show neP (.int i) (.int j) = _
  unfold neP
  rw [if_pos (by simp [SeqAt.shaped, PyData.canLay0, PyData.depth])]
  simp [PyData.eqv]
end DL

namespace DL
open PySem L2
/-! ### a denotation does not look at slots that it has not set; what it does not set stays -/
def Le (ρ ρ' : List Sl) : Prop := ρ.length = ρ'.length ∧ ∀ (i : Nat) (s : Sl), ρ[i]? = some s → s = .un ∨ ρ'[i]? = some s
theorem Le.refl (ρ : List Sl) : Le ρ ρ := ⟨rfl, fun _ _ h => .inr h⟩
theorem Le.set {ρ ρ' : List Sl} (h : Le ρ ρ') (i : Nat) (s : Sl) : Le (ρ.set i s) (ρ'.set i s) := by
  refine ⟨by simp [h.1], fun j t e => ?_⟩
  rcases get_set e with ⟨rfl, hl, rfl⟩ | ⟨n, e⟩
  · exact .inr (List.getElem?_set_self (by rw [← h.1]; exact hl))
  · rw [List.getElem?_set_ne n]
    exact h.2 j t e
theorem Le.wipe {ρ ρ' : List Sl} (h : Le ρ ρ') : ∀ vs : List Nat, Le (wipeD ρ vs) (wipeD ρ' vs)
  | [] => h
  | v :: vs => (h.wipe vs).set v .un
def ME {α : Type} (f : List Sl → Option α) : Prop := ∀ ρ ρ' d, Le ρ ρ' → f ρ = some d → f ρ' = some d
def Fr (W : List Nat) (ρ ρ1 : List Sl) : Prop := ∀ i, i ∉ W → ρ1[i]? = ρ[i]?
theorem Fr.refl {W : List Nat} {ρ : List Sl} : Fr W ρ ρ := fun _ _ => rfl
theorem Fr.trans {W : List Nat} {ρ ρ1 ρ2 : List Sl} (a : Fr W ρ ρ1) (b : Fr W ρ1 ρ2) : Fr W ρ ρ2 := fun i h => (b i h).trans (a i h)
theorem Fr.set {W : List Nat} {ρ : List Sl} {i : Nat} {s : Sl} (h : i ∈ W) : Fr W ρ (ρ.set i s) := fun j n => List.getElem?_set_ne (fun z => n (by rw [← z]; exact h))
def FlLe (W : List Nat) (ρ' : List Sl) : Fl → Fl → Prop
  | .nx a, .nx b => Le a b ∧ Fr W ρ' b
  | .bk a, .bk b => Le a b ∧ Fr W ρ' b
  | .ct a, .ct b => Le a b ∧ Fr W ρ' b
  | .rt a, .rt b => a = b
  | _, _ => False
def SF (W : List Nat) (F : DS) : Prop := ∀ ρ ρ' r, Le ρ ρ' → F ρ = some r → ∃ r', F ρ' = some r' ∧ FlLe W ρ' r r'
def MG (W : List Nat) (g : DG) : Prop := ∀ d ρ ρ' ρ1, Le ρ ρ' → g d ρ = some ρ1 → ∃ ρ1', g d ρ' = some ρ1' ∧ Le ρ1 ρ1' ∧ Fr W ρ' ρ1'
def MGs (W : List Nat) (g : DGs) : Prop := ∀ d ρ ρ' ρ1, Le ρ ρ' → g d ρ = some ρ1 → ∃ ρ1', g d ρ' = some ρ1' ∧ Le ρ1 ρ1' ∧ Fr W ρ' ρ1'
theorem bind_some {α β : Type} {x : Option α} {f : α → Option β} {b : β} (h : x.bind f = some b) : ∃ a, x = some a ∧ f a = some b := by
  cases x with
  | none => cases h
  | some a => exact ⟨a, rfl, h⟩
theorem map_some {α β : Type} {x : Option α} {f : α → β} {b : β} (h : x.map f = some b) : ∃ a, x = some a ∧ f a = b := by
  cases x with
  | none => cases h
  | some a => exact ⟨a, rfl, Option.some.inj h⟩
/-- expressions -/
theorem me_var {i : Nat} : ME (dVar i) := fun ρ ρ' d h e => by
  unfold dVar at e ⊢
  cases q : ρ[i]? with
  | none => rw [q] at e; cases e
  | some s =>
    rw [q] at e
    cases s with
    | d x =>
      rcases h.2 i _ q with z | z
      · cases z
      · rw [z]; exact e
    | _ => cases e
theorem me_c {d : PyData} : ME (dC d) := fun _ _ _ _ e => e
theorem me_d2 {o : PyData → PyData → Option PyData} {f g : DE} (hf : ME f) (hg : ME g) : ME (d2 o f g) := fun ρ ρ' d h e => by
  obtain ⟨x, h1, e⟩ := bind_some e
  obtain ⟨y, h2, e⟩ := bind_some e
  simp only [d2, hf _ _ _ h h1, hg _ _ _ h h2, Option.bind_some]
  exact e
theorem me_d1 {o : PyData → Option PyData} {f : DE} (hf : ME f) : ME (d1 o f) := fun ρ ρ' d h e => by
  obtain ⟨x, h1, e⟩ := bind_some e
  simp only [d1, hf _ _ _ h h1, Option.bind_some]
  exact e
theorem me_dL {f : DA} (hf : ME f) : ME (dL f) := fun ρ ρ' d h e => by
  obtain ⟨x, h1, e⟩ := map_some e
  simp only [dL, hf _ _ _ h h1, Option.map_some, e]
theorem me_small {f : DA} (hf : ME f) : ME (aSmall f) := fun ρ ρ' d h e => by
  obtain ⟨x, h1, e⟩ := bind_some e
  simp only [aSmall, hf _ _ _ h h1, Option.bind_some]
  exact e
theorem me_tup {f : DA} (hf : ME f) : ME (dTup f) := fun ρ ρ' d h e => by
  obtain ⟨x, h1, e⟩ := map_some e
  simp only [dTup, me_small hf _ _ _ h h1, Option.map_some, e]
theorem me_nil : ME aNil := fun _ _ _ _ e => e
theorem me_cons {f : DE} {r : DA} (hf : ME f) (hr : ME r) : ME (aCons f r) := fun ρ ρ' d h e => by
  obtain ⟨x, h1, e⟩ := bind_some e
  obtain ⟨y, h2, e⟩ := map_some e
  simp only [aCons, hf _ _ _ h h1, hr _ _ _ h h2, Option.bind_some, Option.map_some, e]
theorem me_call {o : List PyData → Option PyData} {f : DA} (hf : ME f) : ME (dCall o f) := fun ρ ρ' d h e => by
  obtain ⟨x, h1, e⟩ := bind_some e
  simp only [dCall, hf _ _ _ h h1, Option.bind_some]
  exact e
theorem me_m {o : PyData → List PyData → Option PyData} {f : DE} {g : DA} (hf : ME f) (hg : ME g) : ME (dM o f g) := fun ρ ρ' d h e => by
  obtain ⟨x, h1, e⟩ := bind_some e
  obtain ⟨y, h2, e⟩ := bind_some e
  simp only [dM, hf _ _ _ h h1, hg _ _ _ h h2, Option.bind_some]
  exact e
theorem me_bOf {f : DE} (hf : ME f) : ME (bOf f) := fun ρ ρ' d h e => by
  have := hf _ _ _ h (bOf_some e)
  unfold bOf
  rw [this]
theorem me_bAnd {f g : DB} (hf : ME f) (hg : ME g) : ME (bAnd f g) := fun ρ ρ' d h e => by
  obtain ⟨x, h1, e⟩ := bind_some e
  simp only [bAnd, hf _ _ _ h h1, Option.bind_some]
  cases x with
  | true => exact hg _ _ _ h e
  | false => exact e
theorem me_bOr {f g : DB} (hf : ME f) (hg : ME g) : ME (bOr f g) := fun ρ ρ' d h e => by
  obtain ⟨x, h1, e⟩ := bind_some e
  simp only [bOr, hf _ _ _ h h1, Option.bind_some]
  cases x with
  | true => exact e
  | false => exact hg _ _ _ h e
theorem me_bNot {f : DB} (hf : ME f) : ME (bNot f) := fun ρ ρ' d h e => by
  obtain ⟨x, h1, e⟩ := map_some e
  simp only [bNot, hf _ _ _ h h1, Option.map_some, e]
theorem me_vAnd {f g : DE} (hf : ME f) (hg : ME g) : ME (vAnd f g) := fun ρ ρ' d h e => by
  obtain ⟨x, h1, e⟩ := bind_some e
  simp only [vAnd, me_bOf hf _ _ _ h h1, Option.bind_some]
  cases x with
  | true => exact hg _ _ _ h e
  | false => exact e
theorem me_vOr {f g : DE} (hf : ME f) (hg : ME g) : ME (vOr f g) := fun ρ ρ' d h e => by
  obtain ⟨x, h1, e⟩ := bind_some e
  simp only [vOr, me_bOf hf _ _ _ h h1, Option.bind_some]
  cases x with
  | true => exact e
  | false => exact hg _ _ _ h e
theorem me_vNot {f : DE} (hf : ME f) : ME (vNot f) := fun ρ ρ' d h e => by
  obtain ⟨x, h1, e⟩ := map_some e
  simp only [vNot, me_bOf hf _ _ _ h h1, Option.map_some, e]
theorem me_if {t : DB} {f g : DE} (ht : ME t) (hf : ME f) (hg : ME g) : ME (dIf t f g) := fun ρ ρ' d h e => by
  obtain ⟨x, h1, e⟩ := bind_some e
  simp only [dIf, ht _ _ _ h h1, Option.bind_some]
  cases x with
  | true => exact hf _ _ _ h e
  | false => exact hg _ _ _ h e
theorem me_yes : ME tYesD := fun _ _ _ _ e => e
theorem me_any {f : DE} (hf : ME f) : ME (aAny f) := fun ρ ρ' d h e => by
  obtain ⟨x, h1, e⟩ := bind_some e
  simp only [aAny, hf _ _ _ h h1, Option.bind_some]
  exact e
theorem me_range {f : DA} (hf : ME f) : ME (aRange f) := fun ρ ρ' d h e => by
  obtain ⟨x, h1, e⟩ := bind_some e
  simp only [aRange, hf _ _ _ h h1, Option.bind_some]
  exact e
theorem me_nRange {f : DE} (hf : ME f) : ME (nRange f) := fun ρ ρ' d h e => by
  unfold nRange at e ⊢
  cases q : f ρ with
  | none => rw [q] at e; cases e
  | some x => rw [q] at e; rw [hf _ _ _ h q]; exact e
theorem me_oPart {f : Option DE} (hf : ∀ g, f = some g → ME g) : ME (oPart f) := fun ρ ρ' d h e => by
  cases f with
  | none => exact e
  | some g =>
    simp only [oPart] at e ⊢
    cases q : g ρ with
    | none => rw [q] at e; cases e
    | some x => rw [q] at e; rw [hf g rfl _ _ _ h q]; exact e
theorem me_sl {f : DE} {lo hi : Option DE} (hf : ME f) (hl : ∀ g, lo = some g → ME g) (hh : ∀ g, hi = some g → ME g) : ME (dSl f lo hi) := fun ρ ρ' d h e => by
  obtain ⟨x, h1, e⟩ := bind_some e
  obtain ⟨y, h2, e⟩ := bind_some e
  obtain ⟨z, h3, e⟩ := bind_some e
  simp only [dSl, hf _ _ _ h h1, me_oPart hl _ _ _ h h2, me_oPart hh _ _ _ h h3, Option.bind_some]
  exact e
theorem me_pn : ∀ g : DE, (none : Option DE) = some g → ME g := fun _ h => by cases h
theorem me_ps {f : DE} (hf : ME f) : ∀ g : DE, some f = some g → ME g := fun _ h => by cases h; exact hf
theorem me_chain {o o' : PyData → PyData → Option PyData} {f g k : DE} (hf : ME f) (hg : ME g) (hk : ME k) : ME (dChain o o' f g k) := fun ρ ρ' d h e => by
  obtain ⟨x, h1, e⟩ := bind_some e
  obtain ⟨y, h2, e⟩ := bind_some e
  obtain ⟨z, h3, e⟩ := bind_some e
  simp only [dChain, hf _ _ _ h h1, hg _ _ _ h h2, h3, Option.bind_some]
  split at e
  · obtain ⟨w, h4, e⟩ := bind_some e
    simp only [hk _ _ _ h h4, Option.bind_some]
    exact e
  · exact e
  · cases e
theorem own_le {i : Nat} {ρ ρ' : List Sl} {xs : List PyData} (h : Le ρ ρ') (e : ownAt i ρ = some xs) : ownAt i ρ' = some xs := by
  rcases h.2 i _ (ownAt_some e) with z | z
  · cases z
  · unfold ownAt; rw [z]
theorem me_ownIx {i : Nat} {g : DE} (hg : ME g) : ME (dOwnIx i g) := fun ρ ρ' d h e => by
  obtain ⟨x, h1, e⟩ := bind_some e
  obtain ⟨y, h2, e⟩ := bind_some e
  simp only [dOwnIx, own_le h h1, hg _ _ _ h h2, Option.bind_some]
  exact e
theorem me_ownLen {i : Nat} : ME (dOwnLen i) := fun ρ ρ' d h e => by
  obtain ⟨x, h1, e⟩ := map_some e
  simp only [dOwnLen, own_le h h1, Option.map_some, e]
/-- targets -/
theorem mg_n {W : List Nat} {i : Nat} (hi : i ∈ W) : MG W (gN i) := fun d ρ ρ' ρ1 h e => by
  cases e
  exact ⟨_, rfl, h.set i _, Fr.set hi⟩
theorem mgs_nil {W : List Nat} : MGs W gsNil := fun d ρ ρ' ρ1 h e => by
  cases d with
  | nil => cases e; exact ⟨_, rfl, h, .refl⟩
  | cons _ _ => cases e
theorem mgs_cons {W : List Nat} {g : DG} {r : DGs} (hg : MG W g) (hr : MGs W r) : MGs W (gsCons g r) := fun d ρ ρ' ρ1 h e => by
  cases d with
  | nil => cases e
  | cons d ds =>
    obtain ⟨x, h1, e⟩ := bind_some (x := g d ρ) e
    obtain ⟨y, h2, l2, f2⟩ := hg _ _ _ _ h h1
    obtain ⟨z, h3, l3, f3⟩ := hr _ _ _ _ l2 e
    exact ⟨z, by simp only [gsCons, h2, Option.bind_some]; exact h3, l3, f2.trans f3⟩
theorem mg_t {W : List Nat} {n : Nat} {r : DGs} (hr : MGs W r) : MG W (gT n r) := fun d ρ ρ' ρ1 h e => by
  cases d with
  | tuple ds =>
    simp only [gT] at e ⊢
    by_cases q : ds.length = n
    · rw [if_pos q] at e ⊢
      exact hr _ _ _ _ h e
    · rw [if_neg q] at e; cases e
  | _ => cases e
theorem lcGo_me {W : List Nat} {g : DG} {t : DB} {f : DE} (hg : MG W g) (ht : ME t) (hf : ME f) {ρ ρ' : List Sl} (h : Le ρ ρ') : ∀ (ds ys : List PyData), lcGo g t f ρ ds = some ys → lcGo g t f ρ' ds = some ys
  | [], ys, e => e
  | d :: ds, ys, e => by
    unfold lcGo at e ⊢
    obtain ⟨x, h1, e⟩ := bind_some e
    obtain ⟨b, h2, e⟩ := bind_some e
    obtain ⟨x', h3, l3, _⟩ := hg _ _ _ _ h h1
    simp only [h3, ht _ _ _ l3 h2, Option.bind_some]
    cases b with
    | true =>
      simp only [if_true] at e ⊢
      obtain ⟨y, h4, e⟩ := bind_some e
      obtain ⟨zs, h5, e⟩ := map_some e
      simp only [hf _ _ _ l3 h4, lcGo_me hg ht hf h ds zs h5, Option.bind_some, Option.map_some, e]
    | false =>
      simp only [Bool.false_eq_true, if_false] at e ⊢
      exact lcGo_me hg ht hf h ds ys e
theorem me_lc {W : List Nat} {it : DA} {g : DG} {t : DB} {f : DE} {vs : List Nat} (hi : ME it) (hg : MG W g) (ht : ME t) (hf : ME f) : ME (nLc it g t f vs) := fun ρ ρ' d h e => by
  obtain ⟨ds, h1, e⟩ := bind_some e
  simp only [nLc, hi _ _ _ h h1, Option.bind_some]
  by_cases q : ds.length ≤ 90000
  · rw [if_pos q] at e ⊢
    exact lcGo_me hg ht hf (h.wipe vs) ds d e
  · rw [if_neg q] at e; cases e
variable {W : List Nat}
theorem sf_no : SF W sNo := fun _ _ _ _ e => by cases e
theorem sf_skip : SF W sSkip := fun ρ ρ' r h e => by
  cases e
  exact ⟨_, rfl, h, .refl⟩
theorem FlLe.mono {ρ ρ1 : List Sl} {r r' : Fl} (f : Fr W ρ ρ1) (h : FlLe W ρ1 r r') : FlLe W ρ r r' := by
  cases r <;> cases r' <;> first | exact h | exact ⟨h.1, f.trans h.2⟩
theorem sf_seq {F G : DS} (hF : SF W F) (hG : SF W G) : SF W (sSeq F G) := fun ρ ρ' r h e => by
  obtain ⟨x, h1, e⟩ := bind_some e
  obtain ⟨x', h2, l2⟩ := hF _ _ _ h h1
  cases x with
  | nx a =>
    cases x' with
    | nx b =>
      obtain ⟨r', h3, l3⟩ := hG _ _ _ l2.1 e
      exact ⟨r', by simp only [sSeq, h2, Option.bind_some]; exact h3, l3.mono l2.2⟩
    | _ => exact l2.elim
  | rt a => cases e; exact ⟨x', by cases x' <;> first | exact l2.elim | (simp only [sSeq, h2, Option.bind_some]), l2⟩
  | bk a => cases e; exact ⟨x', by cases x' <;> first | exact l2.elim | (simp only [sSeq, h2, Option.bind_some]), l2⟩
  | ct a => cases e; exact ⟨x', by cases x' <;> first | exact l2.elim | (simp only [sSeq, h2, Option.bind_some]), l2⟩
  | ro a b => cases x' <;> exact l2.elim
theorem sf_expr {f : DE} (hf : ME f) : SF W (sExpr f) := fun ρ ρ' r h e => by
  obtain ⟨x, h1, e⟩ := map_some e
  subst e
  exact ⟨.nx ρ', by simp only [sExpr, hf _ _ _ h h1, Option.map_some], h, .refl⟩
theorem sf_ret {f : DE} (hf : ME f) : SF W (sRet f) := fun ρ ρ' r h e => by
  obtain ⟨x, h1, e⟩ := map_some e
  subst e
  exact ⟨.rt x, by simp only [sRet, hf _ _ _ h h1, Option.map_some], rfl⟩
theorem sf_if {t : DB} {F G : DS} (ht : ME t) (hF : SF W F) (hG : SF W G) : SF W (sIf t F G) := fun ρ ρ' r h e => by
  obtain ⟨x, h1, e⟩ := bind_some e
  simp only [sIf, ht _ _ _ h h1, Option.bind_some]
  cases x with
  | true => exact hF _ _ _ h e
  | false => exact hG _ _ _ h e
theorem sf_set {i : Nat} {f : DE} (hi : i ∈ W) (hf : ME f) : SF W (sSet i f) := fun ρ ρ' r h e => by
  obtain ⟨x, h1, e⟩ := map_some e
  subst e
  exact ⟨.nx (ρ'.set i (.d x)), by simp only [sSet, hf _ _ _ h h1, Option.map_some], h.set i _, Fr.set hi⟩
theorem sf_own {i : Nat} {f : DA} (hi : i ∈ W) (hf : ME f) : SF W (sOwn i f) := fun ρ ρ' r h e => by
  obtain ⟨x, h1, e⟩ := map_some e
  subst e
  exact ⟨.nx (ρ'.set i (.own x)), by simp only [sOwn, hf _ _ _ h h1, Option.map_some], h.set i _, Fr.set hi⟩
theorem sf_app {i : Nat} {f : DE} (hi : i ∈ W) (hf : ME f) : SF W (sApp i f) := fun ρ ρ' r h e => by
  obtain ⟨x, h1, e⟩ := bind_some e
  obtain ⟨y, h2, e⟩ := bind_some e
  by_cases q : x.length < 100000
  · rw [if_pos q] at e
    cases e
    exact ⟨.nx (ρ'.set i (.own (x ++ [y]))), by simp only [sApp, own_le h h1, hf _ _ _ h h2, Option.bind_some]; rw [if_pos q], h.set i _, Fr.set hi⟩
  · rw [if_neg q] at e; cases e
theorem sf_ext {i : Nat} {f : DE} (hi : i ∈ W) (hf : ME f) : SF W (sExt i f) := fun ρ ρ' r h e => by
  obtain ⟨x, h1, e⟩ := bind_some e
  obtain ⟨y, h2, e⟩ := bind_some e
  cases y with
  | list ds =>
    simp only at e
    by_cases q : x.length + ds.length ≤ 100000
    · rw [if_pos q] at e
      cases e
      exact ⟨.nx (ρ'.set i (.own (x ++ ds))), by simp only [sExt, own_le h h1, hf _ _ _ h h2, Option.bind_some]; rw [if_pos q], h.set i _, Fr.set hi⟩
    · rw [if_neg q] at e; cases e
  | _ => cases e
theorem sf_setIx {i : Nat} {g f : DE} (hi : i ∈ W) (hg : ME g) (hf : ME f) : SF W (sSetIx i g f) := fun ρ ρ' r h e => by
  obtain ⟨x, h1, e⟩ := bind_some e
  obtain ⟨y, h2, e⟩ := bind_some e
  obtain ⟨z, h3, e⟩ := bind_some e
  cases z with
  | int k =>
    obtain ⟨j, h4, e⟩ := map_some e
    subst e
    exact ⟨.nx (ρ'.set i (.own (y.set j x))), by simp only [sSetIx, own_le h h2, hf _ _ _ h h1, hg _ _ _ h h3, Option.bind_some, h4, Option.map_some], h.set i _, Fr.set hi⟩
  | _ => cases e
theorem sf_fr {i : Nat} {F : DS} (hi : i ∈ W) (hF : SF W F) : SF W (sFr i F) := fun ρ ρ' r h e => by
  unfold sFr at e ⊢
  have l : Le (freeze i ρ) (freeze i ρ') ∧ Fr W ρ' (freeze i ρ') ∨ ρ[i]? = some .un ∨ ρ[i]? = none := by
    cases q : ρ[i]? with
    | none => exact .inr (.inr rfl)
    | some s =>
      cases s with
      | un => exact .inr (.inl rfl)
      | d x =>
        rcases h.2 i _ q with z | z
        · cases z
        · refine .inl ?_
          unfold freeze
          rw [q, z]
          exact ⟨h, .refl⟩
      | dk _ =>
        rcases h.2 i _ q with z | z
        · cases z
        · refine .inl ?_
          unfold freeze
          rw [q, z]
          exact ⟨h, .refl⟩
      | ob _ _ _ =>
        rcases h.2 i _ q with z | z
        · cases z
        · refine .inl ?_
          unfold freeze
          rw [q, z]
          exact ⟨h, .refl⟩
      | owa _ =>
        rcases h.2 i _ q with z | z
        · cases z
        · refine .inl ?_
          unfold freeze
          rw [q, z]
          exact ⟨h, .refl⟩
      | pin =>
        rcases h.2 i _ q with z | z
        · cases z
        · refine .inl ?_
          unfold freeze
          rw [q, z]
          exact ⟨h, .refl⟩
      | own xs =>
        rcases h.2 i _ q with z | z
        · cases z
        · refine .inl ?_
          unfold freeze
          rw [q, z]
          exact ⟨h.set i _, Fr.set hi⟩
  have un : ∀ s : Sl, freeze i ρ = ρ → Le ρ (freeze i ρ') ∨ True := fun _ _ => .inr trivial
  rcases l with ⟨l, f⟩ | q
  · obtain ⟨r', h1, l1⟩ := hF _ _ _ l e
    exact ⟨r', h1, l1.mono f⟩
  · have e0 : freeze i ρ = ρ := by
      unfold freeze
      rcases q with q | q <;> rw [q]
    rw [e0] at e
    have l : Le ρ (freeze i ρ') ∧ Fr W ρ' (freeze i ρ') := by
      unfold freeze
      split
      · rename_i xs z
        refine ⟨⟨by simp [h.1], fun j s es => ?_⟩, Fr.set hi⟩
        by_cases w : i = j
        · subst w
          rcases q with q | q
          · rw [q] at es; cases es; exact .inl rfl
          · rw [q] at es; cases es
        · rw [List.getElem?_set_ne w]
          exact h.2 j s es
      · exact ⟨h, .refl⟩
    obtain ⟨r', h1, l1⟩ := hF _ _ _ l.1 e
    exact ⟨r', h1, l1.mono l.2⟩
theorem me_mnil : ME mNil := fun _ _ _ _ e => e
theorem me_md {f : DE} {r : DM} (hf : ME f) (hr : ME r) : ME (mD f r) := fun ρ ρ' d h e => by
  obtain ⟨x, h1, e⟩ := bind_some e
  obtain ⟨y, h2, e⟩ := map_some e
  simp only [mD, hf _ _ _ h h1, hr _ _ _ h h2, Option.bind_some, Option.map_some, e]
theorem me_mown {f : DA} {r : DM} (hf : ME f) (hr : ME r) : ME (mOwn f r) := fun ρ ρ' d h e => by
  obtain ⟨x, h1, e⟩ := bind_some e
  obtain ⟨y, h2, e⟩ := map_some e
  simp only [mOwn, hf _ _ _ h h1, hr _ _ _ h h2, Option.bind_some, Option.map_some, e]
theorem sets_le : ∀ {is : List Nat} {ss : List Sl} {ρ ρ' : List Sl}, (∀ i ∈ is, i ∈ W) → Le ρ ρ' → Le (setsD is ss ρ) (setsD is ss ρ') ∧ Fr W ρ' (setsD is ss ρ')
  | [], _, _, _, _, h => by simp only [setsD]; exact ⟨h, .refl⟩
  | _ :: _, [], _, _, _, h => by simp only [setsD]; exact ⟨h, .refl⟩
  | i :: is, s :: ss, ρ, ρ', hi, h => by
    simp only [setsD]
    obtain ⟨l, f⟩ := sets_le (is := is) (ss := ss) (fun j hj => hi j (List.mem_cons_of_mem _ hj)) (h.set i s)
    exact ⟨l, (Fr.set (hi i List.mem_cons_self)).trans f⟩
theorem sf_multi {is : List Nat} {f : DM} (hi : ∀ i ∈ is, i ∈ W) (hf : ME f) : SF W (sMulti is f) := fun ρ ρ' r h e => by
  obtain ⟨ss, h1, h2, rfl⟩ := sMulti_some e
  obtain ⟨l, fr⟩ := sets_le (W := W) (is := is) (ss := ss) hi h
  exact ⟨.nx (setsD is ss ρ'), by simp only [sMulti, hf _ _ _ h h1, Option.bind_some]; rw [if_pos h2], l, fr⟩
theorem sf_asg {f : DE} {g : DG} (hf : ME f) (hg : MG W g) : SF W (sAsg f g) := fun ρ ρ' r h e => by
  obtain ⟨x, h1, e⟩ := bind_some e
  obtain ⟨y, h2, e⟩ := map_some e
  subst e
  obtain ⟨y', h3, l3, f3⟩ := hg _ _ _ _ h h2
  exact ⟨.nx y', by simp only [sAsg, hf _ _ _ h h1, Option.bind_some, h3, Option.map_some], l3, f3⟩
theorem forGo_sf {g : DG} {F : DS} (hg : MG W g) (hF : SF W F) : ∀ (ds : List PyData), SF W (forGo g F ds)
  | [], ρ, ρ', r, h, e => by
    cases e
    exact ⟨_, rfl, h, .refl⟩
  | d :: ds, ρ, ρ', r, h, e => by
    unfold forGo at e
    obtain ⟨x, h1, e⟩ := bind_some e
    obtain ⟨y, h2, e⟩ := bind_some e
    obtain ⟨x', h3, l3, f3⟩ := hg _ _ _ _ h h1
    obtain ⟨y', h4, l4⟩ := hF _ _ _ l3 h2
    unfold forGo
    rw [h3]
    simp only [Option.bind_some]
    rw [h4]
    simp only [Option.bind_some]
    cases y with
    | nx a =>
      cases y' with
      | nx b =>
        obtain ⟨r', h5, l5⟩ := forGo_sf hg hF ds _ _ _ l4.1 e
        exact ⟨r', h5, l5.mono (f3.trans l4.2)⟩
      | _ => exact l4.elim
    | ct a =>
      cases y' with
      | ct b =>
        obtain ⟨r', h5, l5⟩ := forGo_sf hg hF ds _ _ _ l4.1 e
        exact ⟨r', h5, l5.mono (f3.trans l4.2)⟩
      | _ => exact l4.elim
    | bk a =>
      cases y' with
      | bk b =>
        cases e
        exact ⟨_, rfl, l4.1, f3.trans l4.2⟩
      | _ => exact l4.elim
    | rt a =>
      cases y' with
      | rt b =>
        cases e
        exact ⟨_, rfl, l4⟩
      | _ => exact l4.elim
    | ro a b => cases y' <;> exact l4.elim
theorem sf_for {it : DA} {g : DG} {F : DS} (hi : ME it) (hg : MG W g) (hF : SF W F) : SF W (sFor it g F) := fun ρ ρ' r h e => by
  obtain ⟨ds, h1, e⟩ := bind_some e
  simp only [sFor, hi _ _ _ h h1, Option.bind_some]
  exact forGo_sf hg hF ds _ _ _ h e
theorem whileGo_sf {t : DB} {F : DS} (ht : ME t) (hF : SF W F) : ∀ (n : Nat), SF W (whileGo t F n)
  | 0, _, _, _, _, e => by cases e
  | n + 1, ρ, ρ', r, h, e => by
    unfold whileGo at e
    obtain ⟨x, h1, e⟩ := bind_some e
    unfold whileGo
    rw [ht _ _ _ h h1]
    simp only [Option.bind_some]
    cases x with
    | false =>
      simp only [Bool.false_eq_true, if_false] at e ⊢
      cases e
      exact ⟨_, rfl, h, .refl⟩
    | true =>
      simp only [if_true] at e ⊢
      obtain ⟨y, h2, e⟩ := bind_some e
      obtain ⟨y', h4, l4⟩ := hF _ _ _ h h2
      rw [h4]
      simp only [Option.bind_some]
      cases y with
      | nx a =>
        cases y' with
        | nx b =>
          obtain ⟨r', h5, l5⟩ := whileGo_sf ht hF n _ _ _ l4.1 e
          exact ⟨r', h5, l5.mono l4.2⟩
        | _ => exact l4.elim
      | ct a =>
        cases y' with
        | ct b =>
          obtain ⟨r', h5, l5⟩ := whileGo_sf ht hF n _ _ _ l4.1 e
          exact ⟨r', h5, l5.mono l4.2⟩
        | _ => exact l4.elim
      | bk a =>
        cases y' with
        | bk b =>
          cases e
          exact ⟨_, rfl, l4.1, l4.2⟩
        | _ => exact l4.elim
      | rt a =>
        cases y' with
        | rt b =>
          cases e
          exact ⟨_, rfl, l4⟩
        | _ => exact l4.elim
      | ro a b => cases y' <;> exact l4.elim
theorem sf_while {n : Nat} {t : DB} {F : DS} (ht : ME t) (hF : SF W F) : SF W (sWhile n t F) := whileGo_sf ht hF n
/-- used: a closed run gives a run of every state that holds as much -/
def isNx : Option Fl → Bool
  | some (.nx _) => true
  | _ => false
theorem sf_nx {F : DS} (h : SF W F) {ρ ρ' : List Sl} (l : Le ρ ρ') (e : isNx (F ρ) = true) : ∃ ρ1, F ρ' = some (.nx ρ1) ∧ Fr W ρ' ρ1 := by
  cases q : F ρ with
  | none => rw [q] at e; cases e
  | some r =>
    rw [q] at e
    cases r with
    | nx a =>
      obtain ⟨r', h1, l1⟩ := h _ _ _ l q
      cases r' with
      | nx b => exact ⟨b, h1, l1.2⟩
      | _ => exact l1.elim
    | _ => cases e
def isNxL (n : Nat) : Option Fl → Bool
  | some (.nx ρ) => ρ.length == n
  | _ => false
theorem sf_nxL {F : DS} (h : SF W F) {ρ ρ' : List Sl} {n : Nat} (l : Le ρ ρ') (e : isNxL n (F ρ) = true) : ∃ ρ1, F ρ' = some (.nx ρ1) ∧ Fr W ρ' ρ1 ∧ ρ1.length = n := by
  cases q : F ρ with
  | none => rw [q] at e; cases e
  | some r =>
    rw [q] at e
    cases r with
    | nx a =>
      obtain ⟨r', h1, l1⟩ := h _ _ _ l q
      cases r' with
      | nx b => exact ⟨b, h1, l1.2, by rw [← l1.1.1]; exact eq_of_beq e⟩
      | _ => exact l1.elim
    | _ => cases e
/-- what is known of some slots -/
def leB (n : Nat) : List (Nat × Sl) → List Sl
  | [] => List.replicate n .un
  | (i, s) :: r => (leB n r).set i s
theorem le_leB {n : Nat} {ρ : List Sl} (hl : ρ.length = n) : ∀ {ks : List (Nat × Sl)}, (∀ p ∈ ks, ρ[p.1]? = some p.2) → Le (leB n ks) ρ
  | [], _ => ⟨by simp [leB, hl], fun i s h => by
      unfold leB at h
      rw [List.getElem?_replicate] at h
      split at h <;> cases h
      exact .inl rfl⟩
  | (i, s) :: r, h => by
    have ih := le_leB hl (ks := r) fun p hp => h p (List.mem_cons_of_mem _ hp)
    have hi := h (i, s) List.mem_cons_self
    refine ⟨by simp [leB, ih.1], fun j t e => ?_⟩
    rcases get_set e with ⟨rfl, _, rfl⟩ | ⟨_, e⟩
    · exact .inr hi
    · exact ih.2 j t e
end DL

namespace DL
open PySem PySem.Spec PyProof.Rows L2
/-! ### enumerate(text) -/
def Ies (x : Str) : It :=
  ⟨fun i _ => i < x.cps.size, fun i H v H' => ∃ T c, v = .ref T ∧ H T = none ∧ H' = upd H T (.tup [.int (i : Nat), .str ⟨#[c]⟩]) ∧ x.cps[i]? = some c, fun i _ => i = x.cps.size⟩
theorem draws_str {prog : Program} {w : World} {A : Around} (hh : A.handled = none) (it : Addr) (x : Str) (t : Tok) :
    Draws prog w A it [it] x.cps.size (fun i v => ∃ c u, x.cps[i]? = some c ∧ v = .str ⟨#[c]⟩ u) (fun i h => h.IsStrIter it (strIterType x) x t i) := by
  unfold strIterType
  split
  · exact Draws.strAscii hh it x t
  · exact Draws.strWide hh it x t
theorem turn_enumS {P : Program} {w : World} {K : PySem.W.Frag} {elts : List Expr} {kk : Nat} {tpos : Pos} (x : Str) (t : Tok) (e it : Addr) :
    Turn P w K (.Tuple elts kk tpos) (Ies x) [e, it] e (fun i h => (∃ old, IsEnum h e it ((i : Nat) : Int) old) ∧ h.IsStrIter it (strIterType x) x t i ∧ e ≠ it) where
  mem := by simp
  obj := fun i h st b hb => by
    obtain ⟨⟨old, he⟩, ⟨o, ho, hc, hd⟩, _⟩ := st
    have e' : b = e ∨ b = it := by simpa using hb
    rcases e' with z | z
    · rw [z]; exact ⟨_, he, fun v q => nomatch q⟩
    · rw [z]; exact ⟨o, ho, fun v q => by rw [hd] at q; cases q⟩
  keep := fun i h h' st k => let ⟨⟨old, he⟩, ⟨o, ho, r⟩, hne⟩ := st; ⟨⟨old, k e (by simp) _ he⟩, ⟨o, k it (by simp) o ho, r⟩, hne⟩
  item := by
    intro X hP hw hK hc i pins s σ H E I hf st hg
    subst hP hw hK
    obtain ⟨⟨old, he⟩, hit, hne⟩ := st
    have hel : e < s.heap.objs.size := Heap.lt_size he
    have hil : it < s.heap.objs.size := by obtain ⟨_, q, _⟩ := hit; exact Heap.lt_size q
    refine wpAny_pyNext_enum_itemD (draws_str (A := X.A.in1) (I.ok.hd hc) it x t) he hit hg hne (by simpa using hne) fun u h' tk hu ho hit' hT hsz hk => ?_
    obtain ⟨c, tc, hcx, rfl⟩ := hu
    refine ⟨_, rfl, wpAny_letOwnedTupleGo_enum (s := { s with heap := h', toks := tk + 1 }) ho fun h'' he' sb => ?_⟩
    have hT2 : h''.get? s.heap.objs.size = some { cls := .type "tuple", data := .seq #[.int i tk, .str ⟨#[c]⟩ tc] } := (sb.2 _ (Nat.ne_of_gt hel)).trans hT
    have new : ObjOk X.prog X.w (upd H s.heap.objs.size (.tup [.int (i : Nat), .str ⟨#[c]⟩])) h'' s.heap.objs.size (.tup [.int (i : Nat), .str ⟨#[c]⟩]) :=
      ⟨by show 2 ≤ sizeLine; decide, [.int i tk, .str ⟨#[c]⟩ tc], .cons ⟨_, rfl⟩ (.cons ⟨_, rfl⟩ .nil), ⟨_, hT2, rfl, _, rfl⟩⟩
    have I1 : Inv X pins σ (upd H s.heap.objs.size (.tup [.int (i : Nat), .str ⟨#[c]⟩])) { s with heap := h'', toks := tk + 1 } :=
      I.turnedNew (ch := [e, it]) (fun b ob hb q => (sb.2 b (fun z => hb (by simp [z]))).trans (hk b ob (fun z => hb (by simp [z])) (fun z => hb (by simp [z])) q)) hf (Nat.le_refl _) new
    refine ⟨.ref s.heap.objs.size, _, I1, rfl, ⟨_, c, rfl, I.hok.fresh (Nat.le_refl _), rfl, hcx⟩, ⟨⟨.str ⟨#[c]⟩ tc, ?_⟩, ?_, hne⟩, fun b hb => ?_⟩
    · have e1 : ((i + 1 : Nat) : Int) = (i : Int) + 1 := by omega
      rw [e1]; exact he'
    · obtain ⟨o, q, r⟩ := hit'
      exact ⟨o, (sb.2 it (Ne.symm hne)).trans q, r⟩
    · have hb' : b < s.heap.objs.size := by
        have e' : b = e ∨ b = it := by simpa using hb
        rcases e' with z | z
        · rw [z]; exact hel
        · rw [z]; exact hil
      rw [upd_ne (Nat.ne_of_lt hb')]
      exact (hf b hb).1
  done := by
    intro X hP hw hK hc i pins s σ H E I hf st hg
    subst hP hw hK
    obtain ⟨⟨old, he⟩, hit, hne⟩ := st
    obtain ⟨f0, f1, f2, f3, f4, f5⟩ := hf it (by simp)
    have hg : i = x.cps.size := hg
    subst hg
    exact wpAny_pyNext_enum_endD (draws_str (A := X.A.in1) (I.ok.hd hc) it x t) he hit fun h' eb => ⟨rfl, I.turned (t' := s.toks) (fun b o hb q => eb b o hb q) f0 f1 f3 f4 f5⟩
  self := fun A i s Q E st h => let ⟨⟨_, he⟩, _⟩ := st; wpAny_pyIter_enum he h
def iEnumS (ta : TA) : TI := fun σ H R => ta σ H fun vs H1 => ∃ x, vs = [.str x] ∧ R (Ies x) H1
section
variable {X : Cx} {e a b : Expr} {es : List Expr} {pos : Pos}
theorem pi_enumS {ta : TA} {p tpos : Pos} {elts : List Expr} {kk : Nat} (hg : Gl X "enumerate") (hm : X.mg "enumerate" = none) (ha : PA X [e] ta) (hs : starEach [e] X.env = [(false, eval e X.env)] := by rfl) :
    PI X (.Tuple elts kk tpos) (.Call (.Name "enumerate" p) [e] [] pos) (iEnumS ta) := by
  refine ⟨fun pins s σ H R I h => ?_⟩
  refine Call_ (ld_blt I hg hm boot_enumerate (PyProof.Rows.callWith_type1 (thn (ha.run pos pins s σ H _ I h) fun us s1 ⟨vs, H1, I1, r1, q1⟩ => ?_) hs rfl))
  obtain ⟨x, ex, q⟩ := q1
  subst ex
  cases r1 with
  | cons r rr =>
    cases rr
    obtain ⟨t, rfl⟩ := r
    refine call_enumerate_str fun h' he hit hsz hk => wpAny_pyIter_enum he ?_
    have I2 : Inv X pins σ H1 { s1 with heap := h' } := I1.kept (t' := s1.toks) hk
    refine ⟨s1.heap.objs.size + 1, [s1.heap.objs.size + 1, s1.heap.objs.size], _, _, H1, rfl, I2, turn_enumS x t (s1.heap.objs.size + 1) s1.heap.objs.size, ⟨⟨.none, he⟩, hit, Nat.succ_ne_self _⟩, fun b hb => ?_, q⟩
    have e' : b = s1.heap.objs.size + 1 ∨ b = s1.heap.objs.size := by simpa using hb
    have hle : s1.heap.objs.size ≤ b := by
      rcases e' with z | z
      · rw [z]; exact Nat.le_add_right _ _
      · rw [z]; exact Nat.le_refl _
    exact I1.fpOk hle (I1.hok.fresh hle)
/-- enumerate(a list or a text), in pairs -/
def enumD : Nat → List PyData → List PyData
  | _, [] => []
  | i, d :: ds => .tuple [.int (i : Nat), d] :: enumD (i + 1) ds
theorem enumD_get : ∀ (ds : List PyData) (k i : Nat), (enumD k ds)[i]? = ds[i]?.map fun d => .tuple [.int ((k + i : Nat) : Int), d]
  | [], _, _ => by simp [enumD]
  | d :: ds, k, 0 => by simp [enumD]
  | d :: ds, k, i + 1 => by
    rw [enumD, List.getElem?_cons_succ, List.getElem?_cons_succ, enumD_get ds (k + 1) i]
    congr 1
    funext x
    congr 3
    omega
theorem enumD_len : ∀ (ds : List PyData) (k : Nat), (enumD k ds).length = ds.length
  | [], _ => rfl
  | _ :: ds, k => by simp [enumD, enumD_len ds (k + 1)]
def aEnum (f : DE) : DA := fun ρ => (f ρ).bind fun d => match d with
  | .list ds => some (enumD 0 ds)
  | .str z => some (enumD 0 (signs z))
  | _ => none
theorem walkD_enum {K : PySem.W.Frag} {V : Hp} {p : Addr} {xs : List L2.V} {ds : List PyData} (h : Rd V p (.lst xs)) (da : DqAll K V xs ds) : WalkD K V (Ite K p) (enumD 0 ds) :=
  ⟨fun i V1 H1 hi e1 e2 => ⟨xs, _, .inl (e2.rd (e1.rd h)), List.getElem?_eq_getElem (by rw [da_len da]; rwa [enumD_len] at hi)⟩, fun V1 H1 e1 e2 => ⟨xs, .inl (e2.rd (e1.rd h)), by rw [da_len da, enumD_len]; exact Nat.le_refl _⟩,
    fun i V1 H1 x H2 d hd e1 e2 y => by
      obtain ⟨T, v, rfl, nT, rfl, y⟩ := y
      rw [enumD_get] at hd
      obtain ⟨d', h1, rfl⟩ := map_some hd
      obtain ⟨v', h2, h3⟩ := da_get da h1
      have := y xs (.inl (e2.rd (e1.rd h)))
      rw [h2] at this
      cases this
      rw [Nat.zero_add]
      refine ⟨upd V1 T (.tup [.int (i : Nat), v]), Gr.laid e2 nT, .tup (.inl (.inl upd_same)) (.cons (.int _) (.cons (dp_mono (e1.trans (Ex.new (e2.back nT))) h3) .nil))⟩⟩
theorem walkD_enumS {K : PySem.W.Frag} {V : Hp} {z : Str} : WalkD K V (Ies z) (enumD 0 (signs z)) :=
  ⟨fun i V1 H1 hi _ _ => by rw [enumD_len, signs_len] at hi; exact hi, fun V1 H1 _ _ => by rw [enumD_len, signs_len]; rfl,
    fun i V1 H1 x H2 d hd e1 e2 y => by
      obtain ⟨T, c, rfl, nT, rfl, hc⟩ := y
      rw [enumD_get] at hd
      obtain ⟨d', h1, rfl⟩ := map_some hd
      unfold signs at h1
      rw [List.getElem?_map, Array.getElem?_toList, hc] at h1
      cases h1
      rw [Nat.zero_add]
      exact ⟨upd V1 T (.tup [.int (i : Nat), .str ⟨#[c]⟩]), Gr.laid e2 nT, .tup (.inl (.inl upd_same)) (.cons (.int _) (.cons (.str _) .nil))⟩⟩
theorem di_enum {f : DE} {p tpos : Pos} {elts : List Expr} {kk : Nat} (hg : Gl X "enumerate") (hm : X.mg "enumerate" = none) (he : PE X e (tD X.K f)) (hs : starEach [e] X.env = [(false, eval e X.env)] := by rfl) :
    PI X (.Tuple elts kk tpos) (.Call (.Name "enumerate" p) [e] [] pos) (iD X.K (aEnum f)) :=
  pi_w (pi_or2 (pi_enum hg hm (pa_cons he pa_nil hs) hs) (pi_enumS hg hm (pa_cons he pa_nil hs) hs)) fun σ H R ⟨BV, B, V, ρ, ds, E, hf, q⟩ => by
    obtain ⟨d, h1, hf⟩ := bind_some hf
    cases d with
    | list xs =>
      cases hf
      refine .inl ⟨BV, B, V, ρ, _, E, h1, fun v V' H' g dd => ?_⟩
      cases dd with
      | lst r1 d1 => exact ⟨_, _, rfl, .inl (g.sub.rd r1), q _ V' H' g (walkD_enum r1 d1)⟩
    | str z =>
      cases hf
      refine .inr ⟨BV, B, V, ρ, _, E, h1, fun v V' H' g dd => ?_⟩
      cases dd
      exact ⟨z, rfl, q _ V' H' g walkD_enumS⟩
    | _ => cases hf
theorem me_enum {f : DE} (hf : ME f) : ME (aEnum f) := fun ρ ρ' d h e => by
  obtain ⟨x, h1, e⟩ := bind_some e
  simp only [aEnum, hf _ _ _ h h1, Option.bind_some]
  exact e
end
end DL

namespace DL
open PySem PySem.Spec PyProof.Rows L2
/-! ### sorted(text) -/
section
variable {prog : Program} {w : World} {A : Around} {E : Value → Shared → Prop} {s : Shared}
/-- as wpAny_collect_str, and the heap has grown -/
theorem collect_text {Q : List Value → Shared → Prop} (hh : A.handled = none) (x : Str) (t : Tok) (hn : x.cps.size ≤ sizeLine)
    (hQ : ∀ s' acc, s.heap.objs.size < s'.heap.objs.size → (∀ b o, s.heap.get? b = some o → s'.heap.get? b = some o) → s'.gens = s.gens → s'.drawn = s.drawn → s'.os = s.os → ItemsOf (SignAt x) acc x.cps.size → Q acc.toList s') :
    wpAny (model prog w) A (collect (.str x t)) Q E s := by
  unfold collect
  refine wpAny_bind (wpAny_runValue (codeAny_builtin F.entry_proto_collect ?_))
  rw [Around.under_plainId F.plain_proto_collect _]
  show wpAny _ A.in1 (newList [] >>= fun l => again (.builtin "list.__iadd__" ⟨[l, .str x t], []⟩)) _ _ s
  refine wpAny_bind (wpAny_newObj_type ?_)
  refine wpAny_pure ⟨plainId_quiet F.plain_list_iadd _, codeAny_builtin F.entry_list_iadd ?_⟩
  rw [Around.under_plainId F.plain_list_iadd _]
  show wpAny _ A.in1 (Builtin.List.listExtendWith (.ref s.heap.objs.size) (.str x t) (.ref s.heap.objs.size)) _ _ _
  unfold Builtin.List.listExtendWith
  refine wpAny_bind (wpAny_typeOf (T := "str") (v := .str x t) rfl ?_)
  have k1 : Builtin.List.listSameRef (.ref s.heap.objs.size) (.str x t) = false := rfl
  have k2 : (Value.type "str" == Value.type "list") = false := by decide
  have k3 : (Value.type "str" == Value.type "tuple") = false := by decide
  simp only [k1, k2, k3, Bool.or_false, Bool.false_eq_true, if_false]
  refine wpAny_bind (wpAny_pyIter_str fun o St W hst => ?_)
  refine wpAny_bind (wpAny_holding ?_)
  unfold Builtin.List.listLengthHint
  refine wpAny_bind (wpAny_specialOf (T := "str") (v := .str x t) rfl F.str_len ?_)
  wp_delta
  refine wpAny_bind (wpAny_isInstance (T := "str") (v := .str x t) (b := true) rfl (by rw [isSubtype_type]; kernel_rfl) ?_)
  show wpAny _ A.in1 (typeOf (Value.str x t) >>= _) _ _ _
  refine wpAny_bind (wpAny_typeOf (T := "str") (v := .str x t) rfl ?_)
  refine wpAny_pure ?_
  rw [if_neg (by decide)]
  generalize hH : s.heap.push { cls := .type "list", data := .seq ([] : List Value).toArray } = H at W hst ⊢
  have hHs : H.objs.size = s.heap.objs.size + 1 := by rw [← hH, Heap.size_push]
  have hSf : s.heap.objs.size ∉ [H.objs.size] := fun hm => by rw [List.mem_singleton.mp hm] at hHs; omega
  have hS : (H.push o).get? s.heap.objs.size = some { cls := .type "list", data := .seq ([] : List Value).toArray } := Heap.get?_push_of_some _ (hH ▸ Heap.get?_push_size _ rfl)
  refine wpAny_pure ⟨plainId_quiet F.plain_extend_loop _, codeAny_extend_loopS (W A.in1 hh).toS hn _ hSf _ x.cps.size 0 _ _ _ rfl (Nat.zero_le _) hst hS (ItemsOf.nil _) fun s' acc' c' hm hS' hacc => ?_⟩
  show wpAny _ A (load s.heap.objs.size >>= _) _ _ s'
  refine wpAny_bind (wpAny_load hS' ?_)
  refine wpAny_pure (hQ s' acc' (Heap.lt_size hS') (fun b ob e => hm.heap b ob (fun hb => ?_) (Heap.get?_push_of_some _ (hH ▸ Heap.get?_push_of_some _ e))) hm.gens hm.drawn hm.os hacc)
  have hlt := Heap.lt_size e
  rcases List.mem_cons.mp hb with h | h
  · exact absurd hlt (h ▸ Nat.lt_irrefl _)
  · have z := List.mem_singleton.mp h
    rw [z, hHs] at hlt
    exact absurd hlt (Nat.not_lt.mpr (Nat.le_succ s.heap.objs.size))
theorem each_signs {R : Value → PyData → Prop} (f : ∀ c u, R (.str ⟨#[c]⟩ u) (.str ⟨#[c]⟩)) : ∀ (vs : List Value) (cs : List Nat), vs.length = cs.length → (∀ (j : Nat) v c, vs[j]? = some v → cs[j]? = some c → ∃ u, v = .str ⟨#[c]⟩ u) → W.EachIs R vs (cs.map fun c => .str ⟨#[c]⟩)
  | [], [], _, _ => .nil
  | v :: vs, c :: cs, hl, h => by
    obtain ⟨u, rfl⟩ := h 0 v c rfl rfl
    exact .cons (f c u) (each_signs f vs cs (by simpa using hl) fun j v c h1 h2 => h (j + 1) v c (by simpa using h1) (by simpa using h2))
  | [], _ :: _, h, _ => by simp at h
  | _ :: _, [], h, _ => by simp at h
theorem sorted_text {x : Str} {t : Tok} {R : Value → PyData → Prop} {Q : Value → Shared → Prop} (hh : A.handled = none) (hn : x.cps.size ≤ 100000) (hu : A.units + 64 < cLine) (f : ∀ c u, R (.str ⟨#[c]⟩ u) (.str ⟨#[c]⟩))
    (h : ∀ (h' : Heap) (tk : Tok) (p : Addr) (out : List Value) (n : Nat), s.heap.objs.size ≤ p → (∀ b o, s.heap.get? b = some o → h'.get? b = some o) → h'.get? p = some { cls := .type "list", data := .seq out.toArray n } → out.length = x.cps.size → W.EachIs R out (isortD (signs x)) → Q (.ref p) { s with heap := h', toks := tk }) :
    wpAny (model prog w) A (call (.builtin "sorted") [.str x t]) Q E s := by
  refine call_function_entry_kw kind_sorted plain_sorted entry_sorted (args_sorted1 _) ?_
  unfold Builtin.«sorted»
  refine wpAny_bind (m := checkCount "sorted" 1 1 _) (wpAny_pure ?_)
  refine wpAny_bind (collect_text (A := A.in1) hh x t (line_of hn) fun s' acc hgr hk hg hd ho hi => ?_)
  obtain ⟨hs, hi⟩ := hi
  have hlen : acc.toList.length = x.cps.size := by rw [Array.length_toList]; exact hs
  refine wpAny_bind (wpAny_newList ?_ (by rw [hlen]; exact line_of hn))
  have hat : (s'.heap.push { cls := .type "list", data := .seq acc.toList.toArray }).get? s'.heap.objs.size = some (seqObj "list" acc.toList.toArray 0) := Heap.get?_push_size _ rfl
  have hsg : ∀ (j : Nat) v c, acc.toList[j]? = some v → x.cps.toList[j]? = some c → ∃ u, v = .str ⟨#[c]⟩ u := fun j v c h1 h2 => by
    obtain ⟨c', u, e1, e2⟩ := hi j v (by rw [← Array.getElem?_toList]; exact h1)
    rw [← Array.getElem?_toList, h2] at e1
    cases e1
    exact ⟨u, e2⟩
  have e : W.EachIs R acc.toList (signs x) := each_signs f acc.toList x.cps.toList (by rw [hlen, Array.length_toList]) hsg
  have er : W.EachIs (fun v d => ∃ as, Reads (s'.heap.push { cls := .type "list", data := .seq acc.toList.toArray }) v (id d) as ∧ s'.heap.objs.size ∉ as) acc.toList (signs x) :=
    each_signs (fun c u => ⟨[], .str _ _, by simp⟩) acc.toList x.cps.toList (by rw [hlen, Array.length_toList]) hsg
  have hstr : ∀ d ∈ signs x, ∃ c, d = .str ⟨#[c]⟩ := fun d hd => by
    unfold signs at hd
    obtain ⟨c, _, rfl⟩ := List.mem_map.mp hd
    exact ⟨c, rfl⟩
  refine wpAny_bind (wpAny_holding (W.list_sort_data (enc := id) (bs := signs x) (R := R) hat e er ?_ ?_ ?_ ?_ fun out hol hout => ?_))
  · intro d hd d' hd'
    rw [List.map_id] at hd hd'
    obtain ⟨c, rfl⟩ := hstr d hd
    obtain ⟨c', rfl⟩ := hstr d' hd'
    rfl
  · refine .inr fun d hd => ?_
    rw [List.map_id] at hd
    obtain ⟨c, rfl⟩ := hstr d hd
    refine ⟨?_, ?_⟩
    · intro z; cases z
    · intro xs z; cases z
  · rw [signs_len]; exact line_of hn
  · intro d hd
    obtain ⟨c, rfl⟩ := hstr d hd
    show A.units + 1 + 1 + 0 < cLine
    omega
  · rw [show (signs x).mergeSort (W.dataLe false id) = isortD (signs x) from (isortD_is _).symm] at hout
    obtain ⟨ep, hp⟩ := sortedHeap_at (vs := acc.toList) (out := out.toArray) hat
    obtain ⟨sh, sg, sd, st, so⟩ := s'
    simp only at hg hd ho
    subst hg hd ho
    have hle : s.heap.objs.size ≤ sh.objs.size := Nat.le_of_lt hgr
    refine wpAny_pure ⟨_, rfl, h _ _ _ out ep hle (fun b o q => ?_) hp (by rw [hol, signs_len]) hout⟩
    have q1 := hk b o q
    have hb : b < sh.objs.size := Heap.lt_size q1
    rw [sortedHeap_old (Nat.ne_of_lt hb) (by rw [size_push']; exact Nat.lt_succ_of_lt hb)]
    exact Heap.get?_push_of_some _ q1
end
def sortA : List PyData → Option PyData
  | [.str z] => if z.cps.size ≤ 100000 then some (.list (isortD (signs z))) else none
  | xs => sortP xs
def rSortTx (K : PySem.W.Frag) : List V → Hp → VK → Prop := fun xs H Q => ∃ z : Str, xs = [.str z] ∧ z.cps.size ≤ 100000 ∧ ∀ V, Ex V H → ∀ p ys, H p = none → DqAll K V ys (isortD (signs z)) → Q (.ref p) (upd H p (.lst ys))
section
variable {X : Cx}
theorem cr_sortTx (hc : X.calm = true) (hu : X.A.units + 64 < cLine) : CallR X (.builtin "sorted") (rSortTx X.K) := by
  intro pins s σ H xs us Q I r h
  obtain ⟨z, rfl, hz, q⟩ := h
  cases r with
  | cons r rr =>
    cases rr
    obtain ⟨t, rfl⟩ := r
    refine sorted_text (R := fun u d => ∃ x, RelV x u ∧ Dq X.K H x d) (I.ok.hd hc) hz hu (fun c u => ⟨.str ⟨#[c]⟩, ⟨u, rfl⟩, .str _⟩) fun h' tk p out n hp hk hat hl hout => ?_
    obtain ⟨ys, k1, k2⟩ := of_each hout
    have hys : ys.length ≤ sizeLine := by rw [k1.length, hl]; exact line_of hz
    exact ⟨.ref p, upd H p (.lst ys), I.laid (t' := tk) hk hp ⟨hys, out, n, k1, hat⟩, rfl, q H .refl p ys (I.hok.fresh hp) k2⟩
def rSortA (K : PySem.W.Frag) : List V → Hp → VK → Prop := fun xs H Q => rSortP K xs H Q ∨ rSortTx K xs H Q
theorem cr_sortA (hc : X.calm = true) (hu : X.A.units + 64 < cLine) : CallR X (.builtin "sorted") (rSortA X.K) := call_or2 (cr_sortP hu) (cr_sortTx hc hu)
theorem dq_strs {K : PySem.W.Frag} {V V' : Hp} : ∀ {ys : List L2.V} {ds : List PyData}, DqAll K V ys ds → (∀ d ∈ ds, ∃ z, d = .str z) → DqAll K V' ys ds
  | _, _, .nil, _ => .nil
  | _, _, .cons a r, h => by
    refine .cons ?_ (dq_strs r fun d hd => h d (List.mem_cons_of_mem _ hd))
    obtain ⟨z, rfl⟩ := h _ List.mem_cons_self
    cases a
    exact .str z
theorem isort_mem {z : PyData} : ∀ {l : List PyData}, z ∈ isortD l → z ∈ l
  | [], h => h
  | x :: xs, h => by
    rcases insD_mem.mp h with rfl | h
    · exact List.mem_cons_self
    · exact List.mem_cons_of_mem _ (isort_mem h)
theorem cd_sortA {K : PySem.W.Frag} : CallD K (rSortA K) sortA := by
  intro V H xs ds z Q s da ho q
  cases da with
  | nil => exact .inl (cd_sort V H _ _ z Q s .nil ho q)
  | cons a r =>
    cases r with
    | cons b r => exact .inl (cd_sort V H _ _ z Q s (.cons a (.cons b r)) (by cases a <;> exact ho) q)
    | nil =>
      cases a with
      | str x =>
        simp only [sortA] at ho
        split at ho
        · rename_i hz
          cases ho
          refine .inr ⟨x, rfl, hz, fun V' sV p ys n dy => newL s q (dq_strs dy fun d hd => ?_) n⟩
          have := isort_mem hd
          unfold signs at this
          obtain ⟨c, _, rfl⟩ := List.mem_map.mp this
          exact ⟨_, rfl⟩
        · cases ho
      | non => exact .inl (cd_sort V H _ _ z Q s (.cons .non .nil) ho q)
      | bl b => exact .inl (cd_sort V H _ _ z Q s (.cons (.bl b) .nil) ho q)
      | int b => exact .inl (cd_sort V H _ _ z Q s (.cons (.int b) .nil) ho q)
      | lst h1 d1 => exact .inl (cd_sort V H _ _ z Q s (.cons (.lst h1 d1) .nil) ho q)
      | tup h1 d1 => exact .inl (cd_sort V H _ _ z Q s (.cons (.tup h1 d1) .nil) ho q)
      | lk h1 d1 => exact .inl (cd_sort V H _ _ z Q s (.cons (.lk h1 d1) .nil) ho q)
end
end DL

namespace DL
open PySem PySem.Spec PyProof.Rows L2
/-! ### comprehensions of two clauses -/
/-- the new list D of a comprehension, as it stands: V1, H1 ahead of it -/
structure LcS (K : PySem.W.Frag) (V1 H1 : Hp) (D : Addr) (V H : Hp) (acc : List L2.V) (xs : List PyData) : Prop where
  vD : V D = none
  hD : H D = some (.lst acc)
  da : DqAll K V acc xs
  gr : Gr V1 H1 V H
theorem LcS.grow {K : PySem.W.Frag} {V1 H1 V H V' H' : Hp} {D : Addr} {acc : List L2.V} {xs : List PyData} (s : LcS K V1 H1 D V H acc xs) (g : Gr V H V' H') : LcS K V1 H1 D V' H' acc xs :=
  ⟨g.nw D s.vD (by rw [s.hD]; simp), g.h _ _ s.hD, da_mono g.v s.da, s.gr.trans g⟩
theorem LcS.push {K : PySem.W.Frag} {V1 H1 V H : Hp} {D : Addr} {acc : List L2.V} {xs : List PyData} {v : L2.V} {y : PyData} (s : LcS K V1 H1 D V H acc xs) (hD : H1 D = none) (d : Dq K V v y) : LcS K V1 H1 D V (upd H D (.lst (acc ++ [v]))) (acc ++ [v]) (xs ++ [y]) := by
  refine ⟨s.vD, upd_same, da_app s.da (.cons d .nil), s.gr.v, fun a u z => ?_, fun a u z => ?_, s.gr.nw, s.gr.nf⟩
  · rw [upd_ne (ne_of_none z hD)]; exact s.gr.h a u z
  · have : a ≠ D := fun w => by subst w; rw [s.vD] at z; cases z
    rw [upd_ne this]; exact s.gr.sub a u z
/-- the inner clause -/
theorem lc_inner {K : PySem.W.Frag} {J : It} {V0 : Hp} {B : Bs} {V1 H1 V H : Hp} {D : Addr} {ds zs xs : List PyData} {acc : List L2.V} {is : List Nat} {g : DG} {t : DB} {f : DE} {vs : List Nat} {σ : L2.St} {ρ : List Sl} {Nx : Hp → Prop} (hv : ∀ i ∈ is, i ∈ vs) (w : WalkD K V J ds)
    (E : EnvD K V0 B V H σ ρ) (hB : B.h D = none) (hD : H1 D = none) (hn : B.ex D) (S : LcS K V1 H1 D V H acc xs) (hz : acc.length + ds.length ≤ 90000) (hl : lcGo g t f (wipeD ρ vs) ds = some zs)
    (hN : ∀ V' H' acc' , EnvD K V0 B V' H' σ ρ → LcS K V1 H1 D V' H' acc' (xs ++ zs) → Gr V H V' H' ∨ True → acc'.length ≤ acc.length + ds.length → Ex V V' → Nx H') :
    ∃ W : Nat → Nat → Hp → Prop, (∃ m, W 0 m H) ∧ ∀ i m H, W i m H → (J.stop i H ∧ Nx H) ∨ (J.go i H ∧ ∃ Nx1 : Hp → Prop, (∀ H', Nx1 H' → ∃ m', m' < m ∧ W (i + 1) m' H') ∧ ∀ x H', J.yld i H x H' → gD K is g x (wipe σ vs) H' fun σ3 H5 => wipe σ3 vs = wipe σ vs ∧ tDT K t σ3 H5 fun b H6 =>
      if b = true then tD K f σ3 H6 fun y H7 => ∃ acc, H7 D = some (.lst acc) ∧ acc.length < sizeLine ∧ Nx1 (upd H7 D (.lst (acc ++ [y]))) else Nx1 H6) := by
  refine ⟨fun i m H' => m = ds.length - i ∧ i ≤ ds.length ∧ ∃ V' acc' ys zr, Ex V V' ∧ EnvD K V0 B V' H' σ ρ ∧ LcS K V1 H1 D V' H' acc' ys ∧ acc'.length ≤ acc.length + i ∧ lcGo g t f (wipeD ρ vs) (ds.drop i) = some zr ∧ xs ++ zs = ys ++ zr,
    ⟨ds.length, by simp, Nat.zero_le _, V, acc, xs, zs, .refl, E, S, Nat.le_refl _, hl, rfl⟩, ?_⟩
  rintro i m H2 ⟨rfl, hi, V2, acc2, ys, zr, x2, E2, S2, hal, hl2, heq⟩
  by_cases hlt : i < ds.length
  · refine .inr ⟨w.go i V2 H2 hlt x2 E2.sub, fun H' => ∃ V' acc' ys zr, Ex V V' ∧ EnvD K V0 B V' H' σ ρ ∧ LcS K V1 H1 D V' H' acc' ys ∧ acc'.length ≤ acc.length + (i + 1) ∧ lcGo g t f (wipeD ρ vs) (ds.drop (i + 1)) = some zr ∧ xs ++ zs = ys ++ zr, fun H' n => ⟨_, by omega, rfl, hlt, n⟩, fun x H3 y => ?_⟩
    obtain ⟨V3, g3, d3⟩ := w.yld i V2 H2 x H3 _ (List.getElem?_eq_getElem hlt) x2 E2.sub y
    rw [List.drop_eq_getElem_cons hlt] at hl2
    unfold lcGo at hl2
    obtain ⟨ρ1, k1, hl2⟩ := bind_some hl2
    obtain ⟨bb, k2, hl2⟩ := bind_some hl2
    refine ⟨V0, B, V3, wipeD ρ vs, ds[i], ρ1, (E2.grow g3).wipe vs, d3, k1, fun σ4 V4 g4 E4 o4 _ => ⟨?_, V0, B, V4, ρ1, bb, E4, k2, fun V5 H5 g5 => ?_⟩⟩
    · rw [o4.wipe (vs := vs) hv]
      exact Only.wipe (is := vs) ⟨wipe_length σ vs, fun j hj => wipe_out hj⟩ fun _ h => h
    · have g35 := g3.trans (g4.trans g5)
      cases bb with
      | false =>
        simp only [Bool.false_eq_true, if_false] at hl2
        exact ⟨V5, acc2, ys, zr, x2.trans g35.v, E2.grow g35, S2.grow g35, by omega, hl2, heq⟩
      | true =>
        simp only [if_true] at hl2
        obtain ⟨yv, k3, hl2⟩ := bind_some hl2
        obtain ⟨zr', k4, e⟩ := map_some hl2
        subst e
        refine ⟨V0, B, V5, ρ1, yv, E4.grow g5, k3, fun v V6 H6 g6 d6 => ?_⟩
        have g36 := g35.trans g6
        have S6 := S2.grow g36
        refine ⟨acc2, S6.hD, line_lt (by omega), V6, acc2 ++ [v], ys ++ [yv], zr', x2.trans g36.v, (E2.grow g36).pushD hB S6.vD hn, S6.push hD d6, by rw [List.length_append, List.length_singleton]; omega, k4, by rw [heq, List.append_assoc]; rfl⟩
  · have ei : i = ds.length := by omega
    subst ei
    rw [List.drop_length] at hl2
    cases hl2
    rw [List.append_nil] at heq
    rw [← heq] at S2
    exact .inl ⟨w.stop V2 H2 x2 E2.sub, hN V2 H2 acc2 E2 S2 (.inr trivial) hal x2⟩
def lc2Go (g : DG) (t : DB) (it1 : DA) (g1 : DG) (t1 : DB) (f : DE) (vs1 : List Nat) (ρ : List Sl) : List PyData → Option (List PyData)
  | [] => some []
  | d :: ds => (g d ρ).bind fun ρ1 => (t ρ1).bind fun b => if b = true then (it1 ρ1).bind fun es => (lcGo g1 t1 f (wipeD ρ1 vs1) es).bind fun ys => if es.length ≤ 100 then (lc2Go g t it1 g1 t1 f vs1 ρ ds).map fun zs => ys ++ zs else none else lc2Go g t it1 g1 t1 f vs1 ρ ds
def nLc2 (it : DA) (g : DG) (t : DB) (it1 : DA) (g1 : DG) (t1 : DB) (f : DE) (vs vs1 : List Nat) : DA := fun ρ => (it ρ).bind fun ds => if ds.length ≤ 800 then lc2Go g t it1 g1 t1 f vs1 (wipeD ρ vs) ds else none
theorem wipeD_own {j : Nat} {ys : List PyData} {ρ : List Sl} : ∀ {vs : List Nat}, (wipeD ρ vs)[j]? = some (.own ys) → ρ[j]? = some (.own ys) ∧ j ∉ vs
  | [], h => ⟨h, by simp⟩
  | v :: vs, h => by
    unfold wipeD at h
    rcases get_set h with ⟨_, _, z⟩ | ⟨n, h⟩
    · cases z
    · obtain ⟨h1, h2⟩ := wipeD_own h
      exact ⟨h1, fun z => (List.mem_cons.mp z).elim (fun q => n q.symm) h2⟩
theorem tLc2_of {K : PySem.W.Frag} {it it1 : DA} {is is1 : List Nat} {g g1 : DG} {t t1 : DB} {f : DE} {vs vs1 : List Nat} (hv : ∀ i ∈ is, i ∈ vs) (hv1 : ∀ i ∈ is1, i ∈ vs1) (σ : L2.St) (H : Hp) (Q : VK) (h : tN K (nLc2 it g t it1 g1 t1 f vs vs1) σ H Q) :
    tLc2 (iD K it) (gD K is g) (tDT K t) (iD K it1) (gD K is1 g1) (tDT K t1) (tD K f) vs vs1 σ H Q := by
  obtain ⟨BV, B, V, ρ, ys, E, h, q⟩ := h
  obtain ⟨ds, h1, h⟩ := bind_some h
  by_cases hz : ds.length ≤ 800
  · rw [if_pos hz] at h
    refine ⟨BV, B, V, ρ, ds, E, h1, fun J V1 H1 g1' w D hD => ?_⟩
    have E1 := E.grow g1'
    have hBD : B.h D = none := E1.gr.h.back hD
    have Ex1 := (E1.rebase.fresh (S' := fun p => p = D) fun p z => by rw [z]; exact hD)
    refine ⟨fun i m H => m = ds.length - i ∧ i ≤ ds.length ∧ ∃ V2 acc xs zs, EnvD K V1 (B.out D) V2 H σ ρ ∧ LcS K V1 H1 D V2 H acc xs ∧ acc.length ≤ 100 * i ∧ lc2Go g t it1 g1 t1 f vs1 (wipeD ρ vs) (ds.drop i) = some zs ∧ ys = xs ++ zs,
      ⟨ds.length, by simp, Nat.zero_le _, V1, [], [], ys, (Ex1.grow (Gr.held E1.sub hD)).out (by rw [upd_same]; simp), ⟨E1.sub.back hD, upd_same, .nil, Gr.held E1.sub hD⟩, Nat.le_refl _, h, rfl⟩, ?_⟩
    rintro i m H2 ⟨rfl, hi, V2, acc, xs, zs, E2, S2, hal, hl, rfl⟩
    by_cases hlt : i < ds.length
    · refine .inr ⟨w.go i V2 H2 hlt S2.gr.v S2.gr.sub, fun H' => ∃ V2 acc xs zs', EnvD K V1 (B.out D) V2 H' σ ρ ∧ LcS K V1 H1 D V2 H' acc xs ∧ acc.length ≤ 100 * (i + 1) ∧ lc2Go g t it1 g1 t1 f vs1 (wipeD ρ vs) (ds.drop (i + 1)) = some zs' ∧ _ = xs ++ zs', fun H' n => ⟨_, by omega, rfl, hlt, n⟩, fun x H3 y => ?_⟩
      obtain ⟨V3, g3, d3⟩ := w.yld i V2 H2 x H3 _ (List.getElem?_eq_getElem hlt) S2.gr.v S2.gr.sub y
      rw [List.drop_eq_getElem_cons hlt] at hl
      unfold lc2Go at hl
      obtain ⟨ρ1, k1, hl⟩ := bind_some hl
      obtain ⟨bb, k2, hl⟩ := bind_some hl
      refine ⟨V1, B.out D, V3, wipeD ρ vs, ds[i], ρ1, (E2.grow g3).wipe vs, d3, k1, fun σ4 V4 g4 E4 o4 w4 => ⟨?_, V1, B.out D, V4, ρ1, bb, E4, k2, fun V5 H5 g5 => ?_⟩⟩
      · rw [o4.wipe (vs := vs) hv]
        exact Only.wipe (is := vs) ⟨wipe_length σ vs, fun j hj => wipe_out hj⟩ fun _ h => h
      · have g35 := g3.trans (g4.trans g5)
        cases bb with
        | false =>
          simp only [Bool.false_eq_true, if_false] at hl
          exact ⟨V5, acc, xs, zs, E2.grow g35, S2.grow g35, by omega, hl, rfl⟩
        | true =>
          simp only [if_true] at hl
          obtain ⟨es, k3, hl⟩ := bind_some hl
          obtain ⟨ys1, k4, hl⟩ := bind_some hl
          by_cases he : es.length ≤ 100
          · rw [if_pos he] at hl
            obtain ⟨zr, k5, e⟩ := map_some hl
            subst e
            refine ⟨V1, B.out D, V5, ρ1, es, E4.grow g5, k3, fun J1 V6 H6 g6 w6 => ?_⟩
            have g36 := g35.trans g6
            refine lc_inner hv1 w6 ((E4.grow g5).grow g6) hBD hD (.inr rfl) (S2.grow g36) (by omega) k4 fun V' H' acc' E' S' _ hal' x' => ?_
            exact ⟨V', acc', xs ++ ys1, zr, (Ex1.grow S'.gr).out (by rw [S'.hD]; simp), S', by omega, k5, by rw [List.append_assoc]⟩
          · rw [if_neg he] at hl; cases hl
    · have ei : i = ds.length := by omega
      subst ei
      rw [List.drop_length] at hl
      cases hl
      rw [List.append_nil] at q
      exact .inl ⟨w.stop V2 H2 S2.gr.v S2.gr.sub, q D acc V2 H2 (g1'.trans S2.gr) (g1'.h.back hD) S2.vD S2.hD S2.da⟩
  · rw [if_neg hz] at h; cases h
section
variable {X : Cx} {pos : Pos}
theorem dn_lc2 {elt tg iter tg1 iter1 : Expr} {ifs ifs1 : List Expr} {scope : Scope} {own : List (Str × Nat)} {vs1 : List Nat} {it it1 : DA} {is is1 : List Nat} {g g1 : DG} {t t1 : DB} {f : DE} (hc : X.calm = true) (hN : X.N.Nodup) (hi : PI X tg iter (iD X.K it)) (ok : BlkOk X.N X.env.scope scope own) (hv : ∀ i ∈ vs1, i ∈ own.map (·.2))
    (hv0 : ∀ i ∈ is, i ∈ own.map (·.2)) (hv1 : ∀ i ∈ is1, i ∈ vs1)
    (hg : ∀ (s : Shared) (H : Hp) (C : Addr) (cl : List (Str × Addr)) (fp : List Addr), PG (X.blk s H scope (compEnvC scope cl C X.env) fp) tg (gD X.K is g)) (ht : ∀ (s : Shared) (H : Hp) (C : Addr) (cl : List (Str × Addr)) (fp : List Addr), PTs (X.blk s H scope (compEnvC scope cl C X.env) fp) ifs (tDT X.K t))
    (hi1 : ∀ (s : Shared) (H : Hp) (C : Addr) (cl : List (Str × Addr)) (fp : List Addr), PI (X.blk s H scope (compEnvC scope cl C X.env) fp) tg1 iter1 (iD X.K it1))
    (hg1 : ∀ (s : Shared) (H : Hp) (C : Addr) (cl : List (Str × Addr)) (fp : List Addr), PG (X.blk s H scope (compEnvC scope cl C X.env) fp) tg1 (gD X.K is1 g1)) (ht1 : ∀ (s : Shared) (H : Hp) (C : Addr) (cl : List (Str × Addr)) (fp : List Addr), PTs (X.blk s H scope (compEnvC scope cl C X.env) fp) ifs1 (tDT X.K t1))
    (he : ∀ (s : Shared) (H : Hp) (C : Addr) (cl : List (Str × Addr)) (fp : List Addr), PE (X.blk s H scope (compEnvC scope cl C X.env) fp) elt (tD X.K f)) (hs : ∀ x, foldedSetIterable iter X.env x = pure x := by intro _; rfl) (hs1 : ∀ env x, foldedSetIterable iter1 env x = pure x := by intro _ _; rfl) :
    PE X (.ListComp elt [⟨tg, iter, ifs, 0⟩, ⟨tg1, iter1, ifs1, 0⟩] scope pos) (tN X.K (nLc2 it g t it1 g1 t1 f (own.map (·.2)) vs1)) := pe_w (pe_lc2 hc hN hi ok hv hg ht hi1 hg1 ht1 he hs hs1) (tLc2_of hv0 hv1)
theorem ds_setLc2 {i : Nat} {y : Str} {py : Pos} {elt tg iter tg1 iter1 : Expr} {ifs ifs1 : List Expr} {scope : Scope} {own : List (Str × Nat)} {vs1 : List Nat} {spos : Pos} {it it1 : DA} {is is1 : List Nat} {g g1 : DG} {t t1 : DB} {f : DE} (hc : X.calm = true) (hN : X.N.Nodup) (hy : X.N[i]? = some y) (hyl : X.env.scope.names.lookup y = some .local)
    (hsw : swapsWith (.ListComp elt [⟨tg, iter, ifs, 0⟩, ⟨tg1, iter1, ifs1, 0⟩] scope pos) (some (.Name y py)) spos.line X.env = pure true) (hi : PI X tg iter (iD X.K it)) (ok : BlkOk X.N X.env.scope scope own) (hv : ∀ i ∈ vs1, i ∈ own.map (·.2))
    (hv0 : ∀ i ∈ is, i ∈ own.map (·.2)) (hv1 : ∀ i ∈ is1, i ∈ vs1)
    (hg : ∀ (s : Shared) (H : Hp) (C : Addr) (cl : List (Str × Addr)) (fp : List Addr), PG (X.blk s H scope (compEnvC scope cl C X.env) fp) tg (gD X.K is g)) (ht : ∀ (s : Shared) (H : Hp) (C : Addr) (cl : List (Str × Addr)) (fp : List Addr), PTs (X.blk s H scope (compEnvC scope cl C X.env) fp) ifs (tDT X.K t))
    (hi1 : ∀ (s : Shared) (H : Hp) (C : Addr) (cl : List (Str × Addr)) (fp : List Addr), PI (X.blk s H scope (compEnvC scope cl C X.env) fp) tg1 iter1 (iD X.K it1))
    (hg1 : ∀ (s : Shared) (H : Hp) (C : Addr) (cl : List (Str × Addr)) (fp : List Addr), PG (X.blk s H scope (compEnvC scope cl C X.env) fp) tg1 (gD X.K is1 g1)) (ht1 : ∀ (s : Shared) (H : Hp) (C : Addr) (cl : List (Str × Addr)) (fp : List Addr), PTs (X.blk s H scope (compEnvC scope cl C X.env) fp) ifs1 (tDT X.K t1))
    (he : ∀ (s : Shared) (H : Hp) (C : Addr) (cl : List (Str × Addr)) (fp : List Addr), PE (X.blk s H scope (compEnvC scope cl C X.env) fp) elt (tD X.K f)) (hs : ∀ x, foldedSetIterable iter X.env x = pure x := by intro _; rfl) (hs1 : ∀ env x, foldedSetIterable iter1 env x = pure x := by intro _ _; rfl) :
    PS X (.Assign [.Name y py] (.ListComp elt [⟨tg, iter, ifs, 0⟩, ⟨tg1, iter1, ifs1, 0⟩] scope pos) spos) (sD X.K (sSet i (dL (nLc2 it g t it1 g1 t1 f (own.map (·.2)) vs1)))) :=
  ps_w (ps_setLc2 hc hN hy hyl hsw hi ok hv hg ht hi1 hg1 ht1 he hs hs1) fun D σ H ⟨BV, B, V, ρ, r, E, h, q⟩ => by
    obtain ⟨x, h1, h⟩ := map_some h
    obtain ⟨ds, h2, e⟩ := map_some h1
    subst e
    subst h
    exact tLc2_of hv0 hv1 σ H _ ⟨BV, B, V, ρ, ds, E, h2, fun p vs V' H' g n hv h' da => q _ _ _ ((E.grow (g.freeze n h' hv)).set (.lst (.inl upd_same) (da_mono (Ex.new hv) da)) i)⟩
end
theorem lc2Go_me {W : List Nat} {g g1 : DG} {t t1 : DB} {it1 : DA} {f : DE} {vs1 : List Nat} (hg : MG W g) (ht : ME t) (hi1 : ME it1) (hg1 : MG W g1) (ht1 : ME t1) (hf : ME f) {ρ ρ' : List Sl} (h : Le ρ ρ') : ∀ (ds ys : List PyData), lc2Go g t it1 g1 t1 f vs1 ρ ds = some ys → lc2Go g t it1 g1 t1 f vs1 ρ' ds = some ys
  | [], ys, e => e
  | d :: ds, ys, e => by
    unfold lc2Go at e ⊢
    obtain ⟨x, h1, e⟩ := bind_some e
    obtain ⟨b, h2, e⟩ := bind_some e
    obtain ⟨x', h3, l3, _⟩ := hg _ _ _ _ h h1
    simp only [h3, ht _ _ _ l3 h2, Option.bind_some]
    cases b with
    | true =>
      simp only [if_true] at e ⊢
      obtain ⟨es, h4, e⟩ := bind_some e
      obtain ⟨y1, h5, e⟩ := bind_some e
      simp only [hi1 _ _ _ l3 h4, Option.bind_some, lcGo_me hg1 ht1 hf (l3.wipe vs1) es y1 h5]
      by_cases q : es.length ≤ 100
      · rw [if_pos q] at e ⊢
        obtain ⟨zs, h6, e⟩ := map_some e
        rw [lc2Go_me hg ht hi1 hg1 ht1 hf h ds zs h6, Option.map_some, e]
      · rw [if_neg q] at e; cases e
    | false =>
      simp only [Bool.false_eq_true, if_false] at e ⊢
      exact lc2Go_me hg ht hi1 hg1 ht1 hf h ds ys e
theorem me_lc2 {W : List Nat} {it it1 : DA} {g g1 : DG} {t t1 : DB} {f : DE} {vs vs1 : List Nat} (hi : ME it) (hg : MG W g) (ht : ME t) (hi1 : ME it1) (hg1 : MG W g1) (ht1 : ME t1) (hf : ME f) : ME (nLc2 it g t it1 g1 t1 f vs vs1) := fun ρ ρ' d h e => by
  obtain ⟨ds, h1, e⟩ := bind_some e
  simp only [nLc2, hi _ _ _ h h1, Option.bind_some]
  by_cases q : ds.length ≤ 800
  · rw [if_pos q] at e ⊢
    exact lc2Go_me hg ht hi1 hg1 ht1 hf (h.wipe vs) ds d e
  · rw [if_neg q] at e; cases e
end DL

namespace DL
open PySem PySem.Spec PyProof.Rows L2
section
variable {X : Cx}
/-! ### * -/
def rRepR : R2 := fun x y H Q => ∃ l k xs, x = .ref l ∧ y = .int k ∧ Rd H l (.lst xs) ∧ -(2 ^ 63) ≤ k ∧ k < 2 ^ 63 ∧ xs.length * k.toNat ≤ sizeLine ∧
  ∀ p, H p = none → Q (.ref p) (upd H p (.lst (List.replicate k.toNat xs).flatten))
theorem op_repR : OpR X (binaryOp .Mult) rRepR := by
  intro pins s σ H x y v u Q I rx ry h
  obtain ⟨l, k, xs, rfl, rfl, hH, h1, h2, hz, q⟩ := h
  cases rx
  obtain ⟨t, rfl⟩ := ry
  obtain ⟨z, its, n, r, hl, e⟩ := lstR I hH
  have hlen : its.toArray.size * k.toNat ≤ sizeLine := by rw [List.size_toArray, ← hl]; exact hz
  have hcap : ¬ its.toArray.size * k.toNat > (2 ^ 63 - 1) / 8 := by
    have : (sizeLine : Nat) ≤ (2 ^ 63 - 1) / 8 := by decide
    omega
  have hfit : ¬ (!Builtin.List.listFitsIndex k) = true := by
    rw [fitsIndex_both h1 h2]
    exact Bool.false_ne_true
  have hlong : ¬ Builtin.List.listTooLong (its.toArray.size * k.toNat) = true := by
    rw [notLongL hlen]
    exact Bool.false_ne_true
  have hnew : List.foldl (fun x1 x2 => x1 ++ x2) #[] (List.replicate (if its.toArray.isEmpty = true then 0 else k.toNat) its.toArray) = (List.replicate k.toNat its).flatten.toArray := by
    have f0 : ∀ m : Nat, List.foldl (fun x1 x2 => x1 ++ x2) #[] (List.replicate m its.toArray) = (List.replicate m its).flatten.toArray := fun m => by
      have := foldl_rep its m []
      rw [List.nil_append] at this
      exact this
    rw [f0]
    cases its with
    | nil => simp
    | cons a r' => rw [if_neg (by simp)]
  refine wpAny_binaryOp_repeat_ref (T := "list") (U := "int") (by decide) ⟨_, e, rfl⟩ (fun s' => typeIs_int s' k t) noFill_list_mul F.fills_int_mul F.slot_int_rmul repeat_list F.slot_int_index.lookup
    (call_meets F.slot_int_rmul (typeIs_int s k t) F.entry_int_rmul (F.args_int_rmul_2 _ _) (int___rmul___int_list k t l its.toArray n)
      ⟨e, rfl, ⟨_, e, rfl⟩, call_meets F.slot_list_mul ⟨_, e, rfl⟩ F.entry_list_mul (F.args_list_mul_2 _ _) (AutoListH.list___mul___list_int_3 l its.toArray n k t hfit hcap hlong) ⟨e, ?_⟩⟩)
  rw [hnew]
  exact ⟨.ref _, _, I.lnew (t' := s.toks) (r.rep k.toNat) (by rw [PyProof.Rows.lm_len_rep_flat, Nat.mul_comm]; exact hz), rfl, q _ I.fresh⟩
theorem op_mul_ib : OpR X (binaryOp .Mult) (fun x y H Q => ∃ i k, x = .int i ∧ y = .bl k ∧ Q (.int (i * b2i k)) H) := by
  intro pins s σ H x y v u Q I rx ry h
  obtain ⟨i, k, rfl, rfl, q⟩ := h
  obtain ⟨t, rfl⟩ := rx
  cases ry
  exact PySem.IntBool.mul_int_bool ⟨.int (i * b2i k), H, I.tok _, ⟨_, by cases k <;> rfl⟩, q⟩
theorem op_mul_str : OpR X (binaryOp .Mult) (fun x y H Q => ∃ z k, x = .str z ∧ y = .int k ∧ (1 ≤ k ∧ k ≤ 1000 ∧ z.length ≤ 1000) ∧ Q (.str (Txt.mul z k)) H) := by
  intro pins s σ H x y v u Q I rx ry h
  obtain ⟨z, k, rfl, rfl, ⟨h1, h2, h3⟩, q⟩ := h
  obtain ⟨t, rfl⟩ := rx
  obtain ⟨t', rfl⟩ := ry
  refine SB.mul ⟨?_, fun _ _ => ?_, fun _ _ => ?_⟩ fun t' k' => ⟨.str (Txt.mul z k), H, I.tok k', ⟨t', rfl⟩, q⟩
  · rw [decide_eq_false (by omega), decide_eq_false (by omega)]; rfl
  · have hk : (0 : Int) < k := by omega
    have : (9223372036854775 : Int) ≤ (2 ^ 63 - 1) / k := by
      rw [Int.le_ediv_iff_mul_le hk]
      have : (9223372036854775 : Int) * k ≤ 9223372036854775 * 1000 := Int.mul_le_mul_of_nonneg_left h2 (by decide)
      omega
    omega
  · have e1 : k.toNat ≤ 1000 := by omega
    have : z.length * k.toNat ≤ 1000 * 1000 := Nat.mul_le_mul h3 e1
    have e2 : (sizeLine : Nat) = 16777216 := by decide
    unfold Builtin.Str.tooLong
    exact decide_eq_false (by omega)
def mulA : PyData → PyData → Option PyData
  | .int i, .int j => mulP (.int i) (.int j)
  | .int i, .bool k => some (.int (i * b2i k))
  | .str z, .int k => if 1 ≤ k ∧ k ≤ 1000 ∧ z.length ≤ 1000 then some (.str (Txt.mul z k)) else none
  | .list ds, .int k => if 0 ≤ k ∧ k ≤ 1000 ∧ ds.length ≤ 1000 then some (.list (List.replicate k.toNat ds).flatten) else none
  | _, _ => none
def rMulA : R2 := fun x y H Q => rI CMul (fun i j => .int (i * j)) x y H Q ∨ ((∃ i k, x = .int i ∧ y = .bl k ∧ Q (.int (i * b2i k)) H) ∨ ((∃ z k, x = .str z ∧ y = .int k ∧ (1 ≤ k ∧ k ≤ 1000 ∧ z.length ≤ 1000) ∧ Q (.str (Txt.mul z k)) H) ∨ rRepR x y H Q))
theorem op_mulA : OpR X (binaryOp .Mult) rMulA := op_or2 op_mul (op_or2 op_mul_ib (op_or2 op_mul_str op_repR))
theorem da_rep {K : PySem.W.Frag} {V : Hp} {vs : List L2.V} {ds : List PyData} (h : DqAll K V vs ds) : ∀ n : Nat, DqAll K V (List.replicate n vs).flatten (List.replicate n ds).flatten
  | 0 => .nil
  | n + 1 => by
    rw [List.replicate_succ, List.replicate_succ, List.flatten_cons, List.flatten_cons]
    exact da_app h (da_rep h n)
theorem od_mulA {K : PySem.W.Frag} : OpD K rMulA mulA := by
  intro V H x y d e z Q s hx hy ho q
  cases hx with
  | int i =>
    cases hy with
    | int j => exact .inl (od_mul (K := K) V H _ _ _ _ z Q s (.int i) (.int j) ho q)
    | bl k => cases ho; exact .inr (.inl ⟨i, k, rfl, rfl, keep s q (.int _)⟩)
    | _ => cases ho
  | str w =>
    cases hy with
    | int k =>
      simp only [mulA] at ho
      split at ho
      · rename_i hz; cases ho; exact .inr (.inr (.inl ⟨w, k, rfl, rfl, hz, keep s q (.str _)⟩))
      · cases ho
    | _ => cases ho
  | lst h1 d1 =>
    cases hy with
    | int k =>
      simp only [mulA] at ho
      split at ho
      · rename_i hz; cases ho
        refine .inr (.inr (.inr ⟨_, k, _, rfl, rfl, s.rd h1, by omega, by omega, ?_, fun p n => newL s q (da_rep d1 _) n⟩))
        rw [da_len d1]
        have e1 : k.toNat ≤ 1000 := by omega
        have := Nat.mul_le_mul hz.2.2 e1
        have e2 : (sizeLine : Nat) = 16777216 := by decide
        omega
      · cases ho
    | _ => cases ho
  | _ => cases hy <;> cases ho
/-! ### <= of bools -/
def leA : PyData → PyData → Option PyData
  | .int i, .int j => some (.bool (decide (i ≤ j)))
  | .bool i, .bool j => some (.bool (decide (b2i i ≤ b2i j)))
  | _, _ => none
def rLeA : R2 := fun x y H Q => rI0 (fun i j => .bl (decide (i ≤ j))) x y H Q ∨ ∃ i j, x = .bl i ∧ y = .bl j ∧ Q (.bl (decide (b2i i ≤ b2i j))) H
theorem op_le_bb : OpR X (compareOp .LtE) (fun x y H Q => ∃ i j, x = .bl i ∧ y = .bl j ∧ Q (.bl (decide (b2i i ≤ b2i j))) H) := by
  intro pins s σ H x y v u Q I rx ry h
  obtain ⟨i, j, rfl, rfl, q⟩ := h
  cases rx
  cases ry
  exact le_bool ⟨.bl _, H, I, rfl, q⟩
theorem op_leA : OpR X (compareOp .LtE) rLeA := op_or2 op_le op_le_bb
theorem od_leA {K : PySem.W.Frag} : OpD K rLeA leA := by
  intro V H x y d e z Q s hx hy ho q
  cases hx <;> cases hy <;> cases ho
  · exact .inr ⟨_, _, rfl, rfl, keep s q (.bl _)⟩
  · exact .inl ⟨_, _, rfl, rfl, keep s q (.bl _)⟩
/-! ### len(set(ints)) -/
def dedupI : List Int → List Int → List Int
  | acc, [] => acc
  | acc, x :: xs => dedupI (if acc.any (· == x) then acc else acc ++ [x]) xs
theorem dedup_fold : ∀ (xs acc : List Int), xs.foldl step_dedup acc = dedupI acc xs
  | [], _ => rfl
  | x :: xs, acc => dedup_fold xs _
theorem firstMet_eq (ns : List Int) : firstMet (fun i => ns.getD i 0) ns.length = dedupI [] ns := by
  unfold firstMet
  have e : (List.range ns.length).map (fun i => ns.getD i 0) = ns := by
    apply List.ext_getElem?
    intro j
    rw [List.getElem?_map]
    by_cases h : j < ns.length
    · rw [List.getElem?_range h]
      simp [h]
    · rw [List.getElem?_eq_none (by simpa using h), List.getElem?_eq_none (by omega)]; rfl
  rw [e]
  exact dedup_fold ns []
theorem dedup_len : ∀ (xs acc : List Int), (dedupI acc xs).length ≤ acc.length + xs.length
  | [], acc => by simp [dedupI]
  | x :: xs, acc => by
    unfold dedupI
    refine Nat.le_trans (dedup_len xs _) ?_
    split
    · simp only [List.length_cons]; omega
    · simp only [List.length_append, List.length_cons, List.length_nil]; omega
def tLenSetD (K : PySem.W.Frag) (ta : TE) : TE := fun σ H Q => ta σ H fun x H1 => ∃ (l : Addr) (ns : List Int), x = .ref l ∧ SqL K H1 l (ns.map V.int) ∧ ns.length ≤ 4000 ∧ Q (.int ((dedupI [] ns).length : Nat)) H1
theorem pe_lenSetD {a : Expr} {ta : TE} {p p2 q pos : Pos} (hc : X.calm = true) (hg : Gl X "len") (hm : X.mg "len" = none) (hg2 : Gl X "set") (hm2 : X.mg "set" = none) (ha : PE X a ta)
    (na : starEach [a] X.env = (false, eval a X.env) :: starEach [] X.env := by rfl) : PE X (.Call (.Name "len" p) [.Call (.Name "set" p2) [a] [] q] [] pos) (tLenSetD X.K ta) := by
  refine ⟨fun pins s σ H Q I h => ?_⟩
  refine Call_ (ld_blt I hg hm boot_len ?_)
  refine PyProof.Rows.callWith_builtin1 (PyProof.Rows.args_cons ?_ rfl) rfl rfl
  refine Call_ (ld_blt I hg2 hm2 boot_set ?_)
  refine PyProof.Rows.callWith_type1 (PyProof.Rows.args_cons (thn (ha.run pins s σ H _ I h) fun v s1 ⟨x, H1, I1, r1, q1⟩ => PyProof.Rows.args_nil ?_) na) na rfl
  obtain ⟨l, ns, rfl, hq, hl, q1⟩ := q1
  cases r1
  obtain ⟨its, r, pl, hz⟩ := I1.list hq
  have hlen : its.toArray.size = ns.length := by rw [List.size_toArray, ← r.length, List.length_map]
  refine call_set_list (I1.ok.hd hc) pl.isList (by simpa using RZ.intsAre_vals r) (by rw [hlen]; unfold scanBound; omega) fun h' tk hS hk => ?_
  refine PyProof.Rows.args_nil ?_
  rw [hlen, firstMet_eq] at hS
  obtain ⟨o, es, ep, t, ho, hex, hd, _, _, _, hf, hn⟩ := hS
  have I2 : Inv X pins σ H1 { s1 with heap := h', toks := tk } := I1.kept fun b o e => hk b o (Heap.lt_size e) e
  have hle := dedup_len ns []
  exact call_len_set ho hex hd hf (by rw [hn]; simp at hle; omega) ⟨.int (dedupI [] ns).length, H1, I2.tok _, ⟨_, by rw [hn]⟩, q1⟩
def dLenSet (f : DE) : DE := fun ρ => (f ρ).bind fun d => match d with
  | .list ds => (asInts ds).bind fun ns => if ns.length ≤ 4000 then some (.int ((dedupI [] ns).length : Nat)) else none
  | _ => none
theorem de_lenSet {a : Expr} {f : DE} {p p2 q pos : Pos} (hc : X.calm = true) (hg : Gl X "len") (hm : X.mg "len" = none) (hg2 : Gl X "set") (hm2 : X.mg "set" = none) (ha : PE X a (tD X.K f))
    (na : starEach [a] X.env = (false, eval a X.env) :: starEach [] X.env := by rfl) : PE X (.Call (.Name "len" p) [.Call (.Name "set" p2) [a] [] q] [] pos) (tD X.K (dLenSet f)) :=
  pe_w (pe_lenSetD hc hg hm hg2 hm2 ha na) fun σ H Q ⟨BV, B, V, ρ, z, E, hz, q⟩ => by
    obtain ⟨d, h1, hz⟩ := bind_some hz
    cases d with
    | list ds =>
      obtain ⟨ns, h2, hz⟩ := bind_some (x := asInts ds) hz
      by_cases hl : ns.length ≤ 4000
      · rw [if_pos hl] at hz
        cases hz
        refine ⟨BV, B, V, ρ, _, E, h1, fun v V' H' g dd => ?_⟩
        cases dd with
        | lst r1 d1 => exact ⟨_, ns, rfl, by rw [← da_asInts d1 h2]; exact .inl (g.sub.rd r1), hl, q _ V' H' g (.int _)⟩
      · rw [if_neg hl] at hz; cases hz
    | _ => cases hz
theorem me_lenSet {f : DE} (hf : ME f) : ME (dLenSet f) := fun ρ ρ' d h e => by
  obtain ⟨x, h1, e⟩ := bind_some e
  simp only [dLenSet, hf _ _ _ h h1, Option.bind_some]
  exact e
/-! ### list(e), kept -/
def nList (f : DE) : DA := fun ρ => (f ρ).bind fun d => match d with
  | .list ds => some ds
  | .tuple ds => some ds
  | _ => none
theorem dn_list {a : Expr} {f : DE} {p pos : Pos} (hg : Gl X "list") (hm : X.mg "list" = none) (ha : PE X a (tD X.K f)) (hs : starEach [a] X.env = [(false, eval a X.env)] := by rfl) : PE X (.Call (.Name "list" p) [a] [] pos) (tN X.K (nList f)) :=
  pe_w (pe_callTy call_list_of hg hm boot_list (pa_cons ha pa_nil hs) (by decide) (by decide) hs rfl) fun σ H Q ⟨BV, B, V, ρ, z, E, hz, q⟩ => by
    obtain ⟨d, h1, hz⟩ := bind_some hz
    cases d with
    | list ds =>
      cases hz
      refine ⟨BV, B, V, ρ, _, E, h1, fun v V' H' g dd => ?_⟩
      cases dd with
      | lst r1 d1 => exact ⟨_, _, rfl, .inl (.inl (g.sub.rd r1)), fun l n => q l _ V' _ (g.trans (Gr.held g.sub n)) (g.h.back n) (g.sub.back n) upd_same d1⟩
    | tuple ds =>
      cases hz
      refine ⟨BV, B, V, ρ, _, E, h1, fun v V' H' g dd => ?_⟩
      cases dd with
      | tup r1 d1 => exact ⟨_, _, rfl, .inr (g.sub.sqT r1), fun l n => q l _ V' _ (g.trans (Gr.held g.sub n)) (g.h.back n) (g.sub.back n) upd_same d1⟩
    | _ => cases hz
theorem me_nList {f : DE} (hf : ME f) : ME (nList f) := fun ρ ρ' d h e => by
  obtain ⟨x, h1, e⟩ := bind_some e
  simp only [nList, hf _ _ _ h h1, Option.bind_some]
  exact e
/-! ### list.count (ints), text.count, list.index, sum -/
def lcountP : PyData → List PyData → Option PyData
  | .list ds, [.int k] => (asInts ds).map fun ns => .int (ns.count k : Nat)
  | _, _ => none
theorem md_lcount {K : PySem.W.Frag} : MtD K (rCntI K) lcountP := by
  intro V H x xs d ds z Q s hx da ho q
  cases hx with
  | lst h1 d1 =>
    cases da with
    | nil => cases ho
    | cons b r =>
      cases r with
      | cons _ _ => cases b <;> cases ho
      | nil =>
        cases b with
        | int k =>
          obtain ⟨ns, h2, e⟩ := map_some ho
          subst e
          exact ⟨_, ns, k, rfl, rfl, by rw [← da_asInts d1 h2]; exact .inl (s.rd h1), keep s q (.int _)⟩
        | _ => cases ho
  | _ => cases ho
theorem lcount_ty (d : PyData) (ds : List PyData) (z : PyData) (h : lcountP d ds = some z) : tyD "list" d = true := by
  cases d <;> first | rfl | (simp [lcountP] at h)
def scountP : PyData → List PyData → Option PyData
  | .str a, [.str b] => some (.int (Txt.count a b))
  | _, _ => none
theorem md_scount {K : PySem.W.Frag} : MtD K (fun x xs H Q => ∃ a b, x = .str a ∧ xs = [.str b] ∧ Q (.int (Txt.count a b)) H) scountP := by
  intro V H x xs d ds z Q s hx da ho q
  cases hx with
  | str a =>
    cases da with
    | nil => cases ho
    | cons b r =>
      cases r with
      | cons _ _ => cases b <;> cases ho
      | nil =>
        cases b with
        | str b => cases ho; exact ⟨a, b, rfl, rfl, keep s q (.int _)⟩
        | _ => cases ho
  | _ => cases ho
theorem scount_ty (d : PyData) (ds : List PyData) (z : PyData) (h : scountP d ds = some z) : tyD "str" d = true := by
  cases d <;> first | rfl | (simp [scountP] at h)
def sumP : List PyData → Option PyData
  | [.list ds] => (asInts ds).map fun ns => .int ns.sum
  | _ => none
theorem cd_sum {K : PySem.W.Frag} : CallD K (rSum K) sumP := by
  intro V H xs ds z Q s da ho q
  cases da with
  | nil => cases ho
  | cons a r =>
    cases r with
    | cons _ _ => cases a <;> cases ho
    | nil =>
      cases a with
      | lst h1 d1 =>
        obtain ⟨ns, h2, e⟩ := map_some ho
        subst e
        exact ⟨_, ns, rfl, by rw [← da_asInts d1 h2]; exact .inl (s.rd h1), keep s q (.int _)⟩
      | _ => cases ho
def findIx (y : PyData) : Nat → List PyData → Option Nat
  | _, [] => none
  | i, d :: ds => if PyData.eqv d y = true then some i else findIx y (i + 1) ds
theorem findIx_some {y : PyData} : ∀ {ds : List PyData} {k j : Nat}, findIx y k ds = some j → k ≤ j ∧ (∃ d, ds[j - k]? = some d ∧ PyData.eqv d y = true) ∧ ∀ m d, m < j - k → ds[m]? = some d → PyData.eqv d y = false
  | [], _, _, h => by cases h
  | d :: ds, k, j, h => by
    unfold findIx at h
    by_cases q : PyData.eqv d y = true
    · rw [if_pos q] at h
      cases h
      exact ⟨Nat.le_refl _, ⟨d, by simp, q⟩, fun m _ hm => by omega⟩
    · rw [if_neg q] at h
      obtain ⟨h1, ⟨d', h2, h3⟩, h4⟩ := findIx_some h
      refine ⟨by omega, ⟨d', ?_, h3⟩, fun m d'' hm hd => ?_⟩
      · have : j - k = (j - (k + 1)) + 1 := by omega
        rw [this, List.getElem?_cons_succ]; exact h2
      · cases m with
        | zero => cases hd; exact eq_false_of_ne_true q
        | succ m => exact h4 m d'' (by omega) (by simpa using hd)
def lindexP : PyData → List PyData → Option PyData
  | .list ds, [y] => if (flatD y && ds.all flatD) = true then (findIx y 0 ds).map fun j => .int (j : Nat) else none
  | _, _ => none
theorem md_lindex {K : PySem.W.Frag} : MtD K (rIndex K) lindexP := by
  intro V H x xs d ds z Q s hx da ho q
  cases hx with
  | lst h1 d1 =>
    cases da with
    | nil => cases ho
    | cons b r =>
      cases r with
      | cons _ _ => cases ho
      | nil =>
        rename_i w y
        simp only [lindexP] at ho
        split at ho
        · rename_i f
          rw [Bool.and_eq_true] at f
          obtain ⟨j, h2, e⟩ := map_some ho
          subst e
          obtain ⟨_, ⟨d', k1, k2⟩, k3⟩ := findIx_some h2
          rw [Nat.sub_zero] at k1 k3
          obtain ⟨v, r1, r2⟩ := da_get d1 k1
          refine ⟨_, _, w, j, v, rfl, rfl, .inl (s.rd h1), flat_of b f.1, flats_of d1 f.2, r1, ?_, fun m z' hm hz' => ?_, keep s q (.int _)⟩
          · rw [eqV_of r2 b (List.all_eq_true.mp f.2 _ (List.mem_of_getElem? k1)) f.1]; exact k2
          · obtain ⟨d'', e1, e2⟩ := da_getv d1 hz'
            rw [eqV_of e2 b (List.all_eq_true.mp f.2 _ (List.mem_of_getElem? e1)) f.1]
            exact k3 m d'' hm e1
        · cases ho
  | _ => cases ho
theorem lindex_ty (d : PyData) (ds : List PyData) (z : PyData) (h : lindexP d ds = some z) : tyD "list" d = true := by
  cases d <;> first | rfl | (simp [lindexP] at h)
end
end DL
namespace DL
open PySem L2
theorem mulA_l {i j : Int} (h : -(2 ^ 64) < i ∧ i < 2 ^ 64) : mulA (.int i) (.int j) = some (.int (i * j)) := mulP_l h
theorem mulA_r {i j : Int} (h : -(2 ^ 64) < j ∧ j < 2 ^ 64) : mulA (.int i) (.int j) = some (.int (i * j)) := mulP_r h
end DL

namespace DL
open PySem L2
/-! ### signs and traffic as numbers of four digits -/
def dg (t i : Nat) : Nat := Nat.land (Nat.shiftRight t (Nat.mul 2 i)) 3
def pk (a b c d : Nat) : Nat := Nat.add a (Nat.add (Nat.mul 4 b) (Nat.add (Nat.mul 16 c) (Nat.mul 64 d)))
theorem dg_lt (t i : Nat) : dg t i < 4 := by
  show (t >>> (2 * i)) &&& 3 < 4
  have := @Nat.and_le_right (t >>> (2 * i)) 3
  omega
theorem pk_dgF : ∀ a b c d : Fin 4, dg (pk a b c d) 0 = a ∧ dg (pk a b c d) 1 = b ∧ dg (pk a b c d) 2 = c ∧ dg (pk a b c d) 3 = d ∧ pk a b c d < 256 := by decide +kernel
theorem pk_dg {a b c d : Nat} (ha : a < 4) (hb : b < 4) (hc : c < 4) (hd : d < 4) : dg (pk a b c d) 0 = a ∧ dg (pk a b c d) 1 = b ∧ dg (pk a b c d) 2 = c ∧ dg (pk a b c d) 3 = d ∧ pk a b c d < 256 := pk_dgF ⟨a, ha⟩ ⟨b, hb⟩ ⟨c, hc⟩ ⟨d, hd⟩
/-- all numbers below n, told by running -/
def allB (n : Nat) (p : Nat → Bool) : Bool := Nat.rec true (fun k r => cond (p k) r false) n
theorem allB_all {p : Nat → Bool} : ∀ {n : Nat}, allB n p = true → ∀ k, k < n → p k = true
  | 0, _, k, h => absurd h (Nat.not_lt_zero k)
  | n + 1, e, k, h => by
    have e' : cond (p n) (allB n p) false = true := e
    cases hn : p n with
    | false => rw [hn] at e'; cases e'
    | true =>
      rw [hn] at e'
      rcases Nat.lt_succ_iff_lt_or_eq.mp h with h | rfl
      · exact allB_all e' k h
      · exact hn
def trT : Nat → Nat
  | 0 => 46
  | 1 => 76
  | 2 => 83
  | _ => 82
def sgT : Nat → Nat
  | 0 => 80
  | 1 => 45
  | 2 => 71
  | _ => 84
def tS (t : Nat) : Str := ⟨#[trT (dg t 0), trT (dg t 1), trT (dg t 2), trT (dg t 3)]⟩
def sS (s : Nat) : Str := ⟨#[sgT (dg s 0), sgT (dg s 1), sgT (dg s 2), sgT (dg s 3)]⟩
def tr1 (c : Nat) : Str := ⟨#[trT c]⟩
def sg1 (c : Nat) : Str := ⟨#[sgT c]⟩
theorem st4_tS (a b c d : Fin 4) : st4 trC a b c d = tS (pk a b c d) := by
  have h : ∀ a b c d : Fin 4, st4 trC a b c d = tS (pk a b c d) := by decide +kernel
  exact h a b c d
theorem st4_sS (a b c d : Fin 4) : st4 sgC a b c d = sS (pk a b c d) := by
  have h : ∀ a b c d : Fin 4, st4 sgC a b c d = sS (pk a b c d) := by decide +kernel
  exact h a b c d
theorem pk_lt (a b c d : Fin 4) : pk a b c d < 256 := (pk_dgF a b c d).2.2.2.2
/-! ### arms -/
def A (i : Nat) : PyData := .int (i : Nat)
theorem lt4 {i : Nat} (h : i < 4) : i = 0 ∨ i = 1 ∨ i = 2 ∨ i = 3 := by omega
theorem ix_tS (t i : Nat) (h : i < 4) : ixP (.str (tS t)) (A i) = some (.str (tr1 (dg t i))) := by
  rcases lt4 h with rfl | rfl | rfl | rfl <;> rfl
theorem ix_sS (s i : Nat) (h : i < 4) : ixP (.str (sS s)) (A i) = some (.str (sg1 (dg s i))) := by
  rcases lt4 h with rfl | rfl | rfl | rfl <;> rfl
theorem ix_A4 (x0 x1 x2 x3 : PyData) (i : Nat) (h : i < 4) : ixP (.list [x0, x1, x2, x3]) (A i) = some ([x0, x1, x2, x3].getD i x0) := by
  rcases lt4 h with rfl | rfl | rfl | rfl <;> rfl
theorem signs_tS (t : Nat) : signs (tS t) = [.str (tr1 (dg t 0)), .str (tr1 (dg t 1)), .str (tr1 (dg t 2)), .str (tr1 (dg t 3))] := rfl
theorem signs_sS (s : Nat) : signs (sS s) = [.str (sg1 (dg s 0)), .str (sg1 (dg s 1)), .str (sg1 (dg s 2)), .str (sg1 (dg s 3))] := rfl
theorem fin4 {p : Nat → Prop} (h : ∀ c : Fin 4, p c) {c : Nat} (hc : c < 4) : p c := h ⟨c, hc⟩
theorem of_isBo2 {b : Nat → Bool} {x : Nat → Option PyData} (h : ∀ c : Fin 4, isBo (b c) (x c) = true) {c : Nat} (hc : c < 4) : x c = some (.bool (b c)) := of_isBo (h ⟨c, hc⟩)
theorem tr_dot {c : Nat} (h : c < 4) : eqP (.str (tr1 c)) (.str ".") = some (.bool (Nat.beq c 0)) := of_isBo2 (b := fun c => Nat.beq c 0) (x := fun c => eqP (.str (tr1 c)) (.str ".")) (by decide +kernel) h
theorem tr_ndot {c : Nat} (h : c < 4) : nePS (.str (tr1 c)) (.str ".") = some (.bool (!Nat.beq c 0)) := of_isBo2 (b := fun c => !Nat.beq c 0) (x := fun c => nePS (.str (tr1 c)) (.str ".")) (by decide +kernel) h
theorem tr_L {c : Nat} (h : c < 4) : eqP (.str (tr1 c)) (.str "L") = some (.bool (Nat.beq c 1)) := of_isBo2 (b := fun c => Nat.beq c 1) (x := fun c => eqP (.str (tr1 c)) (.str "L")) (by decide +kernel) h
theorem sg_P' {c : Nat} (h : c < 4) : eqP (.str (sg1 c)) (.str "P") = some (.bool (Nat.beq c 0)) := of_isBo2 (b := fun c => Nat.beq c 0) (x := fun c => eqP (.str (sg1 c)) (.str "P")) (by decide +kernel) h
theorem sg_N' {c : Nat} (h : c < 4) : eqP (.str (sg1 c)) (.str "-") = some (.bool (Nat.beq c 1)) := of_isBo2 (b := fun c => Nat.beq c 1) (x := fun c => eqP (.str (sg1 c)) (.str "-")) (by decide +kernel) h
theorem sg_nN {c : Nat} (h : c < 4) : nePS (.str (sg1 c)) (.str "-") = some (.bool (!Nat.beq c 1)) := of_isBo2 (b := fun c => !Nat.beq c 1) (x := fun c => nePS (.str (sg1 c)) (.str "-")) (by decide +kernel) h
/-! ### ranks -/
def rkD (c : Nat) : Nat := Nat.rec 2 (fun k _ => Nat.rec 1 (fun _ _ => 0) k) c
def rc (s : Nat) : Nat := pk (rkD (dg s 0)) (rkD (dg s 1)) (rkD (dg s 2)) (rkD (dg s 3))
theorem rkD_lt {c : Nat} (h : c < 4) : rkD c < 3 := by
  rcases lt4 h with rfl | rfl | rfl | rfl <;> decide
theorem rc_dg (s i : Nat) (h : i < 4) : dg (rc s) i = rkD (dg s i) := by
  have h' := fun j => Nat.lt_succ_of_lt (rkD_lt (dg_lt s j))
  obtain ⟨h0, h1, h2, h3, _⟩ := pk_dg (h' 0) (h' 1) (h' 2) (h' 3)
  rcases lt4 h with rfl | rfl | rfl | rfl
  · exact h0
  · exact h1
  · exact h2
  · exact h3
theorem rc_lt (s : Nat) : rc s < 256 := by
  have h' := fun j => Nat.lt_succ_of_lt (rkD_lt (dg_lt s j))
  exact (pk_dg (h' 0) (h' 1) (h' 2) (h' 3)).2.2.2.2
/-! ### lists of arms -/
def tb (m i : Nat) : Bool := Nat.beq (Nat.land (Nat.shiftRight m i) 1) 1
def bn (b : Bool) : Nat := cond b 1 0
def mk4 (b0 b1 b2 b3 : Bool) : Nat := Nat.add (bn b0) (Nat.add (Nat.mul 2 (bn b1)) (Nat.add (Nat.mul 4 (bn b2)) (Nat.mul 8 (bn b3))))
def l4 (b0 b1 b2 b3 : Bool) : List PyData := cond b0 [A 0] [] ++ (cond b1 [A 1] [] ++ (cond b2 [A 2] [] ++ cond b3 [A 3] []))
def lm (m : Nat) : List PyData := l4 (tb m 0) (tb m 1) (tb m 2) (tb m 3)
def LM (m : Nat) : PyData := .list (lm m)
theorem lm_mk4 (b0 b1 b2 b3 : Bool) : lm (mk4 b0 b1 b2 b3) = l4 b0 b1 b2 b3 := by
  cases b0 <;> cases b1 <;> cases b2 <;> cases b3 <;> rfl
theorem LM_mk4 (b0 b1 b2 b3 : Bool) : PyData.list (l4 b0 b1 b2 b3) = LM (mk4 b0 b1 b2 b3) := by
  unfold LM; rw [lm_mk4]
theorem tb_mk4 (b0 b1 b2 b3 : Bool) : tb (mk4 b0 b1 b2 b3) 0 = b0 ∧ tb (mk4 b0 b1 b2 b3) 1 = b1 ∧ tb (mk4 b0 b1 b2 b3) 2 = b2 ∧ tb (mk4 b0 b1 b2 b3) 3 = b3 ∧ mk4 b0 b1 b2 b3 < 16 := by
  cases b0 <;> cases b1 <;> cases b2 <;> cases b3 <;> decide
theorem mk4_tb {m : Nat} (h : m < 16) : mk4 (tb m 0) (tb m 1) (tb m 2) (tb m 3) = m := by
  have : ∀ m : Fin 16, mk4 (tb m 0) (tb m 1) (tb m 2) (tb m 3) = m := by decide
  exact this ⟨m, h⟩
theorem mem_l4 {b0 b1 b2 b3 : Bool} {d : PyData} (h : d ∈ l4 b0 b1 b2 b3) : ∃ i, i < 4 ∧ d = A i ∧ tb (mk4 b0 b1 b2 b3) i = true := by
  obtain ⟨e0, e1, e2, e3, _⟩ := tb_mk4 b0 b1 b2 b3
  simp only [l4, List.mem_append] at h
  rcases h with h | h | h | h
  · cases b0 with
    | false => cases h
    | true => exact ⟨0, by decide, List.mem_singleton.mp h, e0⟩
  · cases b1 with
    | false => cases h
    | true => exact ⟨1, by decide, List.mem_singleton.mp h, e1⟩
  · cases b2 with
    | false => cases h
    | true => exact ⟨2, by decide, List.mem_singleton.mp h, e2⟩
  · cases b3 with
    | false => cases h
    | true => exact ⟨3, by decide, List.mem_singleton.mp h, e3⟩
theorem mem_lm {m : Nat} (hm : m < 16) {d : PyData} (h : d ∈ lm m) : ∃ i, i < 4 ∧ d = A i ∧ tb m i = true := by
  obtain ⟨i, hi, e, hb⟩ := mem_l4 h
  rw [mk4_tb hm] at hb
  exact ⟨i, hi, e, hb⟩
theorem l4_len (b0 b1 b2 b3 : Bool) : (l4 b0 b1 b2 b3).length ≤ 4 := by
  cases b0 <;> cases b1 <;> cases b2 <;> cases b3 <;> decide
/-- a comprehension that keeps arms -/
theorem lc_range {g : DG} {t : DB} {f : DE} {ρ : List Sl} (r : Nat → List Sl) (b : Nat → Bool) (h : ∀ i, i < 4 → g (A i) ρ = some (r i) ∧ t (r i) = some (b i) ∧ (b i = true → f (r i) = some (A i))) :
    lcGo g t f ρ [A 0, A 1, A 2, A 3] = some (l4 (b 0) (b 1) (b 2) (b 3)) := by
  obtain ⟨a0, a1, a2⟩ := h 0 (by decide)
  obtain ⟨b0, b1, b2⟩ := h 1 (by decide)
  obtain ⟨c0, c1, c2⟩ := h 2 (by decide)
  obtain ⟨d0, d1, d2⟩ := h 3 (by decide)
  simp only [lcGo, a0, a1, b0, b1, c0, c1, d0, d1, Option.bind_some]
  revert a1 a2 b1 b2 c1 c2 d1 d2
  cases b 0 <;> cases b 1 <;> cases b 2 <;> cases b 3 <;> intro a1 a2 b1 b2 c1 c2 d1 d2 <;> simp_all [l4]
theorem lc_l4 {g : DG} {t : DB} {f : DE} {ρ : List Sl} (r : Nat → List Sl) (v b : Nat → Bool) (h : ∀ i, i < 4 → v i = true → g (A i) ρ = some (r i) ∧ t (r i) = some (b i) ∧ (b i = true → f (r i) = some (A i))) :
    lcGo g t f ρ (l4 (v 0) (v 1) (v 2) (v 3)) = some (l4 (v 0 && b 0) (v 1 && b 1) (v 2 && b 2) (v 3 && b 3)) := by
  have h0 := h 0 (by decide)
  have h1 := h 1 (by decide)
  have h2 := h 2 (by decide)
  have h3 := h 3 (by decide)
  clear h
  revert h0 h1 h2 h3
  cases v 0 <;> cases v 1 <;> cases v 2 <;> cases v 3 <;> intro h0 h1 h2 h3 <;>
    simp only [l4, cond, List.append_nil, List.nil_append, List.cons_append, lcGo, Bool.true_and, Bool.false_and] <;>
    simp only [forall_const, imp_self, false_imp_iff, Bool.false_eq_true] at h0 h1 h2 h3 <;> simp only [*, Option.bind_some]
  all_goals first | rfl | skip
  all_goals (repeat' split) <;> simp_all
/-! ### equality -/
theorem nePS_self {x : PyData} (h : SeqAt.shaped x = true) : nePS x x = some (.bool false) := by
  have hc := SeqAt.canLay_of_shaped h
  have e : nePS x x = neP x x := nePS.eq_2 x x (fun ds h1 h2 => by rw [h1] at h2; cases h2)
  rw [e, neP, h]
  simp [SeqAt.eqv_refl x hc]
theorem eqP_self {x : PyData} (h : SeqAt.shaped x = true) : eqP x x = some (.bool true) := by
  have hc := SeqAt.canLay_of_shaped h
  rw [eqP, h]
  simp [SeqAt.eqv_refl x hc]
theorem lm_shaped (m : Nat) : PyData.canLay0 (LM m) = true ∧ PyData.depth (LM m) ≤ 2 := by
  unfold LM lm
  generalize tb m 0 = a
  generalize tb m 1 = b
  generalize tb m 2 = c
  generalize tb m 3 = d
  cases a <;> cases b <;> cases c <;> cases d <;> decide
theorem LM_shaped (m : Nat) : SeqAt.shaped (LM m) = true := by
  have h := lm_shaped m
  unfold SeqAt.shaped
  rw [h.1, Bool.true_and]
  exact decide_eq_true (by omega)
theorem LMs_canLay : ∀ ms : List Nat, PyData.canLayAll0 (ms.map LM) = true ∧ PyData.depthAll (ms.map LM) ≤ 2
  | [] => by decide
  | m :: ms => by
    have h := lm_shaped m
    have k := LMs_canLay ms
    constructor
    · simp [PyData.canLayAll0, h.1, k.1]
    · simp only [List.map_cons, PyData.depthAll]
      omega
def LL (ms : List Nat) : PyData := .list (ms.map LM)
theorem LL_shaped (ms : List Nat) : SeqAt.shaped (LL ms) = true := by
  have h := LMs_canLay ms
  unfold LL SeqAt.shaped
  simp only [PyData.canLay0, h.1, Bool.true_and, PyData.depth]
  exact decide_eq_true (by omega)
theorem LM_eq2 : ∀ a b : Fin 16, isBo (Nat.beq a b) (eqP (LM a) (LM b)) = true := by decide +kernel
theorem LM_eq {a b : Nat} (ha : a < 16) (hb : b < 16) : eqP (LM a) (LM b) = some (.bool (Nat.beq a b)) := of_isBo (LM_eq2 ⟨a, ha⟩ ⟨b, hb⟩)
theorem LM_ne2 : ∀ a b : Fin 16, isBo (!Nat.beq a b) (nePS (LM a) (LM b)) = true := by decide +kernel
theorem LM_ne {a b : Nat} (ha : a < 16) (hb : b < 16) : nePS (LM a) (LM b) = some (.bool (!Nat.beq a b)) := of_isBo (LM_ne2 ⟨a, ha⟩ ⟨b, hb⟩)
theorem LM_nil : LM 0 = .list [] := rfl
theorem LM_in2 : ∀ (i : Fin 4) (a : Fin 16), isBo (tb a i) (inP (A i) (LM a)) = true := by decide +kernel
theorem LM_in {i a : Nat} (hi : i < 4) (ha : a < 16) : inP (A i) (LM a) = some (.bool (tb a i)) := of_isBo (LM_in2 ⟨i, hi⟩ ⟨a, ha⟩)
theorem A_eq2 : ∀ i j : Fin 16, isBo (Nat.beq i j) (eqP (A i) (A j)) = true := by decide +kernel
theorem A_eq {i j : Nat} (hi : i < 16) (hj : j < 16) : eqP (A i) (A j) = some (.bool (Nat.beq i j)) := of_isBo (A_eq2 ⟨i, hi⟩ ⟨j, hj⟩)
theorem A_ne2 : ∀ i j : Fin 16, isBo (!Nat.beq i j) (nePS (A i) (A j)) = true := by decide +kernel
theorem A_ne {i j : Nat} (hi : i < 16) (hj : j < 16) : nePS (A i) (A j) = some (.bool (!Nat.beq i j)) := of_isBo (A_ne2 ⟨i, hi⟩ ⟨j, hj⟩)
theorem A_gt2 : ∀ i j : Fin 16, isBo (Nat.blt j i) (gtP (A i) (A j)) = true := by decide +kernel
theorem A_gt {i j : Nat} (hi : i < 16) (hj : j < 16) : gtP (A i) (A j) = some (.bool (Nat.blt j i)) := of_isBo (A_gt2 ⟨i, hi⟩ ⟨j, hj⟩)
theorem range4 : rangeD 0 4 = [A 0, A 1, A 2, A 3] := rfl
/-! ### who waits -/
def nQ (c : Nat) : Nat := Nat.sub 4 c
def meetF (i j a b : Nat) : Bool :=
  let d := Nat.mod (Nat.sub (Nat.add i 4) j) 4
  cond (Nat.beq d 2 && (Nat.beq a 1 && Nat.beq b 1)) false
    (tb (cond (Nat.beq a 1) (cond (Nat.beq b 1) 15 (cond (Nat.beq b 2) 15 7)) (cond (Nat.beq a 2) (cond (Nat.beq b 1) 15 (cond (Nat.beq b 2) 11 3)) (cond (Nat.beq b 1) 13 (cond (Nat.beq b 2) 9 1)))) d)
def wF (i j a b p q : Nat) : Bool :=
  cond (Nat.beq a 0 || Nat.beq b 0) false (cond (Nat.beq i j) false (cond (meetF i j a b)
    (cond (Nat.beq p q) (cond (Nat.beq (Nat.mod (Nat.sub (Nat.add i 4) j) 4) 1) true (Nat.beq (Nat.mod (Nat.sub (Nat.add i 4) j) 4) 2 && Nat.beq a 1)) (Nat.blt p q)) false))
def vB (t i : Nat) : Bool := !Nat.beq (dg t i) 0
def wB (r t i j : Nat) : Bool := wF i j (dg t i) (dg t j) (dg r i) (dg r j)
def vm (t : Nat) : Nat := mk4 (vB t 0) (vB t 1) (vB t 2) (vB t 3)
def wm (r t i : Nat) : Nat := mk4 (wB r t i 0) (wB r t i 1) (wB r t i 2) (wB r t i 3)
def fB (r t i : Nat) : Bool := vB t i && Nat.beq (wm r t i) 0
def fm (r t : Nat) : Nat := mk4 (fB r t 0) (fB r t 1) (fB r t 2) (fB r t 3)
def dropT (t m : Nat) : Nat := pk (cond (tb m 0) 0 (dg t 0)) (cond (tb m 1) 0 (dg t 1)) (cond (tb m 2) 0 (dg t 2)) (cond (tb m 3) 0 (dg t 3))
def runG : Nat → Nat → Nat → List Nat × Nat
  | 0, _, t => ([], t)
  | n + 1, r, t => cond (Nat.beq (fm r t) 0) ([], t) (fm r t :: (runG n r (dropT t (fm r t))).1, (runG n r (dropT t (fm r t))).2)
def runM (r t : Nat) : List Nat × Nat := runG 4 r t
end DL
namespace DL
open PySem L2
theorem tr1_trC (a : Fin 4) : tr1 a = ⟨#[trC a]⟩ := by
  have h : ∀ a : Fin 4, tr1 a = ⟨#[trC a]⟩ := by decide
  exact h a
theorem join_tr {a b c d : Nat} (ha : a < 4) (hb : b < 4) (hc : c < 4) (hd : d < 4) : joinP (.str "") [.list [.str (tr1 a), .str (tr1 b), .str (tr1 c), .str (tr1 d)]] = some (.str (tS (pk a b c d))) := by
  have h := joinP4 join4T ⟨a, ha⟩ ⟨b, hb⟩ ⟨c, hc⟩ ⟨d, hd⟩
  rw [st4_tS, ← tr1_trC, ← tr1_trC, ← tr1_trC, ← tr1_trC] at h
  exact h
theorem lc_map4 {g : DG} {f : DE} {ρ r0 r1 r2 r3 : List Sl} {x0 x1 x2 x3 y0 y1 y2 y3 : PyData} (g0 : g x0 ρ = some r0) (g1 : g x1 ρ = some r1) (g2 : g x2 ρ = some r2) (g3 : g x3 ρ = some r3) (f0 : f r0 = some y0) (f1 : f r1 = some y1) (f2 : f r2 = some y2) (f3 : f r3 = some y3) :
    lcGo g tYesD f ρ [x0, x1, x2, x3] = some [y0, y1, y2, y3] := by
  simp only [lcGo, g0, g1, g2, g3, f0, f1, f2, f3, Option.bind_some, tYesD, if_true, Option.map_some]
theorem enum_tS (t : Nat) : enumD 0 (signs (tS t)) = [.tuple [A 0, .str (tr1 (dg t 0))], .tuple [A 1, .str (tr1 (dg t 1))], .tuple [A 2, .str (tr1 (dg t 2))], .tuple [A 3, .str (tr1 (dg t 3))]] := rfl
theorem cond_lt {b : Bool} {c : Nat} (h : c < 4) : cond b 0 c < 4 := by cases b <;> simp [h]
theorem dropT_lt (t m : Nat) : dropT t m < 256 := (pk_dg (cond_lt (dg_lt t 0)) (cond_lt (dg_lt t 1)) (cond_lt (dg_lt t 2)) (cond_lt (dg_lt t 3))).2.2.2.2
def cnt (t : Nat) : Nat := Nat.add (bn (vB t 0)) (Nat.add (bn (vB t 1)) (Nat.add (bn (vB t 2)) (bn (vB t 3))))
theorem drop_fin : allB 256 (fun t => allB 16 fun m => cond (Nat.beq m 0) true (cond (cond (tb m 0) (vB t 0) true && (cond (tb m 1) (vB t 1) true && (cond (tb m 2) (vB t 2) true && cond (tb m 3) (vB t 3) true))) (Nat.blt (cnt (dropT t m)) (cnt t)) true)) = true := by decide +kernel
theorem mk4_lt (b0 b1 b2 b3 : Bool) : mk4 b0 b1 b2 b3 < 16 := (tb_mk4 b0 b1 b2 b3).2.2.2.2
theorem wm_lt (r t i : Nat) : wm r t i < 16 := mk4_lt _ _ _ _
theorem fm_lt (r t : Nat) : fm r t < 16 := mk4_lt _ _ _ _
theorem vm_lt (t : Nat) : vm t < 16 := mk4_lt _ _ _ _
theorem cnt_drop {r t : Nat} (ht : t < 256) (h : Nat.beq (fm r t) 0 = false) : cnt (dropT t (fm r t)) < cnt t := by
  have k := allB_all (allB_all drop_fin t ht) (fm r t) (fm_lt r t)
  have e := tb_mk4 (fB r t 0) (fB r t 1) (fB r t 2) (fB r t 3)
  rw [h, cond_false] at k
  unfold fm at k
  rw [e.1, e.2.1, e.2.2.1, e.2.2.2.1] at k
  have z : ∀ i, cond (fB r t i) (vB t i) true = true := fun i => by
    unfold fB
    cases vB t i <;> simp
  rw [z, z, z, z] at k
  exact Nat.blt_eq.mp k
theorem cnt_le (t : Nat) : cnt t ≤ 4 := by
  unfold cnt
  cases vB t 0 <;> cases vB t 1 <;> cases vB t 2 <;> cases vB t 3 <;> decide
theorem cnt_zero {r t : Nat} (h : cnt t ≤ 0) : fm r t = 0 := by
  unfold cnt at h
  unfold fm fB
  revert h
  cases vB t 0 <;> cases vB t 1 <;> cases vB t 2 <;> cases vB t 3 <;> intro h <;> first | rfl | exact absurd h (by decide)
theorem runG_lt : ∀ (n r t : Nat), t < 256 → (runG n r t).2 < 256
  | 0, _, _, h => h
  | n + 1, r, t, h => by
    unfold runG
    cases Nat.beq (fm r t) 0 with
    | true => exact h
    | false => exact runG_lt n r _ (dropT_lt t (fm r t))
theorem runG_len : ∀ (n r t : Nat), (runG n r t).1.length ≤ n
  | 0, _, _ => Nat.le_refl 0
  | n + 1, r, t => by
    unfold runG
    cases Nat.beq (fm r t) 0 with
    | true => exact Nat.zero_le _
    | false => exact Nat.succ_le_succ (runG_len n r _)
theorem subA (i j : Nat) : subP (A i) (A j) = some (.int ((i : Int) - j)) := rfl
theorem eqI (i j : Int) : eqP (.int i) (.int j) = some (.bool (i == j)) := by
  unfold eqP
  rw [if_pos (by simp [SeqAt.shaped, PyData.canLay0, PyData.depth])]
  simp [PyData.eqv]
theorem mod4 (x : Int) : modP (.int x) (.int 4) = some (.int (x % 4)) := modP_eq (by decide)
theorem mod2 (x : Int) : modP (.int x) (.int 2) = some (.int (x % 2)) := modP_eq (by decide)
def isN : Option PyData → Bool
  | some .none => true
  | _ => false
theorem of_isN {x : Option PyData} (h : isN x = true) : x = some .none := by
  unfold isN at h
  split at h
  · rfl
  · cases h
theorem items_vm (t : Nat) : items (LM (vm t)) = some (l4 (vB t 0) (vB t 1) (vB t 2) (vB t 3)) := by
  show some (lm (vm t)) = _
  unfold vm
  rw [lm_mk4]
theorem wait_fin : allB 4 (fun i => allB 4 fun j => allB 4 fun a => allB 4 fun b => allB 3 fun p => allB 3 fun q => cond (Nat.beq a 0 || Nat.beq b 0) true (cond (Nat.beq i j) (Bool.not (wF i j a b p q)) (cond (meetF i j a b) (cond (Nat.beq p q) (wF i j a b p q == (cond (((i : Int) - j) % 4 == 1) true (cond (((i : Int) - j) % 2 == 0) (Nat.beq a 1) false))) (wF i j a b p q == Nat.blt p q)) (Bool.not (wF i j a b p q))))) = true := by decide +kernel
end DL

namespace DL
open PySem L2
theorem forGo_l4 {g : DG} {F : DS} {P : List PyData → List Sl → Prop} (v b : Nat → Bool) (N : Nat) (h : ∀ i, i < 4 → v i = true → ∀ xs ρ, xs.length ≤ N + 3 → P xs ρ → ∃ ρ1 ρ', g (A i) ρ = some ρ1 ∧ F ρ1 = some (.nx ρ') ∧ P (xs ++ cond (b i) [A i] []) ρ') {xs : List PyData} {ρ : List Sl} (hN : xs.length ≤ N) (p : P xs ρ) :
    ∃ ρ', forGo g F (l4 (v 0) (v 1) (v 2) (v 3)) ρ = some (.nx ρ') ∧ P (xs ++ l4 (v 0 && b 0) (v 1 && b 1) (v 2 && b 2) (v 3 && b 3)) ρ' := by
  have step : ∀ (is : List Nat) (xs : List PyData) (ρ : List Sl), (∀ i ∈ is, i < 4) → xs.length + is.length ≤ N + 4 → P xs ρ → ∃ ρ', forGo g F (is.flatMap fun i => cond (v i) [A i] []) ρ = some (.nx ρ') ∧ P (xs ++ is.flatMap fun i => cond (v i && b i) [A i] []) ρ' := by
    intro is
    induction is with
    | nil => intro xs ρ _ _ p; exact ⟨ρ, rfl, by simpa using p⟩
    | cons i is ih =>
      intro xs ρ hi hl p
      rw [List.length_cons] at hl
      have ih' := fun xs ρ l p => ih xs ρ (fun j hj => hi j (List.mem_cons_of_mem _ hj)) l p
      cases hv : v i with
      | false =>
        obtain ⟨ρ', h1, h2⟩ := ih' xs ρ (by omega) p
        refine ⟨ρ', ?_, ?_⟩
        · simpa [hv] using h1
        · simpa [hv] using h2
      | true =>
        obtain ⟨ρ1, ρ2, g1, f1, p2⟩ := h i (hi i List.mem_cons_self) hv xs ρ (by omega) p
        obtain ⟨ρ', h1, h2⟩ := ih' _ ρ2 (by cases b i <;> simp <;> omega) p2
        refine ⟨ρ', ?_, ?_⟩
        · simp only [List.flatMap_cons, hv, cond_true, List.cons_append, List.nil_append, forGo, g1, f1, Option.bind_some]
          exact h1
        · simpa [hv] using h2
  have e : ∀ w : Nat → Bool, [0, 1, 2, 3].flatMap (fun i => cond (w i) [A i] []) = l4 (w 0) (w 1) (w 2) (w 3) := fun w => by simp [l4]
  have k := step [0, 1, 2, 3] xs ρ (by decide) (by simp; omega) p
  rw [e v, e fun i => v i && b i] at k
  exact k
theorem lc_mapM {g : DG} {f : DE} {ρ : List Sl} (r : PyData → List Sl) (h : PyData → PyData) : ∀ (ds : List PyData), (∀ d ∈ ds, g d ρ = some (r d) ∧ f (r d) = some (h d)) → lcGo g tYesD f ρ ds = some (ds.map h)
  | [], _ => rfl
  | d :: ds, k => by
    obtain ⟨a, b⟩ := k d List.mem_cons_self
    simp only [lcGo, a, b, Option.bind_some, tYesD, if_true, lc_mapM r h ds (fun d hd => k d (List.mem_cons_of_mem _ hd)), Option.map_some, List.map_cons]
theorem nePB (a b : Bool) : nePS (.bool a) (.bool b) = some (.bool (!(a == b))) := by
  cases a <;> cases b <;> rfl
theorem eqPB (a b : Bool) : eqP (.bool a) (.bool b) = some (.bool (a == b)) := by
  cases a <;> cases b <;> rfl
/-! ### turned by one arm -/
def rot (t : Nat) : Nat := pk (dg t 3) (dg t 0) (dg t 1) (dg t 2)
def rotm (m : Nat) : Nat := mk4 (tb m 3) (tb m 0) (tb m 1) (tb m 2)
theorem rot_lt (t : Nat) : rot t < 256 := (pk_dg (dg_lt t 3) (dg_lt t 0) (dg_lt t 1) (dg_lt t 2)).2.2.2.2
theorem rot_dg (t : Nat) : dg (rot t) 0 = dg t 3 ∧ dg (rot t) 1 = dg t 0 ∧ dg (rot t) 2 = dg t 1 ∧ dg (rot t) 3 = dg t 2 := by
  have h := pk_dg (dg_lt t 3) (dg_lt t 0) (dg_lt t 1) (dg_lt t 2)
  exact ⟨h.1, h.2.1, h.2.2.1, h.2.2.2.1⟩
theorem rc_rot (s : Nat) : rc (rot s) = rot (rc s) := by
  have h := rot_dg s
  unfold rc
  rw [h.1, h.2.1, h.2.2.1, h.2.2.2]
  have h' := fun j => Nat.lt_succ_of_lt (rkD_lt (dg_lt s j))
  obtain ⟨e0, e1, e2, e3, _⟩ := pk_dg (h' 0) (h' 1) (h' 2) (h' 3)
  unfold rot
  rw [e0, e1, e2, e3]
theorem wF_fin : allB 4 (fun i => allB 4 fun j => allB 4 fun a => allB 4 fun b => allB 4 fun p => allB 4 fun q => wF (Nat.mod (Nat.add i 1) 4) (Nat.mod (Nat.add j 1) 4) a b p q == wF i j a b p q) = true := by decide +kernel
theorem wF_rot {i j a b p q : Nat} (hi : i < 4) (hj : j < 4) (ha : a < 4) (hb : b < 4) (hp : p < 4) (hq : q < 4) : wF (Nat.mod (Nat.add i 1) 4) (Nat.mod (Nat.add j 1) 4) a b p q = wF i j a b p q :=
  eq_of_beq (allB_all (allB_all (allB_all (allB_all (allB_all (allB_all wF_fin i hi) j hj) a ha) b hb) p hp) q hq)
theorem dg_rot (t : Nat) {i : Nat} (hi : i < 4) : dg (rot t) (Nat.mod (Nat.add i 1) 4) = dg t i := by
  have h := rot_dg t
  rcases lt4 hi with rfl | rfl | rfl | rfl
  · exact h.2.1
  · exact h.2.2.1
  · exact h.2.2.2
  · exact h.1
theorem wB_rot (r t : Nat) {i j : Nat} (hi : i < 4) (hj : j < 4) : wB (rot r) (rot t) (Nat.mod (Nat.add i 1) 4) (Nat.mod (Nat.add j 1) 4) = wB r t i j := by
  unfold wB
  rw [dg_rot t hi, dg_rot t hj, dg_rot r hi, dg_rot r hj]
  exact wF_rot hi hj (dg_lt _ _) (dg_lt _ _) (dg_lt _ _) (dg_lt _ _)
theorem wm_rot (r t : Nat) {i : Nat} (hi : i < 4) : wm (rot r) (rot t) (Nat.mod (Nat.add i 1) 4) = rotm (wm r t i) := by
  have h := fun j (hj : j < 4) => wB_rot r t hi hj
  have e := tb_mk4 (wB r t i 0) (wB r t i 1) (wB r t i 2) (wB r t i 3)
  have h0 := h 0 (by decide)
  have h1 := h 1 (by decide)
  have h2 := h 2 (by decide)
  have h3 := h 3 (by decide)
  unfold rotm wm
  rw [e.1, e.2.1, e.2.2.1, e.2.2.2.1, ← h0, ← h1, ← h2, ← h3]
theorem rotm_zero {m : Nat} (h : m < 16) : Nat.beq (rotm m) 0 = Nat.beq m 0 := by
  have k : ∀ m : Fin 16, Nat.beq (rotm m) 0 = Nat.beq m 0 := by decide
  exact k ⟨m, h⟩
theorem vB_rot (t : Nat) {i : Nat} (hi : i < 4) : vB (rot t) (Nat.mod (Nat.add i 1) 4) = vB t i := by
  unfold vB
  rw [dg_rot t hi]
theorem fB_rot (r t : Nat) {i : Nat} (hi : i < 4) : fB (rot r) (rot t) (Nat.mod (Nat.add i 1) 4) = fB r t i := by
  unfold fB
  rw [vB_rot t hi, wm_rot r t hi, rotm_zero (wm_lt r t i)]
theorem fm_rot (r t : Nat) : fm (rot r) (rot t) = rotm (fm r t) := by
  have e := tb_mk4 (fB r t 0) (fB r t 1) (fB r t 2) (fB r t 3)
  have h0 := fB_rot r t (i := 0) (by decide)
  have h1 := fB_rot r t (i := 1) (by decide)
  have h2 := fB_rot r t (i := 2) (by decide)
  have h3 := fB_rot r t (i := 3) (by decide)
  unfold rotm fm
  rw [e.1, e.2.1, e.2.2.1, e.2.2.2.1, ← h0, ← h1, ← h2, ← h3]
theorem drop_rot (t m : Nat) : dropT (rot t) (rotm m) = rot (dropT t m) := by
  have h := rot_dg t
  have e := tb_mk4 (tb m 3) (tb m 0) (tb m 1) (tb m 2)
  have k := pk_dg (cond_lt (b := tb m 0) (dg_lt t 0)) (cond_lt (b := tb m 1) (dg_lt t 1)) (cond_lt (b := tb m 2) (dg_lt t 2)) (cond_lt (b := tb m 3) (dg_lt t 3))
  unfold dropT rotm
  rw [e.1, e.2.1, e.2.2.1, e.2.2.2.1, h.1, h.2.1, h.2.2.1, h.2.2.2]
  unfold rot
  rw [k.1, k.2.1, k.2.2.1, k.2.2.2.1]
theorem runG_rot : ∀ (n r t : Nat), (runG n (rot r) (rot t)).1 = (runG n r t).1.map rotm ∧ (runG n (rot r) (rot t)).2 = rot (runG n r t).2
  | 0, _, _ => ⟨rfl, rfl⟩
  | n + 1, r, t => by
    unfold runG
    rw [fm_rot, rotm_zero (fm_lt r t)]
    cases Nat.beq (fm r t) 0 with
    | true => exact ⟨rfl, rfl⟩
    | false =>
      have ih := runG_rot n r (dropT t (fm r t))
      rw [drop_rot]
      exact ⟨by rw [cond_false, cond_false, List.map_cons, ih.1], by rw [cond_false, cond_false]; exact ih.2⟩
theorem runM_rot (r t : Nat) : (runM (rot r) (rot t)).1 = (runM r t).1.map rotm := (runG_rot 4 r t).1
def isS (z : Str) : Option PyData → Bool
  | some (.str y) => decide (y = z)
  | _ => false
theorem of_isS {z : Str} {x : Option PyData} (h : isS z x = true) : x = some (.str z) := by
  unfold isS at h
  split at h
  · rw [of_decide_eq_true h]
  · cases h
theorem turn_tS {t : Nat} (ht : t < 256) : (ixP (.str (tS t)) (.int (-1))).bind (fun x => (slP (.str (tS t)) none (some (-1))).bind fun y => addP x y) = some (.str (tS (rot t))) :=
  of_isS (allB_all (p := fun t => isS (tS (rot t)) ((ixP (.str (tS t)) (.int (-1))).bind (fun x => (slP (.str (tS t)) none (some (-1))).bind fun y => addP x y))) (by decide +kernel : allB 256 _ = true) t ht)
theorem turn_sS {t : Nat} (ht : t < 256) : (ixP (.str (sS t)) (.int (-1))).bind (fun x => (slP (.str (sS t)) none (some (-1))).bind fun y => addP x y) = some (.str (sS (rot t))) :=
  of_isS (allB_all (p := fun t => isS (sS (rot t)) ((ixP (.str (sS t)) (.int (-1))).bind (fun x => (slP (.str (sS t)) none (some (-1))).bind fun y => addP x y))) (by decide +kernel : allB 256 _ = true) t ht)
/-! ### where the runs end, nobody is free -/
theorem runG_end : ∀ (n r t : Nat), t < 256 → cnt t ≤ n → fm r (runG n r t).2 = 0
  | 0, r, t, _, h => cnt_zero h
  | n + 1, r, t, ht, h => by
    unfold runG
    cases k : Nat.beq (fm r t) 0 with
    | true => exact Nat.eq_of_beq_eq_true k
    | false => exact runG_end n r _ (dropT_lt _ _) (by have := cnt_drop ht k; omega)
theorem runM_end (r : Nat) {t : Nat} (ht : t < 256) : fm r (runM r t).2 = 0 := runG_end 4 r t ht (cnt_le t)
/-- the lowest arm of a mask -/
def lo (m : Nat) : Nat := cond (tb m 0) 0 (cond (tb m 1) 1 (cond (tb m 2) 2 3))
theorem lo_lt (m : Nat) : lo m < 4 := by
  unfold lo
  cases tb m 0 <;> cases tb m 1 <;> cases tb m 2 <;> decide
def isA (i : Nat) (x : Option PyData) : Bool := isI (i : Nat) x
theorem ix0_fin : ∀ m : Fin 16, cond (Nat.beq m 0) true (isI (lo m : Nat) (ixP (LM m) (.int 0))) = true := by decide +kernel
theorem ix0 {m : Nat} (h : m < 16) (z : Nat.beq m 0 = false) : ixP (LM m) (.int 0) = some (A (lo m)) := by
  have k := ix0_fin ⟨m, h⟩
  rw [z, cond_false] at k
  exact of_isI k
def hiA (m : Nat) : Nat := cond (tb m 3) 3 (cond (tb m 2) 2 (cond (tb m 1) 1 0))
theorem hiA_lt (m : Nat) : hiA m < 4 := by
  unfold hiA
  cases tb m 3 <;> cases tb m 2 <;> cases tb m 1 <;> decide
theorem ixm_fin : ∀ m : Fin 16, cond (Nat.beq m 0) true (isI (hiA m : Nat) (ixP (LM m) (.int (-1)))) = true := by decide +kernel
theorem ixm {m : Nat} (h : m < 16) (z : Nat.beq m 0 = false) : ixP (LM m) (.int (-1)) = some (A (hiA m)) := by
  have k := ixm_fin ⟨m, h⟩
  rw [z, cond_false] at k
  exact of_isI k
theorem tb_wm (r t i : Nat) {j : Nat} (hj : j < 4) : tb (wm r t i) j = wB r t i j := by
  have e := tb_mk4 (wB r t i 0) (wB r t i 1) (wB r t i 2) (wB r t i 3)
  rcases lt4 hj with rfl | rfl | rfl | rfl
  · exact e.1
  · exact e.2.1
  · exact e.2.2.1
  · exact e.2.2.2.1
theorem tb_vm (t : Nat) {j : Nat} (hj : j < 4) : tb (vm t) j = vB t j := by
  have e := tb_mk4 (vB t 0) (vB t 1) (vB t 2) (vB t 3)
  rcases lt4 hj with rfl | rfl | rfl | rfl
  · exact e.1
  · exact e.2.1
  · exact e.2.2.1
  · exact e.2.2.2.1
theorem tb_lo {m : Nat} (h : m < 16) (z : Nat.beq m 0 = false) : tb m (lo m) = true := by
  have k : ∀ m : Fin 16, Nat.beq m 0 = false → tb m (lo m) = true := by decide
  exact k ⟨m, h⟩ z
theorem vm_ne {t i : Nat} (hi : i < 4) (v : vB t i = true) : Nat.beq (vm t) 0 = false := by
  cases h : Nat.beq (vm t) 0 with
  | false => rfl
  | true =>
    have e := tb_vm t hi
    rw [Nat.eq_of_beq_eq_true h, v] at e
    rcases lt4 hi with rfl | rfl | rfl | rfl <;> cases e
theorem wB_v {r t i j : Nat} (h : wB r t i j = true) : vB t j = true := by
  unfold wB wF at h
  unfold vB
  cases k : Nat.beq (dg t j) 0 with
  | false => rfl
  | true => rw [k] at h; simp at h
/-! ### going from waiter to waited-for -/
def nx (r t i : Nat) : Nat := lo (wm r t i)
def it (f : Nat → Nat) : Nat → Nat → Nat
  | 0, x => x
  | k + 1, x => it f k (f x)
theorem it_fin : allB 256 (fun n => allB 4 fun x => Nat.beq (it (dg n) 17 x) (it (dg n) 5 x)) = true := by decide +kernel
theorem it_succ (f : Nat → Nat) : ∀ k x, it f (k + 1) x = f (it f k x)
  | 0, _ => rfl
  | k + 1, x => it_succ f k (f x)
theorem it_lt (f : Nat → Nat) (h : ∀ i, f i < 4) : ∀ k x, x < 4 → it f k x < 4
  | 0, _, h => h
  | k + 1, x, _ => it_lt f h k (f x) (h x)
theorem it_eq (f g : Nat → Nat) (hf : ∀ i, f i < 4) (h : ∀ i, i < 4 → f i = g i) : ∀ k x, x < 4 → it f k x = it g k x
  | 0, _, _ => rfl
  | k + 1, x, hx => by rw [it, it, ← h x hx]; exact it_eq f g hf h k (f x) (hf x)
theorem it_back (f : Nat → Nat) (hf : ∀ i, f i < 4) {x : Nat} (hx : x < 4) : it f 17 x = it f 5 x := by
  have h := pk_dg (hf 0) (hf 1) (hf 2) (hf 3)
  have e : ∀ i, i < 4 → f i = dg (pk (f 0) (f 1) (f 2) (f 3)) i := fun i hi => by
    rcases lt4 hi with rfl | rfl | rfl | rfl
    · exact h.1.symm
    · exact h.2.1.symm
    · exact h.2.2.1.symm
    · exact h.2.2.2.1.symm
  rw [it_eq f _ hf e 17 x hx, it_eq f _ hf e 5 x hx]
  exact Nat.eq_of_beq_eq_true (allB_all (allB_all it_fin _ h.2.2.2.2) x hx)
theorem wF_le_fin : allB 4 (fun i => allB 4 fun j => allB 4 fun a => allB 4 fun b => allB 4 fun p => allB 4 fun q => cond (wF i j a b p q) (Nat.ble p q) true) = true := by decide +kernel
theorem wB_le {r t i j : Nat} (hi : i < 4) (hj : j < 4) (h : wB r t i j = true) : dg r i ≤ dg r j := by
  have k := allB_all (allB_all (allB_all (allB_all (allB_all (allB_all wF_le_fin i hi) j hj) _ (dg_lt t i)) _ (dg_lt t j)) _ (dg_lt r i)) _ (dg_lt r j)
  unfold wB at h
  rw [h, cond_true] at k
  exact Nat.le_of_ble_eq_true k
theorem fm_bit {r t : Nat} (h : fm r t = 0) {i : Nat} (hi : i < 4) : fB r t i = false := by
  have e := tb_mk4 (fB r t 0) (fB r t 1) (fB r t 2) (fB r t 3)
  have z : ∀ k, k < 4 → tb 0 k = false := fun k hk => by rcases lt4 hk with rfl | rfl | rfl | rfl <;> rfl
  rw [show mk4 (fB r t 0) (fB r t 1) (fB r t 2) (fB r t 3) = 0 from h] at e
  rcases lt4 hi with rfl | rfl | rfl | rfl
  · rw [← e.1]; rfl
  · rw [← e.2.1]; rfl
  · rw [← e.2.2.1]; rfl
  · rw [← e.2.2.2.1]; rfl
theorem wm_pos {r t : Nat} (h : fm r t = 0) {i : Nat} (hi : i < 4) (v : vB t i = true) : Nat.beq (wm r t i) 0 = false := by
  have k := fm_bit h hi
  unfold fB at k
  rw [v, Bool.true_and] at k
  exact k
theorem nx_w {r t : Nat} (h : fm r t = 0) {i : Nat} (hi : i < 4) (v : vB t i = true) : wB r t i (nx r t i) = true := by
  rw [← tb_wm r t i (j := nx r t i) (lo_lt _)]
  exact tb_lo (wm_lt r t i) (wm_pos h hi v)
theorem nx_lt (r t i : Nat) : nx r t i < 4 := lo_lt _
theorem it_v {r t : Nat} (h : fm r t = 0) : ∀ (k x : Nat), x < 4 → vB t x = true → vB t (it (nx r t) k x) = true
  | 0, _, _, v => v
  | k + 1, x, hx, v => it_v h k (nx r t x) (nx_lt r t x) (wB_v (nx_w h hx v))
theorem it_le {r t : Nat} (h : fm r t = 0) {x : Nat} (hx : x < 4) (v : vB t x = true) (k : Nat) : dg r (it (nx r t) k x) ≤ dg r (it (nx r t) (k + 1) x) := by
  rw [it_succ]
  exact wB_le (it_lt _ (nx_lt r t) k x hx) (nx_lt r t _) (nx_w h (it_lt _ (nx_lt r t) k x hx) (it_v h k x hx v))
theorem ring_eq {r t : Nat} (h : fm r t = 0) {x : Nat} (hx : x < 4) (v : vB t x = true) : dg r (it (nx r t) 6 x) = dg r (it (nx r t) 5 x) ∧ dg r (it (nx r t) 7 x) = dg r (it (nx r t) 5 x) ∧ dg r (it (nx r t) 8 x) = dg r (it (nx r t) 5 x) := by
  have l := it_le h hx v
  have e := it_back (nx r t) (nx_lt r t) hx
  have l5 : dg r (it (nx r t) 5 x) ≤ dg r (it (nx r t) 6 x) := l 5
  have l6 : dg r (it (nx r t) 6 x) ≤ dg r (it (nx r t) 7 x) := l 6
  have l7 : dg r (it (nx r t) 7 x) ≤ dg r (it (nx r t) 8 x) := l 7
  have l8 : dg r (it (nx r t) 8 x) ≤ dg r (it (nx r t) 9 x) := l 8
  have l9 : dg r (it (nx r t) 9 x) ≤ dg r (it (nx r t) 10 x) := l 9
  have l10 : dg r (it (nx r t) 10 x) ≤ dg r (it (nx r t) 11 x) := l 10
  have l11 : dg r (it (nx r t) 11 x) ≤ dg r (it (nx r t) 12 x) := l 11
  have l12 : dg r (it (nx r t) 12 x) ≤ dg r (it (nx r t) 13 x) := l 12
  have l13 : dg r (it (nx r t) 13 x) ≤ dg r (it (nx r t) 14 x) := l 13
  have l14 : dg r (it (nx r t) 14 x) ≤ dg r (it (nx r t) 15 x) := l 14
  have l15 : dg r (it (nx r t) 15 x) ≤ dg r (it (nx r t) 16 x) := l 15
  have l16 : dg r (it (nx r t) 16 x) ≤ dg r (it (nx r t) 17 x) := l 16
  rw [e] at l16
  omega
end DL

namespace DL
open PySem L2
/-! ### all traffic, in the order of the alphabet -/
def TL : List Nat := [0, 1, 3, 2].flatMap fun a => [0, 1, 3, 2].flatMap fun b => [0, 1, 3, 2].flatMap fun c => [0, 1, 3, 2].map fun d => pk a b c d
def tD1 (t : Nat) : PyData := .str (tS t)
theorem TL_fin : (TL.all fun t => Nat.blt t 256) = true := by decide +kernel
theorem TL_lt {t : Nat} (h : t ∈ TL) : t < 256 := Nat.blt_eq.mp (List.all_eq_true.mp TL_fin t h)
theorem TL_len : TL.length = 256 := by decide +kernel
theorem lc_fm {g : DG} {t : DB} {f : DE} {ρ : List Sl} (e : Nat → PyData) (R : Nat → List Sl) (p : Nat → Bool) (h : Nat → PyData) : ∀ (ts : List Nat), (∀ x ∈ ts, g (e x) ρ = some (R x) ∧ t (R x) = some (p x) ∧ (p x = true → f (R x) = some (h x))) → lcGo g t f ρ (ts.map e) = some ((ts.filter p).map h)
  | [], _ => rfl
  | x :: ts, k => by
    obtain ⟨a, b, c⟩ := k x List.mem_cons_self
    have ih := lc_fm e R p h ts (fun y hy => k y (List.mem_cons_of_mem _ hy))
    simp only [List.map_cons, lcGo, a, b, Option.bind_some, ih]
    cases hp : p x with
    | false => simp [List.filter, hp]
    | true => simp [List.filter, hp, c hp]
/-- a loop, by what it has passed -/
theorem forGo_pre {g : DG} {F : DS} {P : List Nat → List Sl → Prop} (e : Nat → PyData) (N : Nat) : ∀ (ts pre : List Nat) (ρ : List Sl), pre.length + ts.length ≤ N → (∀ x ∈ ts, ∀ pre ρ, pre.length < N → P pre ρ → ∃ ρ1 ρ', g (e x) ρ = some ρ1 ∧ F ρ1 = some (.nx ρ') ∧ P (pre ++ [x]) ρ') → P pre ρ → ∃ ρ', forGo g F (ts.map e) ρ = some (.nx ρ') ∧ P (pre ++ ts) ρ'
  | [], pre, ρ, _, _, p => ⟨ρ, rfl, by simpa using p⟩
  | x :: ts, pre, ρ, l, h, p => by
    rw [List.length_cons] at l
    obtain ⟨ρ1, ρ2, h1, h2, p2⟩ := h x List.mem_cons_self pre ρ (by omega) p
    obtain ⟨ρ3, h3, p3⟩ := forGo_pre e N ts (pre ++ [x]) ρ2 (by simp; omega) (fun y hy => h y (List.mem_cons_of_mem _ hy)) p2
    refine ⟨ρ3, ?_, by simpa using p3⟩
    simp only [List.map_cons, forGo, h1, h2, Option.bind_some]
    exact h3
/-- a loop that returns at the first that it finds -/
theorem forGo_any {g : DG} {F : DS} {P : List Sl → Prop} (e : Nat → PyData) (b : Nat → Bool) (z : Nat → PyData) : ∀ (ts : List Nat) (ρ : List Sl), (∀ x ∈ ts, ∀ ρ, P ρ → ∃ ρ1 ρ', g (e x) ρ = some ρ1 ∧ F ρ1 = cond (b x) (some (.rt (z x))) (some (.nx ρ')) ∧ P ρ') → P ρ → ∃ ρ', P ρ' ∧ forGo g F (ts.map e) ρ = some (match ts.find? b with | some x => .rt (z x) | none => .nx ρ')
  | [], ρ, _, p => ⟨ρ, p, rfl⟩
  | x :: ts, ρ, h, p => by
    obtain ⟨ρ1, ρ2, h1, h2, p2⟩ := h x List.mem_cons_self ρ p
    obtain ⟨ρ3, p3, h3⟩ := forGo_any e b z ts ρ2 (fun y hy => h y (List.mem_cons_of_mem _ hy)) p2
    refine ⟨ρ3, p3, ?_⟩
    simp only [List.map_cons, forGo, h1, h2, Option.bind_some]
    cases hb : b x with
    | true => simp [List.find?, hb]
    | false => simp only [cond_false, Option.bind_some, List.find?, hb]; exact h3
theorem vm_zero_fin : allB 256 (fun t => Nat.beq (vm t) 0 == Nat.beq t 0) = true := by decide +kernel
theorem vm_zero {t : Nat} (h : t < 256) : Nat.beq (vm t) 0 = Nat.beq t 0 := eq_of_beq (allB_all vm_zero_fin t h)
theorem dots_fin : allB 256 (fun t => isBo (!Nat.beq t 0) (nePS (.str (tS t)) (.str "...."))) = true := by decide +kernel
theorem dots {t : Nat} (h : t < 256) : nePS (.str (tS t)) (.str "....") = some (.bool (!Nat.beq t 0)) := of_isBo (allB_all dots_fin t h)
/-- nobody is left -/
def okM (r t : Nat) : Bool := Nat.beq (runM r t).2 0
theorem LM_ne0 {m : Nat} (h : m < 16) : nePS (LM m) (.list []) = some (.bool (!Nat.beq m 0)) := LM_ne (b := 0) h (by decide)
theorem LM_eq0 {m : Nat} (h : m < 16) : eqP (LM m) (.list []) = some (.bool (Nat.beq m 0)) := LM_eq (b := 0) h (by decide)
/-! ### lists of numbers and texts -/
theorem asInts_A {α : Type} (f : α → Nat) : ∀ xs : List α, asInts (xs.map fun x => A (f x)) = some (xs.map fun x => (f x : Int))
  | [] => rfl
  | x :: xs => by
    have ih := asInts_A f xs
    simp only [List.map_cons]
    show (asInts (xs.map fun x => A (f x))).map (((f x : Nat) : Int) :: ·) = _
    rw [ih]
    rfl
theorem mmOk_of {ds : List PyData} (h1 : ∀ d ∈ ds, ∀ e ∈ ds, W.alike d e = true) (h2 : ∀ d ∈ ds, d ≠ .none) (h3 : ∀ d ∈ ds, d.depth ≤ 50 ∧ noLk d = true) : mmOk ds = true := by
  have d50 : ∀ ds : List PyData, (∀ d ∈ ds, d.depth ≤ 50 ∧ noLk d = true) → PyData.depthAll ds ≤ 50 ∧ noLkAll ds = true := by
    intro ds
    induction ds with
    | nil => intro _; exact ⟨by simp [PyData.depthAll], by simp [noLkAll]⟩
    | cons d ds ih =>
      intro h
      have a := h d List.mem_cons_self
      have b := ih (fun e he => h e (List.mem_cons_of_mem _ he))
      constructor
      · simp only [PyData.depthAll]; omega
      · simp only [noLkAll, a.2, b.2, Bool.and_self]
  have k := d50 ds h3
  unfold mmOk
  rw [decide_eq_true k.1, k.2]
  simp only [Bool.and_true, Bool.and_eq_true, List.all_eq_true]
  refine ⟨fun d hd e he => h1 d hd e he, fun d hd => ?_⟩
  have := h2 d hd
  cases d <;> simp_all
theorem minP_at {l1 l2 : List PyData} {e : PyData} (ok : mmOk (l1 ++ e :: l2) = true) (h1 : ∀ d ∈ l1, W.dataLt e d = true) (h2 : ∀ d ∈ l2, W.dataLt d e = false) : minP [.list (l1 ++ e :: l2)] = some e := by
  have keep : ∀ l2 : List PyData, (∀ d ∈ l2, W.dataLt d e = false) → W.minD e l2 = e := by
    intro l2
    induction l2 with
    | nil => intro _; rfl
    | cons d l2 ih =>
      intro h
      show l2.foldl _ (if W.dataLt d e = true then d else e) = e
      rw [h d List.mem_cons_self]
      exact ih (fun x hx => h x (List.mem_cons_of_mem _ hx))
  cases l1 with
  | nil =>
    show (if mmOk (e :: l2) = true then some (W.minD e l2) else none) = _
    rw [if_pos (show mmOk (e :: l2) = true from ok), keep l2 h2]
  | cons d l1 =>
    show (if mmOk (d :: (l1 ++ e :: l2)) = true then some (W.minD d (l1 ++ e :: l2)) else none) = _
    rw [if_pos (show mmOk (d :: (l1 ++ e :: l2)) = true from ok)]
    have : W.minD d (l1 ++ e :: l2) = e := by
      have m := minD_mem l1 d
      show (l1 ++ e :: l2).foldl _ d = e
      rw [List.foldl_append]
      show (e :: l2).foldl _ (W.minD d l1) = e
      show l2.foldl _ (if W.dataLt e (W.minD d l1) = true then e else W.minD d l1) = e
      rw [if_pos (h1 _ m)]
      exact keep l2 h2
    rw [this]
theorem maxP_ints (n : Int) (ns : List Int) : maxP [.list (.int n :: ns.map .int)] = some (.int (ns.foldl max n)) := by
  show (if mmOk (.int n :: ns.map .int) = true then some (W.maxD (.int n) (ns.map .int)) else none) = _
  rw [if_pos, W.maxD_ints]
  have hi : ∀ d ∈ (.int n :: ns.map .int : List PyData), ∃ i, d = .int i := by
    intro d hd
    rcases List.mem_cons.mp hd with rfl | h
    · exact ⟨n, rfl⟩
    · obtain ⟨i, _, rfl⟩ := List.mem_map.mp h
      exact ⟨i, rfl⟩
  refine mmOk_of ?_ ?_ ?_
  · intro d hd e he
    obtain ⟨i, rfl⟩ := hi d hd
    obtain ⟨j, rfl⟩ := hi e he
    rfl
  · intro d hd
    obtain ⟨i, rfl⟩ := hi d hd
    intro h; cases h
  · intro d hd
    obtain ⟨i, rfl⟩ := hi d hd
    exact ⟨by simp [PyData.depth], by simp [noLk]⟩
/-! ### the alphabet's order -/
def sortB (f : Nat → List Nat) : List Nat → Bool
  | x :: y :: ts => decide (f x < f y) && sortB f (y :: ts)
  | _ => true
theorem sortB_all (f : Nat → List Nat) : ∀ (ts : List Nat) (x : Nat), sortB f (x :: ts) = true → ∀ y ∈ ts, f x < f y
  | [], _, _, _, h => by cases h
  | y :: ts, x, s, z, h => by
    rw [sortB, Bool.and_eq_true] at s
    have a := of_decide_eq_true s.1
    rcases List.mem_cons.mp h with rfl | h
    · exact a
    · exact List.lt_trans a (sortB_all f ts y s.2 z h)
theorem sortB_tail (f : Nat → List Nat) : ∀ (l1 : List Nat) (ts : List Nat), sortB f (l1 ++ ts) = true → sortB f ts = true
  | [], _, h => h
  | [x], [], _ => rfl
  | [x], y :: ts, h => by
    rw [List.singleton_append, sortB, Bool.and_eq_true] at h
    exact h.2
  | x :: y :: l1, ts, h => by
    rw [List.cons_append, List.cons_append, sortB, Bool.and_eq_true] at h
    exact sortB_tail f (y :: l1) ts h.2
def tcp (t : Nat) : List Nat := [trT (dg t 0), trT (dg t 1), trT (dg t 2), trT (dg t 3)]
theorem TL_sorted : sortB tcp TL = true := by decide +kernel
theorem lt_tS (a b : Nat) : W.dataLt (tD1 a) (tD1 b) = decide (tcp a < tcp b) := W.dataLt_str _ _
def rowD (n : Int) (t : Nat) : PyData := .tuple [.int n, tD1 t]
theorem lt_row (n m : Int) (a b : Nat) : W.dataLt (rowD n a) (rowD m b) = if n = m then decide (tcp a < tcp b) else decide (n < m) := by
  unfold rowD
  rw [W.dataLt_pair rfl rfl]
  by_cases h : n = m
  · rw [if_pos (by rw [h]; simp [PyData.eqv]), if_pos h]
    by_cases e : PyData.eqv (tD1 a) (tD1 b) = true
    · rw [if_pos e]
      have : tcp a = tcp b := by
        have : tS a = tS b := by simpa [tD1, PyData.eqv] using e
        exact congrArg (fun z : Str => z.cps.toList) this
      rw [this]
      exact (decide_eq_false (List.lt_irrefl _)).symm
    · rw [if_neg e, lt_tS]
  · rw [if_neg (by simpa [PyData.eqv] using h), if_neg h, W.dataLt_int]
def runD (r t : Nat) : PyData := .tuple [LL (runM r t).1, LM (vm (runM r t).2)]
def rowR (r t : Nat) : PyData := .tuple [tD1 t, runD r t]
theorem filter_yes (ts : List Nat) : ts.filter (fun _ => true) = ts := List.filter_eq_self.mpr (fun _ _ => rfl)
theorem TLm_small (f : Nat → PyData) : (TL.map f).length ≤ 90000 := by rw [List.length_map, TL_len]; decide
theorem okM_vm (r : Nat) {t : Nat} (ht : t < 256) : Nat.beq (vm (runM r t).2) 0 = okM r t := vm_zero (runG_lt 4 r t ht)
def stB (r : Nat) : Bool := (TL.find? fun t => !okM r t).isSome
theorem tS_ok (t : Nat) : PyData.strOk (tS t) = true := by
  have h : ∀ a b c d : _root_.Fin 4, PyData.strOk ⟨#[trT a, trT b, trT c, trT d]⟩ = true := by decide +kernel
  exact h ⟨_, dg_lt t 0⟩ ⟨_, dg_lt t 1⟩ ⟨_, dg_lt t 2⟩ ⟨_, dg_lt t 3⟩
theorem sS_ok (t : Nat) : PyData.strOk (sS t) = true := by
  have h : ∀ a b c d : _root_.Fin 4, PyData.strOk ⟨#[sgT a, sgT b, sgT c, sgT d]⟩ = true := by decide +kernel
  exact h ⟨_, dg_lt t 0⟩ ⟨_, dg_lt t 1⟩ ⟨_, dg_lt t 2⟩ ⟨_, dg_lt t 3⟩
theorem strs_canLay : ∀ ts : List Nat, PyData.canLayAll0 (ts.map tD1) = true ∧ PyData.depthAll (ts.map tD1) ≤ 1
  | [] => by simp [PyData.canLayAll0, PyData.depthAll]
  | t :: ts => by
    have h := strs_canLay ts
    simp only [List.map_cons, PyData.canLayAll0, PyData.depthAll, tD1, PyData.canLay0, tS_ok, PyData.depth, Bool.true_and]
    exact ⟨h.1, by have := h.2; omega⟩
theorem strs_shaped (ts : List Nat) : SeqAt.shaped (.list (ts.map tD1)) = true := by
  have h := strs_canLay ts
  unfold SeqAt.shaped
  simp only [PyData.canLay0, h.1, Bool.true_and, PyData.depth]
  exact decide_eq_true (by omega)
theorem shapedA (ns : List Nat) : SeqAt.shaped (.list (ns.map A)) = true := by
  have e : ns.map A = (ns.map fun n : Nat => (n : Int)).map PyData.int := by rw [List.map_map]; rfl
  rw [e]
  exact shaped_ints _
theorem strs_ne (ts : List Nat) : nePS (.list (ts.map tD1)) (.list []) = some (.bool (!ts.isEmpty)) := by
  have e : nePS (.list (ts.map tD1)) (.list []) = neP (.list (ts.map tD1)) (.list []) := rfl
  rw [e, neP, strs_shaped ts]
  cases ts <;> rfl
theorem find_filter (p : Nat → Bool) : ∀ ts : List Nat, (ts.find? p).isSome = !(ts.filter p).isEmpty
  | [] => rfl
  | t :: ts => by
    cases h : p t with
    | true => simp [List.find?, List.filter, h]
    | false => simp only [List.find?, List.filter, h]; exact find_filter p ts
theorem minP_strs {ts : List Nat} {p : Nat → Bool} {x : Nat} (so : sortB tcp ts = true) (h : ts.find? p = some x) : minP [.list ((ts.filter p).map tD1)] = some (tD1 x) := by
  obtain ⟨hp, l1, l2, e, hn⟩ := List.find?_eq_some_iff_append.mp h
  have f1 : l1.filter p = [] := List.filter_eq_nil_iff.mpr (fun a ha => by have := hn a ha; simpa using this)
  have f : ts.filter p = x :: l2.filter p := by rw [e, List.filter_append, f1, List.filter_cons, hp]; rfl
  rw [f]
  have so' : sortB tcp (x :: l2) = true := sortB_tail tcp l1 _ (by rw [← e]; exact so)
  refine minP_at (l1 := []) (e := tD1 x) (l2 := (l2.filter p).map tD1) ?_ (fun d hd => by cases hd) ?_
  · refine mmOk_of ?_ ?_ ?_
    · intro d hd e he
      obtain ⟨a, _, rfl⟩ := List.mem_map.mp (show d ∈ (x :: l2.filter p).map tD1 from hd)
      obtain ⟨b, _, rfl⟩ := List.mem_map.mp (show e ∈ (x :: l2.filter p).map tD1 from he)
      rfl
    · intro d hd
      obtain ⟨a, _, rfl⟩ := List.mem_map.mp (show d ∈ (x :: l2.filter p).map tD1 from hd)
      intro h; cases h
    · intro d hd
      obtain ⟨a, _, rfl⟩ := List.mem_map.mp (show d ∈ (x :: l2.filter p).map tD1 from hd)
      exact ⟨by simp [tD1, PyData.depth], by simp [tD1, noLk]⟩
  · intro d hd
    obtain ⟨b, hb, rfl⟩ := List.mem_map.mp hd
    rw [lt_tS]
    exact decide_eq_false (List.lt_asymm (sortB_all tcp l2 x so' b (List.mem_filter.mp hb).1))
/-- the least pair: the least number first, then the first of the order -/
theorem minP_rows {ts : List Nat} {p : Nat → Bool} {n : Nat → Int} {x : Nat} {k : Int} (so : sortB tcp ts = true) (h : ts.find? (fun t => p t && (n t == k)) = some x) (lo : ∀ t ∈ ts, k ≤ n t) : minP [.list ((ts.filter p).map fun t => rowD (n t) t)] = some (rowD k x) := by
  obtain ⟨hp, l1, l2, e, hn⟩ := List.find?_eq_some_iff_append.mp h
  rw [Bool.and_eq_true] at hp
  have nk : n x = k := eq_of_beq hp.2
  have f : ts.filter p = l1.filter p ++ x :: l2.filter p := by rw [e, List.filter_append, List.filter_cons, hp.1]; rfl
  rw [f, List.map_append, List.map_cons, nk]
  have so' : sortB tcp (x :: l2) = true := sortB_tail tcp l1 _ (by rw [← e]; exact so)
  refine minP_at ?_ ?_ ?_
  · have all : ∀ d ∈ (l1.filter p).map (fun t => rowD (n t) t) ++ rowD k x :: (l2.filter p).map (fun t => rowD (n t) t), ∃ m t, d = rowD m t := by
      intro d hd
      rcases List.mem_append.mp hd with h | h
      · obtain ⟨t, _, rfl⟩ := List.mem_map.mp h; exact ⟨_, _, rfl⟩
      · rcases List.mem_cons.mp h with rfl | h
        · exact ⟨_, _, rfl⟩
        · obtain ⟨t, _, rfl⟩ := List.mem_map.mp h; exact ⟨_, _, rfl⟩
    refine mmOk_of ?_ ?_ ?_
    · intro d hd e he
      obtain ⟨a, b, rfl⟩ := all d hd
      obtain ⟨c, f, rfl⟩ := all e he
      rfl
    · intro d hd
      obtain ⟨a, b, rfl⟩ := all d hd
      intro h; cases h
    · intro d hd
      obtain ⟨a, b, rfl⟩ := all d hd
      exact ⟨by simp [rowD, tD1, PyData.depth, PyData.depthAll], by simp [rowD, tD1, noLk, noLkAll]⟩
  · intro d hd
    obtain ⟨t, ht, rfl⟩ := List.mem_map.mp hd
    have ht' := List.mem_filter.mp ht
    have a := hn t ht'.1
    have b := lo t (by rw [e]; exact List.mem_append_left _ ht'.1)
    have c : n t ≠ k := fun q => by
      rw [ht'.2, q] at a
      simp at a
    rw [lt_row, if_neg (fun q => c q.symm)]
    exact decide_eq_true (by omega)
  · intro d hd
    obtain ⟨t, ht, rfl⟩ := List.mem_map.mp hd
    have ht' := List.mem_filter.mp ht
    have b := lo t (by rw [e]; exact List.mem_append_right _ (List.mem_cons_of_mem _ ht'.1))
    rw [lt_row]
    by_cases q : n t = k
    · rw [if_pos q]
      exact decide_eq_false (List.lt_asymm (sortB_all tcp l2 x so' t ht'.1))
    · rw [if_neg q]
      exact decide_eq_false (by omega)
/-! ### in which round an arm's vehicle leaves -/
def rdL : List Nat → Nat → Nat → Nat → Nat
  | [], _, _, b => b
  | m :: ms, k, i, b => rdL ms (k + 1) i (cond (tb m i) (max b (k + 1)) b)
def ixs : List Nat → Nat → Nat → List Int
  | [], _, _ => []
  | m :: ms, k, i => cond (tb m i) (((k : Int) + 1) :: ixs ms (k + 1) i) (ixs ms (k + 1) i)
theorem ixs_fold : ∀ (ms : List Nat) (k i b : Nat), (ixs ms k i).foldl max (b : Int) = (rdL ms k i b : Nat)
  | [], _, _, _ => rfl
  | m :: ms, k, i, b => by
    unfold ixs rdL
    cases tb m i with
    | false => exact ixs_fold ms (k + 1) i b
    | true =>
      rw [cond_true, cond_true, List.foldl_cons, ← ixs_fold ms (k + 1) i (max b (k + 1))]
      congr 1
      omega
theorem ixs_len : ∀ (ms : List Nat) (k i : Nat), (ixs ms k i).length ≤ ms.length
  | [], _, _ => Nat.le_refl _
  | m :: ms, k, i => by
    have h := ixs_len ms (k + 1) i
    unfold ixs
    cases tb m i <;> simp <;> omega
theorem enum_ms {g : DG} {t : DB} {f : DE} {ρ : List Sl} {i : Nat} (R : Nat → Nat → List Sl) (hR : ∀ k m, m < 16 → g (.tuple [A k, LM m]) ρ = some (R k m) ∧ t (R k m) = some (tb m i) ∧ f (R k m) = some (.int ((k : Int) + 1))) : ∀ (ms : List Nat) (k : Nat), (∀ m ∈ ms, m < 16) → lcGo g t f ρ (enumD k (ms.map LM)) = some ((ixs ms k i).map .int)
  | [], _, _ => rfl
  | m :: ms, k, h => by
    obtain ⟨a, b, c⟩ := hR k m (h m List.mem_cons_self)
    have ih := enum_ms R hR ms (k + 1) (fun m hm => h m (List.mem_cons_of_mem _ hm))
    rw [List.map_cons, enumD, lcGo]
    show (g (.tuple [A k, LM m]) ρ).bind _ = _
    rw [a]
    simp only [Option.bind_some, b, ih]
    rw [show ixs (m :: ms) k i = cond (tb m i) (((k : Int) + 1) :: ixs ms (k + 1) i) (ixs ms (k + 1) i) from rfl]
    cases tb m i with
    | false => rfl
    | true => simp [c]
theorem runG_m : ∀ (n r t : Nat), ∀ m ∈ (runG n r t).1, m < 16
  | 0, _, _ => fun m h => by cases h
  | n + 1, r, t => by
    unfold runG
    intro m h
    cases k : Nat.beq (fm r t) 0 with
    | true => rw [k] at h; cases h
    | false =>
      rw [k, cond_false] at h
      rcases List.mem_cons.mp h with rfl | h
      · exact fm_lt r t
      · exact runG_m n r _ m h
def lt1 (r i : Nat) (pre : List Nat) : Nat := pre.foldl (fun b t => cond (okM r t) (rdL (runM r t).1 0 i b) b) 0
theorem lt1_snoc (r i : Nat) (pre : List Nat) (x : Nat) : lt1 r i (pre ++ [x]) = cond (okM r x) (rdL (runM r x).1 0 i (lt1 r i pre)) (lt1 r i pre) := by
  unfold lt1
  rw [List.foldl_append]
  rfl
/-! ### four rounds: nobody is left -/
theorem runG_cnt : ∀ (n r t : Nat), t < 256 → cnt (runG n r t).2 + (runG n r t).1.length ≤ cnt t
  | 0, _, _, _ => Nat.le_refl _
  | n + 1, r, t, ht => by
    unfold runG
    cases k : Nat.beq (fm r t) 0 with
    | true => exact Nat.le_refl _
    | false =>
      have ih := runG_cnt n r (dropT t (fm r t)) (dropT_lt _ _)
      have := cnt_drop ht k
      simp only [cond_false, List.length_cons]
      omega
theorem cnt0 {t : Nat} (h : cnt t = 0) : Nat.beq (vm t) 0 = true := by
  unfold cnt at h
  unfold vm
  revert h
  cases vB t 0 <;> cases vB t 1 <;> cases vB t 2 <;> cases vB t 3 <;> intro h <;> first | rfl | exact absurd h (by decide)
theorem four_ok {r t : Nat} (ht : t < 256) (h : (runM r t).1.length = 4) : okM r t = true := by
  have a := runG_cnt 4 r t ht
  have b := cnt_le t
  have c : cnt (runM r t).2 = 0 := by
    have : (runG 4 r t).1.length = 4 := h
    show cnt (runG 4 r t).2 = 0
    omega
  rw [← okM_vm r ht]
  exact cnt0 c
end DL

namespace DL
open PySem PySem.Spec PyProof.Rows L2
/-! ### what raises -/
/-- the class that is raised, and the slots at that place -/
abbrev DX := List Sl → Option (Str × List Sl)
def clsOf (mg : Str → Option Value) (c : Str) : Value := (mg c).getD .none
def spR (K : PySem.W.Frag) (mg : Str → Option Value) (n : Nat) (g : List PyData → Option Str) : Sp := fun vs H _ E => vs.length = n ∧ ∃ V ds c, Ex V H ∧ DqAll K V vs ds ∧ g ds = some c ∧ ∀ V' H', Gr V H V' H' → E (clsOf mg c) none H'
def sR (K : PySem.W.Frag) (mg : Str → Option Value) (W : WX) (R : DX) : TS := fun _ σ H => ∃ BV B V ρ c ρ', EnvD K BV B V H σ ρ ∧ R ρ = some (c, ρ') ∧ ∀ σ' V' H', EnvD K BV B V' H' σ' ρ' → W (clsOf mg c) none σ' H'
/-- an expression that raises -/
def eR (K : PySem.W.Frag) (mg : Str → Option Value) (W : WX) (R : DX) : TE := fun σ H _ => ∃ BV B V ρ c ρ', EnvD K BV B V H σ ρ ∧ R ρ = some (c, ρ') ∧ ∀ σ' V' H', EnvD K BV B V' H' σ' ρ' → W (clsOf mg c) none σ' H'
section
variable {X : Cx} {W : WX} {e a b : Expr} {es : List Expr} {pos pos' : Pos} {st : Stmt} {rest : List Stmt}
def rNo : DX := fun _ => none
theorem dsr_no : PS X st (sR X.K X.mg W rNo) := ⟨fun _ _ _ _ _ _ ⟨_, _, _, _, _, _, _, h, _⟩ => by cases h⟩
theorem dssr_no {ss : List Stmt} : PSs X ss (sR X.K X.mg W rNo) := ⟨fun _ _ _ _ _ _ ⟨_, _, _, _, _, _, _, h, _⟩ => by cases h⟩
theorem der_no : PE X e (eR X.K X.mg W rNo) := ⟨fun _ _ _ _ _ _ ⟨_, _, _, _, _, _, _, h, _⟩ => by cases h⟩
def rRaise (x : Str) : DX := fun ρ => some (x, ρ)
theorem dsr_raise {x m : Str} {j : Nat} {p p2 : Pos} {B : String} {newId initId : String} {bmB : List Value} {C : Addr} (hc : X.calm = true) (tk : Takes X W) (F : ExcBaseFacts B newId initId bmB) (q : PySem.W.excIn X.K C bmB newId = true) (gC : X.mg x = some (.ref C)) (kC : PySem.W.keepIn X.K (.ref C) = true) (r : Raises X (.ref C)) (hg : Gl X x) (hdb : (x == ("__debug__" : Str)) = false := by decide) :
    PS X (.Raise (some (.Call (.Name x p) [.Constant (.str m) j p2] [] pos)) none pos') (sR X.K X.mg W (rRaise x)) :=
  ⟨fun pins s σ H D I ⟨BV, B, V, ρ, c, ρ', E, h, q2⟩ => by
    cases h
    refine (ps_raise hc tk (pmk_own F q gC kC r hg hdb)).run pins s σ H D I ?_
    have := q2 σ V H E
    unfold clsOf at this
    rw [gC] at this
    exact this⟩
def rIf (t : DB) (R S : DX) : DX := fun ρ => (t ρ).bind fun x => if x = true then R ρ else S ρ
theorem dsr_if {t : DB} {R S : DX} {st1 st2 : List Stmt} (ht : PT X e (tDT X.K t)) (h1 : PSs X st1 (sR X.K X.mg W R)) (h2 : PSs X st2 (sR X.K X.mg W S)) : PS X (.If e st1 st2 pos) (sR X.K X.mg W (rIf t R S)) := ps_w (ps_if ht h1 h2) fun D σ H ⟨BV, B, V, ρ, c, ρ', E, h, q⟩ => by
  unfold rIf at h
  cases h1 : t ρ with
  | none => rw [h1] at h; cases h
  | some x =>
    rw [h1] at h
    refine ⟨BV, B, V, ρ, x, E, h1, fun V' H' g => ?_⟩
    cases x with
    | true => exact ⟨BV, B, V', ρ, c, ρ', E.grow g, h, q⟩
    | false => exact ⟨BV, B, V', ρ, c, ρ', E.grow g, h, q⟩
theorem der_if {t : DB} {R S : DX} {c : Expr} (ht : PT X c (tDT X.K t)) (h1 : PE X a (eR X.K X.mg W R)) (h2 : PE X b (eR X.K X.mg W S)) : PE X (.IfExp c a b pos) (eR X.K X.mg W (rIf t R S)) := pe_w (pe_ifExp ht h1 h2) fun σ H Q ⟨BV, B, V, ρ, c, ρ', E, h, q⟩ => by
  unfold rIf at h
  cases h1 : t ρ with
  | none => rw [h1] at h; cases h
  | some x =>
    rw [h1] at h
    refine ⟨BV, B, V, ρ, x, E, h1, fun V' H' g => ?_⟩
    cases x with
    | true => exact ⟨BV, B, V', ρ, c, ρ', E.grow g, h, q⟩
    | false => exact ⟨BV, B, V', ρ, c, ρ', E.grow g, h, q⟩
/-- the first runs through, the rest raises -/
def rSkip (F : DS) (R : DX) : DX := fun ρ => (F ρ).bind fun r => match r with
  | .nx ρ' => R ρ'
  | _ => none
theorem dssr_skip {F : DS} {R : DX} (h1 : PS X st (sD X.K F)) (h2 : PSs X rest (sR X.K X.mg W R)) : PSs X (st :: rest) (sR X.K X.mg W (rSkip F R)) := pss_w (pss_cons h1 h2) fun D σ H ⟨BV, B, V, ρ, c, ρ', E, h, q⟩ => by
  unfold rSkip at h
  cases h1 : F ρ with
  | none => rw [h1] at h; cases h
  | some x =>
    rw [h1] at h
    cases x with
    | nx ρ1 =>
      exact ⟨BV, B, V, ρ, _, E, h1, fun σ' V' H' E' => ⟨BV, B, V', ρ1, c, ρ', E', h, q⟩⟩
    | rt d => cases h
    | bk d => cases h
    | ct d => cases h
    | ro d _ => cases h
theorem dssr_now {R : DX} (h1 : PS X st (sR X.K X.mg W R)) : PSs X (st :: rest) (sR X.K X.mg W R) := pss_w (pss_cons h1 (dssr_no (W := W) (ss := rest))) fun D σ H h => h
def rOr (R S : DX) : DX := fun ρ => match R ρ with
  | some c => some c
  | none => S ρ
theorem dssr_or {R S : DX} {ss : List Stmt} (h1 : PSs X ss (sR X.K X.mg W R)) (h2 : PSs X ss (sR X.K X.mg W S)) : PSs X ss (sR X.K X.mg W (rOr R S)) := ⟨fun pins s σ H D I ⟨BV, B, V, ρ, c, ρ', E, h, q⟩ => by
  unfold rOr at h
  cases k : R ρ with
  | some x => rw [k] at h; cases h; exact h1.run pins s σ H D I ⟨BV, B, V, ρ, _, _, E, k, q⟩
  | none => rw [k] at h; exact h2.run pins s σ H D I ⟨BV, B, V, ρ, _, _, E, h, q⟩⟩
/-- a call of a def that raises -/
def rCall (g : List PyData → Option Str) (fs : DA) : DX := fun ρ => (fs ρ).bind fun ds => (g ds).map fun c => (c, ρ)
theorem rCall_some {g : List PyData → Option Str} {fs : DA} {ρ ρ' : List Sl} {c : Str} (h : rCall g fs ρ = some (c, ρ')) : ρ' = ρ ∧ ∃ ds, fs ρ = some ds ∧ g ds = some c := by
  unfold rCall at h
  cases k : fs ρ with
  | none => rw [k] at h; cases h
  | some ds =>
    rw [k] at h
    simp only [Option.bind_some] at h
    cases k2 : g ds with
    | none => rw [k2] at h; cases h
    | some c' => rw [k2] at h; cases h; exact ⟨rfl, ds, rfl, k2⟩
theorem der_call {k : Nat} {f : Addr} {fd : FuncData} {ps : List Str} {x : Str} {p : Pos} {g : List PyData → Option Str} {fs : DA} (tk : Takes X W) (F : FnOk X.prog X.w X.K X.mg X.base (L2.CX X.prog X.w) k f fd ps (spR X.K X.mg ps.length g)) (hr : Room k X.A) (hg : Gl X x) (hm : X.mg x = some (.ref f)) (hk : PySem.W.keepIn X.K (.ref f) = true) (hb : Binds X.K fd ps [])
    (hlen : (e :: es).length = ps.length) (ha : PA X (e :: es) (tDA X.K fs)) (hfs : ∀ ρ ds, fs ρ = some ds → ds.length = (e :: es).length) (hdb : (x == ("__debug__" : Str)) = false := by decide)
    (he : starEach (e :: es) X.env = (false, eval e X.env) :: starEach es X.env := by rfl) (hpl : (backTo pos (starEach es X.env)).any (·.1) = false := by rfl) :
    PE X (.Call (.Name x p) (e :: es) [] pos) (eR X.K X.mg W (rCall g fs)) := pe_w (pe_callS F hr hg hm hk hb (E := WE W) (fun σ => passAt tk σ) ha hdb he hpl) fun σ H Q ⟨BV, B, V, ρ, c, ρ', E, h, q⟩ => by
  obtain ⟨rfl, ds, h1, h2⟩ := rCall_some h
  exact ⟨BV, B, V, ρ', ds, E, h1, fun vs V1 H1 G1 D1 => ⟨by rw [da_len D1, hfs ρ' ds h1, hlen], V1, ds, c, G1.sub, D1, h2, fun V' H' g' => q σ V' H' (E.grow (G1.trans g'))⟩⟩
theorem dsr_expr {R : DX} (h : PE X e (eR X.K X.mg W R)) (hs : swapsWith e none pos.line X.env = pure false := by rfl) : PS X (.Expr e pos) (sR X.K X.mg W R) := ps_w (ps_expr h hs) fun D σ H h => h
theorem dsr_ret {R : DX} (h : PE X e (eR X.K X.mg W R)) : PS X (.Return (some e) pos) (sR X.K X.mg W R) := ps_w (ps_ret h) fun D σ H h => h
/-! ### a def chosen by its place in a list -/
def HeldX (X : Cx) (k : Nat) (f : Addr) (sp : Sp) : Prop := ∃ k' fd ps, k' ≤ k ∧ FnOk X.prog X.w X.K X.mg X.base (L2.CX X.prog X.w) k' f fd ps sp ∧ PySem.W.keepIn X.K (.ref f) = true ∧ Binds X.K fd ps []
def tCallF (X : Cx) (k : Nat) (E : L2.St → XK) (tf : TE) (t : TA) : TE := fun σ H Q => tf σ H fun y H1 => ∃ f sp, y = .ref f ∧ HeldX X k f sp ∧ t σ H1 fun vs H2 => sp vs H2 Q (E σ)
theorem pe_callF {k : Nat} {fe : Expr} {tf : TE} {t : TA} {E : L2.St → XK} (hf : PE X fe tf) (hr : Room k X.A) (hx : ∀ σ, PassesAt (L2.CX X.prog X.w) X σ (E σ)) (ha : PA X (e :: es) t)
    (ht : eval (.Call fe (e :: es) [] pos) X.env = (do callWith pos (← eval fe X.env) [] (backTo pos (starEach (e :: es) X.env)) (backToKw pos (keywordEach [] X.env))) := by rfl)
    (he : starEach (e :: es) X.env = (false, eval e X.env) :: starEach es X.env := by rfl) (hpl : (backTo pos (starEach es X.env)).any (·.1) = false := by rfl) : PE X (.Call fe (e :: es) [] pos) (tCallF X k E tf t) := by
  refine ⟨fun pins s σ H Q I h => ?_⟩
  refine Call_ (thn (hf.run pins s σ H _ I h) fun u s1 ⟨y, H1, I1, ry, f, sp, ey, ⟨k', fd, ps, lk, F, hk, hb⟩, q⟩ => ?_) ht
  subst ey
  obtain rfl : u = Value.ref f := ry
  refine PySem.W.callWith_K (h₀ := X.base) I.ok.mod.kin hk (thn (ha.run pos pins s1 σ H1 _ I1 q) fun us s2 ⟨vs, H2, I2, r, q2⟩ => ⟨I2.kIn, ?_⟩) he hpl
  exact run_fnS F (hr.mono lk) hb (hx σ) I2 r q2
/-- the list of the defs -/
inductive FnList (X : Cx) (k n : Nat) : List Expr → List (List PyData → Option Str) → Prop
  | nil : FnList X k n [] []
  | cons {x : Str} {p : Pos} {f : Addr} {g : List PyData → Option Str} {es : List Expr} {gs : List (List PyData → Option Str)} : Gl X x → X.mg x = some (.ref f) → (x == ("__debug__" : Str)) = false → HeldX X k f (spR X.K X.mg n g) → starEach (.Name x p :: es) X.env = (false, eval (.Name x p) X.env) :: starEach es X.env → FnList X k n es gs → FnList X k n (.Name x p :: es) (g :: gs)
def tFns : List Addr → TA := fun fs _ H Q => Q (fs.map V.ref) H
theorem pa_fns {k n : Nat} : ∀ {es : List Expr} {gs : List (List PyData → Option Str)}, FnList X k n es gs → ∃ fs : List Addr, fs.length = gs.length ∧ (∀ (j : Nat) f g, fs[j]? = some f → gs[j]? = some g → HeldX X k f (spR X.K X.mg n g)) ∧ PA X es (tFns fs)
  | _, _, .nil => ⟨[], rfl, (fun j f g h => by simp at h), pa_w pa_nil fun σ H Q h => h⟩
  | _, _, .cons (f := f) hg hm hd hh hs r => by
    obtain ⟨fs, h1, h2, h3⟩ := pa_fns r
    refine ⟨f :: fs, by simp [h1], fun j f' g' e1 e2 => ?_, pa_w (pa_cons (pe_glob hg hm (v := .ref f) (show L2.RelV (.ref f) (.ref f) from rfl) hd) h3 hs) fun σ H Q h => h⟩
    cases j with
    | zero => cases e1; cases e2; exact hh
    | succ j => exact h2 j f' g' e1 e2
def rCallIx (gs : List (List PyData → Option Str)) (iw : DE) (fs : DA) : DX := fun ρ => match iw ρ with
  | some (.int (.ofNat j)) => (gs[j]?).bind fun g => rCall g fs ρ
  | _ => none
theorem der_callIx {k n : Nat} {ls : List Expr} {lpos spos : Pos} {iw : Expr} {gs : List (List PyData → Option Str)} {wi : DE} {fs : DA} (tk : Takes X W) (hl : FnList X k n ls gs) (hr : Room k X.A) (hi : PE X iw (tD X.K wi)) (hsm : gs.length ≤ 1000)
    (hlen : (e :: es).length = n) (ha : PA X (e :: es) (tDA X.K fs)) (hfs : ∀ ρ ds, fs ρ = some ds → ds.length = (e :: es).length) (hs : PlainIx iw)
    (ht : eval (.Call (.Subscript (.List ls lpos) iw spos) (e :: es) [] pos) X.env = (do callWith pos (← eval (.Subscript (.List ls lpos) iw spos) X.env) [] (backTo pos (starEach (e :: es) X.env)) (backToKw pos (keywordEach [] X.env))) := by rfl)
    (he : starEach (e :: es) X.env = (false, eval e X.env) :: starEach es X.env := by rfl) (hpl : (backTo pos (starEach es X.env)).any (·.1) = false := by rfl) :
    PE X (.Call (.Subscript (.List ls lpos) iw spos) (e :: es) [] pos) (eR X.K X.mg W (rCallIx gs wi fs)) := by
  obtain ⟨ff, l1, l2, pf⟩ := pa_fns hl
  refine pe_w (pe_callF (k := k) (pe_ix ix_seq (pe_lst pf) hi hs) hr (E := WE W) (fun σ => passAt tk σ) ha ht he hpl) fun σ H Q ⟨BV, B, V, ρ, c, ρ', E, h, q⟩ => ?_
  unfold rCallIx at h
  split at h
  · rename_i j hw
    cases hgj : gs[j]? with
    | none => rw [hgj] at h; cases h
    | some g =>
      rw [hgj] at h
      simp only [Option.bind_some] at h
      obtain ⟨rfl, ds, h1, h2⟩ := rCall_some h
      have hj : j < ff.length := by
        rw [l1]
        exact (List.getElem?_eq_some_iff.mp hgj).1
      have fj := List.getElem?_eq_getElem hj
      refine ⟨line_of (by rw [List.length_map, l1]; omega), fun p np => ?_⟩
      have G0 := Gr.held (o := .lst (ff.map L2.V.ref)) E.sub np
      refine ⟨BV, B, V, ρ', _, E.grow G0, hw, fun v V1 H1 G1 D1 => ?_⟩
      cases D1
      have hp : H1 p = some (.lst (ff.map L2.V.ref)) := G1.h _ _ upd_same
      have hat : atI (ff.map L2.V.ref) (Int.ofNat j) = some (.ref ff[j]) := by
        unfold atI
        rw [show ixN (ff.map L2.V.ref).length (Int.ofNat j) = some j from by
          unfold ixN
          simp [hj]]
        simp [fj]
      refine .inl ⟨p, _, _, L2.V.ref ff[j], rfl, rfl, .inl (.inl hp), hat, ?_⟩
      exact ⟨ff[j], _, rfl, l2 j _ _ fj hgj, BV, B, V1, ρ', ds, (E.grow G0).grow G1, h1, fun vs V2 H2 G2 D2 => ⟨by rw [da_len D2, hfs ρ' ds h1, hlen], V2, ds, c, G2.sub, D2, h2, fun V' H' g' => q σ V' H' (E.grow (G0.trans (G1.trans (G2.trans g'))))⟩⟩
  · cases h
end
/-- a def that raises -/
def fnRen (N : Nat) (R : DX) : List PyData → Option Str := fun ds => (R (startD N ds)).map (·.1)
theorem fnR {P : Program} {w : World} {K : PySem.W.Frag} {mg : Str → Option Value} {base : Heap} {x qual : Str} {st : Stmt} {f : Addr} {fd : FuncData} {N ps : List Str} {k : Nat} {R : DX} (Fu : Fun K x qual st f fd) (S : FnScope N ps (defScope st))
    (hb : ∀ (cdv : Value) (A : Around) (outer : List Env) (s : Shared) (H : Hp) (E : XK), Room k (A.deeper (envOfC qual (defScope st) s.heap.objs.size f cdv)) → Takes (cxOf (L2.CX P w) P w K mg base N qual (defScope st) f cdv A outer s H E) (fun cls d _ H => E cls d H) → PSs (cxOf (L2.CX P w) P w K mg base N qual (defScope st) f cdv A outer s H E) (defBody st) (sR K mg (fun cls d _ H => E cls d H) R)) :
    FnOk P w K mg base (L2.CX P w) (k + 1) f fd ps (spR K mg ps.length (fnRen N.length R)) := by
  refine Fu.okX S (fun vs H Q E h => h.1) fun cdv A outer s H vs Q E hr h => ⟨_, hb cdv A outer s H E hr (takes_of rfl rfl rfl rfl), ?_⟩
  obtain ⟨_, V, ds, c, s', da, hg, q⟩ := h
  have E0' := start_ok (N := N) s' da
  unfold fnRen at hg
  cases hR : R (startD N.length ds) with
  | none => rw [hR] at hg; cases hg
  | some r =>
    obtain ⟨c', ρ'⟩ := r
    rw [hR] at hg
    cases hg
    exact ⟨V, Bs.of H, V, _, c', ρ', E0', hR, fun σ' V' H' E' => q V' H' E'.gr⟩
end DL

namespace DL
open PySem PySem.Spec PyProof.Rows L2
/-! ### the suite of an except clause: slot i holds the exception, at a -/
def tHD (K : PySem.W.Frag) (i : Nat) (a : Addr) (f : DE) : TE := fun σ H Q => σ[i]? = some (some (.ref a)) ∧ tD K f σ H Q
def tHT (K : PySem.W.Frag) (i : Nat) (a : Addr) (f : DB) : TT := fun σ H Q => σ[i]? = some (some (.ref a)) ∧ tDT K f σ H Q
def tHA (K : PySem.W.Frag) (i : Nat) (a : Addr) (f : DA) : TA := fun σ H Q => σ[i]? = some (some (.ref a)) ∧ tDA K f σ H Q
def sHD (K : PySem.W.Frag) (i : Nat) (a : Addr) (F : DS) : TS := fun E σ H => σ[i]? = some (some (.ref a)) ∧ ∃ BV B V ρ d, EnvD K BV B V H σ ρ ∧ F ρ = some (.rt d) ∧ ∀ v V' H', Gr BV B V' H' → Dq K V' v d → E.rt v H'
section
variable {X : Cx} {e a b : Expr} {es : List Expr} {pos : Pos} {i : Nat} {x : Addr}
theorem hd_p {f : DE} (h : PE X e (tD X.K f)) : PE X e (tHD X.K i x f) := pe_w h fun _ _ _ ⟨_, h⟩ => h
theorem ht_p {f : DB} (h : PT X e (tDT X.K f)) : PT X e (tHT X.K i x f) := pt_w h fun _ _ _ ⟨_, h⟩ => h
theorem hd_isE {D : Addr} {oe : Obj} {pn : List (Addr × Obj)} {y n : Str} {C : Value} {b : Bool} {p p1 p2 pos : Pos} (E : ExcC X.K D) (hz : Zc (.ref D) none oe) (hf : ∃ vs, oe.data = .fields vs) (hk : PySem.W.kitOne X.K (.ref D) C = some b) (hg : Gl X "isinstance") (hm : X.mg "isinstance" = none) (he : PE (X.suite x ((x, oe) :: pn)) (.Name n p1) (tVar i)) (hc : PE (X.suite x ((x, oe) :: pn)) (.Name y p2) (fun σ H Q => ∀ v, (∀ u, L2.RelV v u → u = C) → Q v H)) :
    PE (X.suite x ((x, oe) :: pn)) (.Call (.Name "isinstance" p) [.Name n p1, .Name y p2] [] pos) (tHD X.K i x (dC (.bool b))) :=
  pe_w (pe_callB (call_isE E hz hf) hg hm (by decide +kernel) (pa_cons he (pa_cons hc pa_nil))) fun σ H Q ⟨h0, BV, B, V, ρ, d, E', h, q⟩ => by
    cases h
    exact ⟨_, h0, fun v hv => ⟨v, C, b, rfl, hv, hk, q _ V H (.refl E'.sub) (.bl b)⟩⟩
theorem pe_cls {y : Str} {C : Addr} {p : Pos} (hg : Gl X y) (hm : X.mg y = some (.ref C)) (hdb : (y == ("__debug__" : Str)) = false := by decide) : PE X (.Name y p) (fun σ H Q => ∀ v, (∀ u, L2.RelV v u → u = .ref C) → Q v H) := pe_w (pe_glob hg hm (v := .ref C) (show L2.RelV (.ref C) (.ref C) from rfl) hdb) fun σ H Q h => h _ fun u r => by cases r; rfl
theorem ht_v {f : DE} (h : PE X e (tHD X.K i x f)) (he : ∀ whole, isTrue e X.env whole = (do let v ← whole; standAt e.pos; holding [v] (truthy v)) := by intro _; rfl) : PT X e (tHT X.K i x (bOf f)) := pt_w (pt_val h he) fun σ H Q ⟨h0, BV, B, V, ρ, b, E, hb, q⟩ => by
  refine ⟨h0, BV, B, V, ρ, _, E, bOf_some hb, fun v V' H' g d => ?_⟩
  cases d
  exact ⟨b, rfl, q V' H' g⟩
theorem hd_if {c : Expr} {t : DB} {f g : DE} (hc : PT X c (tHT X.K i x t)) (ha : PE X a (tHD X.K i x f)) (hb : PE X b (tHD X.K i x g)) : PE X (.IfExp c a b pos) (tHD X.K i x (dIf t f g)) :=
  pe_w (pe_ifExp hc ha hb) fun σ H Q ⟨h0, BV, B, V, ρ, z, E, hz, q⟩ => by
    unfold dIf at hz
    cases h1 : t ρ with
    | none => rw [h1] at hz; cases hz
    | some y =>
      rw [h1] at hz
      refine ⟨h0, BV, B, V, ρ, y, E, h1, fun V' H' g1 => ?_⟩
      cases y with
      | true => exact ⟨h0, BV, B, V', ρ, z, E.grow g1, hz, fun v V2 H2 g2 d2 => q v V2 H2 (g1.trans g2) d2⟩
      | false => exact ⟨h0, BV, B, V', ρ, z, E.grow g1, hz, fun v V2 H2 g2 d2 => q v V2 H2 (g1.trans g2) d2⟩
theorem ha_nil : PA X [] (tHA X.K i x aNil) := pa_w da_nil fun _ _ _ ⟨_, h⟩ => h
theorem ha_cons {f : DE} {r : DA} (ha : PE X e (tHD X.K i x f)) (hr : PA X es (tHA X.K i x r)) (hs : starEach (e :: es) X.env = (false, eval e X.env) :: starEach es X.env := by rfl) : PA X (e :: es) (tHA X.K i x (aCons f r)) :=
  pa_w (pa_cons ha hr hs) fun σ H Q ⟨h0, BV, B, V, ρ, z, E, hz, q⟩ => by
    obtain ⟨d, ds, h1, h2, rfl⟩ := aCons_some hz
    exact ⟨h0, BV, B, V, ρ, d, E, h1, fun v V1 H1 G1 D1 => ⟨h0, BV, B, V1, ρ, ds, E.grow G1, h2, fun vs V2 H2 G2 D2 => q _ V2 H2 (G1.trans G2) (.cons (dp_mono G2.v D1) D2)⟩⟩
theorem hd_lst {f : DA} (h : PA X es (tHA X.K i x f)) : PE X (.List es pos) (tHD X.K i x (dL (aSmall f))) := pe_w (pe_lst h) fun σ H Q ⟨h0, BV, B, V, ρ, z, E, hz, q⟩ => by
  unfold dL at hz
  cases h1 : aSmall f ρ with
  | none => rw [h1] at hz; cases hz
  | some ds =>
    rw [h1] at hz; cases hz
    obtain ⟨h1, h2⟩ := aSmall_some h1
    exact ⟨h0, BV, B, V, ρ, ds, E, h1, fun vs V1 H1 G1 D1 => ⟨by rw [da_len D1]; exact line_of h2, fun p n => newL G1.sub (fun v V' H' g d => q v V' H' (G1.trans g) d) D1 n⟩⟩
theorem hd_tup {f : DA} {x1} (h : PA X es (tHA X.K i x f)) : PE X (.Tuple es x1 pos) (tHD X.K i x (dTup f)) := pe_w (pe_tup h) fun σ H Q ⟨h0, BV, B, V, ρ, z, E, hz, q⟩ => by
  unfold dTup at hz
  cases h1 : aSmall f ρ with
  | none => rw [h1] at hz; cases hz
  | some ds =>
    rw [h1] at hz; cases hz
    obtain ⟨h1, h2⟩ := aSmall_some h1
    exact ⟨h0, BV, B, V, ρ, ds, E, h1, fun vs V1 H1 G1 D1 => ⟨by rw [da_len D1]; exact line_of h2, fun p n => newT G1.sub (fun v V' H' g d => q v V' H' (G1.trans g) d) D1 n⟩⟩
theorem hd_op {op : Operator} {r : R2} {o : PyData → PyData → Option PyData} {f g : DE} (ho : OpR X (binaryOp op) r) (h : OpD X.K r o) (ha : PE X a (tHD X.K i x f)) (hb : PE X b (tHD X.K i x g)) : PE X (.BinOp a op b pos) (tHD X.K i x (d2 o f g)) :=
  pe_w (pe_op ho ha hb) fun σ H Q ⟨h0, BV, B, V, ρ, z, E, hz, q⟩ => by
    obtain ⟨d, e, hf, hg, ho⟩ := d2_some hz
    exact ⟨h0, BV, B, V, ρ, d, E, hf, fun y V1 H1 G1 D1 => ⟨h0, BV, B, V1, ρ, e, E.grow G1, hg, fun y' V2 H2 G2 D2 =>
      h V2 H2 y y' d e z Q G2.sub (dp_mono G2.v D1) D2 ho fun v V3 H3 G3 D3 => q v V3 H3 (G1.trans (G2.trans G3)) D3⟩⟩
theorem hd_bm {T id : String} {name : Str} {apos cpos : Pos} {r : V → List V → Hp → VK → Prop} {o : PyData → List PyData → Option PyData} {f : DE} {g : DA} (pa : PlainAttrs T) (slot : Slot T name id) (hty : typeOf (.builtin id) = pure (.type "method_descriptor")) (hm : MtR X id r) (h : MtD X.K r o) (hT : ∀ d ds z, o d ds = some z → tyD T d = true)
    (ho : PE X a (tHD X.K i x f)) (ha : PA X (e :: es) (tHA X.K i x g)) (hbase : attributeBase a name X.env (eval a X.env) = eval a X.env := by rfl)
    (hfew : ((backTo cpos (starEach (e :: es) X.env)).all (fun x => !x.1) && (backToKw cpos (keywordEach [] X.env)).all (fun x => x.1.isSome)
      && decide ((e :: es).length + ([] : List Keyword).length + (if ([] : List Keyword).isEmpty then 0 else 1) < 30)) = true := by rfl)
    (hline : (apos.endLine == cpos.line) = true := by rfl) (hs : starEach (e :: es) X.env = (false, eval e X.env) :: starEach es X.env := by rfl) (hplain : (backTo cpos (starEach es X.env)).any (·.1) = false := by rfl) :
    PE X (.Call (.Attribute a name apos) (e :: es) [] cpos) (tHD X.K i x (dM o f g)) :=
  pe_w (pe_bm pa slot hty hm ho ha hbase hfew hline hs hplain) fun σ H Q ⟨h0, BV, B, V, ρ, z, E, hz, q⟩ => by
    obtain ⟨d, ds, hf, hg, ho⟩ := dM_some hz
    exact ⟨h0, BV, B, V, ρ, d, E, hf, fun y V1 H1 G1 D1 => ⟨ty_of D1 G1.sub (hT _ _ _ ho), h0, BV, B, V1, ρ, ds, E.grow G1, hg, fun xs V2 H2 G2 D2 =>
      h V2 H2 y xs d ds z Q G2.sub (dp_mono G2.v D1) D2 ho fun v V3 H3 G3 D3 => q v V3 H3 (G1.trans (G2.trans G3)) D3⟩⟩
theorem hs_ret {f : DE} (h : PE X e (tHD X.K i x f)) : PSs X [.Return (some e) pos] (sHD X.K i x (sRet f)) := pss_w (pss_one (ps_ret h)) fun D σ H ⟨h0, BV, B, V, ρ, d, E, h, q⟩ => by
  unfold sRet at h
  cases h1 : f ρ with
  | none => rw [h1] at h; cases h
  | some y => rw [h1] at h; cases h; exact ⟨h0, BV, B, V, ρ, d, E, h1, fun v V' H' g d => q v V' H' (E.gr.trans g) d⟩
/-! ### try -/
def sTry (i : Nat) (F : DS) (R : DX) (tbl : List (Str × DS)) : DS := fun ρ => match F ρ with
  | some r => some r
  | none => (R ρ).bind fun p => (tbl.lookup p.1).bind fun G => if i < p.2.length then (match G (p.2.set i .un) with
    | some (.rt d) => some (.rt d)
    | _ => none) else none
def HandleD (X : Cx) (i : Nat) (b₀ : Stmt) (suite : List Stmt) (D : Addr) (G : DS) : Prop := ∀ (a : Addr) (oe : Obj) (pn : List (Addr × Obj)), Zc (.ref D) none oe → (∃ vs, oe.data = .fields vs) → PSs (X.suite a ((a, oe) :: pn)) (b₀ :: suite) (sHD X.K i a G)
theorem ds_try {F : DS} {R : DX} {tbl : List (Str × DS)} {i : Nat} {x n : Str} {c : Value} {body suite : List Stmt} {b₀ : Stmt} {np pos pos' : Pos} {Wout : WX} (hs : X.stack = X.env :: X.outer) (hf : X.env.frame = some X.env.locals) (hN : X.N.Nodup) (hi : X.N[i]? = some n) (hln : X.env.kindOf n = some .local) (hc : Names X x c) (tk : Takes X Wout)
    (hn : ∀ (W : WX) (pn : List (Addr × Obj)) (xe : Value → Shared → Prop), PSs (X.tr pn xe) body (sD X.K F))
    (hb : ∀ (W : WX) (pn : List (Addr × Obj)) (xe : Value → Shared → Prop), Takes (X.tr pn xe) W → PSs (X.tr pn xe) body (sR X.K X.mg W R))
    (hF : ∀ k G, (k, G) ∈ tbl → ∃ D, X.mg k = some (.ref D) ∧ PySem.W.exmOne X.K (.ref D) c = some true ∧ HandleD X i b₀ suite D G) :
    PS X (.Try body [.ExceptHandler (some (.Name x np)) (some n) (b₀ :: suite) pos'] [] [] pos) (sD X.K (sTry i F R tbl)) :=
  ps_w (ps_try_as (tb := fun W D σ H => sD X.K F D σ H ∨ sR X.K X.mg W R D σ H) (ts := fun a cls d E σ H => ∃ D G, cls = .ref D ∧ d = none ∧ HandleD X i b₀ suite D G ∧ sHD X.K i a G E σ H) hs hf hN hi hln hc tk
      (fun W pn xe t _ => ⟨fun pins s σ H D I h => h.elim ((hn W pn xe).run pins s σ H D I) ((hb W pn xe t).run pins s σ H D I)⟩)
      (fun a oe cls d pn hz hfs => ⟨fun pins s σ H E I ⟨D, G, e1, e2, HD, h⟩ => by
        subst e1 e2
        exact (HD a oe pn hz hfs).run pins s σ H E I h⟩)) fun E σ H ⟨BV, B, V, ρ, r, Ev, h, q⟩ => by
    unfold sTry at h
    split at h
    · rename_i r' hr
      cases h
      exact .inl ⟨BV, B, V, ρ, r, Ev, hr, q⟩
    · refine .inr ?_
      cases h1 : R ρ with
      | none => rw [h1] at h; cases h
      | some k =>
        obtain ⟨k, ρ'⟩ := k
        rw [h1] at h
        simp only [Option.bind_some] at h
        cases h2 : tbl.lookup k with
        | none => rw [h2] at h; cases h
        | some G =>
          rw [h2] at h
          simp only [Option.bind_some] at h
          split at h
          · rename_i hlt
            split at h
            · rename_i d hG
              cases h
              obtain ⟨D, m1, m2, HD⟩ := tbl_of (P := fun k G => ∃ D, X.mg k = some (.ref D) ∧ PySem.W.exmOne X.K (.ref D) c = some true ∧ HandleD X i b₀ suite D G) h2 hF
              refine ⟨BV, B, V, ρ, k, ρ', Ev, h1, fun σ' V' H' E' => ?_⟩
              have ec : clsOf X.mg k = .ref D := by unfold clsOf; rw [m1]; rfl
              rw [ec]
              obtain ⟨o, ho, _⟩ := E'.sl i _ (List.getElem?_eq_getElem hlt)
              have hi' : i < σ'.length := (List.getElem?_eq_some_iff.mp ho).1
              exact ⟨true, m2, fun _ a ha => ⟨D, G, rfl, rfl, HD, List.getElem?_set_self hi', BV, B, V', _, d, E'.unset (some (.ref a)) i, hG, fun v V2 H2 g d => q v V2 H2 g d⟩, fun h => by cases h⟩
            · cases h
          · cases h
theorem dss_no {ss : List Stmt} : PSs X ss (sD X.K sNo) := ⟨fun _ _ _ _ _ _ ⟨_, _, _, _, _, _, h, _⟩ => by cases h⟩
end
/-- an own exception class -/
structure ClsF (K : PySem.W.Frag) (D : Addr) : Prop where
  ec : ExcC K D
  ex : PySem.W.excIn K D [.type "ValueError", .type "Exception", .type "BaseException", .type "object"] "ValueError.__new__" = true
  kp : PySem.W.keepIn K (.ref D) = true
  ty : PySem.W.typeIn K (.ref D) = some (.type "type")
theorem dsr_raise1 {X : Cx} {W : WX} {x m : Str} {j : Nat} {p p2 pos pos' : Pos} {C : Addr} (hc : X.calm = true) (tk : Takes X W) (F : ClsF X.K C) (gC : X.mg x = some (.ref C)) (hg : Gl X x) (hdb : (x == ("__debug__" : Str)) = false := by decide) :
    PS X (.Raise (some (.Call (.Name x p) [.Constant (.str m) j p2] [] pos)) none pos') (sR X.K X.mg W (rRaise x)) :=
  dsr_raise hc tk PySem.F.excBase_ValueError F.ex gC F.kp (raises_own F.ec.hs F.ty) hg hdb
end DL

namespace DL
open PySem PySem.Spec PyProof.Rows L2
/-! ### s.replace(y, z), both written: a token must be out -/
def replP (y z : Str) : PyData → Option PyData
  | .str x => if x.length ≤ 1000 ∧ z.length ≤ 1000 then some (.str (Txt.replace x y z)) else none
  | _ => none
section
variable {X : Cx} {e o : Expr} {es : List Expr} {pos apos : Pos}
theorem tReplC_of {K : PySem.W.Frag} {y z : Str} {f : DE} (σ : L2.St) (H : Hp) (Q : VK) (t : tD K (d1 (replP y z) f) σ H Q) : CwR.tReplC (tD K f) y z σ H Q := by
  obtain ⟨BV, B, V, ρ, d, E, h, q⟩ := t
  obtain ⟨x, hf, ho⟩ := d1_some h
  refine ⟨BV, B, V, ρ, x, E, hf, fun v V1 H1 G1 D1 => ?_⟩
  cases D1 with
  | str x =>
    simp only [replP] at ho
    split at ho
    · rename_i hl
      cases ho
      refine ⟨x, rfl, ?_, q _ V1 H1 G1 (.str _)⟩
      have h1 : (x.length + 1) * z.length ≤ 1001 * 1000 := Nat.mul_le_mul (by omega) (by omega)
      omega
    · cases ho
  | _ => cases ho
theorem pet_w {t t' : TE} (h : PET X e t) (i : ∀ σ H Q, t' σ H Q → t σ H Q) : PET X e t' := fun pins s σ H Q h0 I q => h pins s σ H Q h0 I (i _ _ _ q)
theorem det_repl {y z : Str} {f : DE} {j k : Nat} {c0 c1 : Pos} (ho : PE X o (tD X.K f)) (hyz : (y == z) = false := by decide)
    (hst : starEach [.Constant (.str y) j c0, .Constant (.str z) k c1] X.env = [(false, eval (.Constant (.str y) j c0) X.env), (false, eval (.Constant (.str z) k c1) X.env)] := by rfl)
    (hbase : attributeBase o "replace" X.env (eval o X.env) = eval o X.env := by rfl) (hline : (apos.endLine == pos.line) = true := by rfl) :
    PET X (.Call (.Attribute o "replace" apos) [.Constant (.str y) j c0, .Constant (.str z) k c1] [] pos) (tD X.K (d1 (replP y z) f)) :=
  pet_w (CwR.pet_replC ho hyz hst hbase hline) tReplC_of
theorem det_replT {y z : Str} {f : DE} {j k : Nat} {c0 c1 : Pos} (ho : PET X o (tD X.K f)) (hyz : (y == z) = false := by decide)
    (hst : starEach [.Constant (.str y) j c0, .Constant (.str z) k c1] X.env = [(false, eval (.Constant (.str y) j c0) X.env), (false, eval (.Constant (.str z) k c1) X.env)] := by rfl)
    (hbase : attributeBase o "replace" X.env (eval o X.env) = eval o X.env := by rfl) (hline : (apos.endLine == pos.line) = true := by rfl) :
    PET X (.Call (.Attribute o "replace" apos) [.Constant (.str y) j c0, .Constant (.str z) k c1] [] pos) (tD X.K (d1 (replP y z) f)) :=
  pet_w (CwR.pet_replT ho hyz hst hbase hline) tReplC_of
/-- a method of a written text, its argument in want of a token -/
theorem pe_bmT {id : String} {name c : Str} {j : Nat} {p cpos : Pos} {r : V → List V → Hp → VK → Prop} {te : TE} (slot : Slot "str" name id) (hty : typeOf (.builtin id) = pure (.type "method_descriptor")) (hm : MtR X id r) (he : PET X e te)
    (hbase : attributeBase (.Constant (.str c) j p) name X.env (eval (.Constant (.str c) j p) X.env) = eval (.Constant (.str c) j p) X.env := by rfl)
    (hfew : ((backTo cpos (starEach [e] X.env)).all (fun x => !x.1) && (backToKw cpos (keywordEach [] X.env)).all (fun x => x.1.isSome)
      && decide ([e].length + ([] : List Keyword).length + (if ([] : List Keyword).isEmpty then 0 else 1) < 30)) = true := by rfl)
    (hline : (apos.endLine == cpos.line) = true := by rfl) (hs : starEach [e] X.env = (false, eval e X.env) :: starEach [] X.env := by rfl) :
    PE X (.Call (.Attribute (.Constant (.str c) j p) name apos) [e] [] cpos) (fun σ H Q => te σ H fun y H1 => r (.str c) [y] H1 Q) := by
  refine ⟨fun pins s σ H Q I h => ?_⟩
  refine wpAny_Call_method_late hbase hfew hline rfl (Calls.Constant_str ?_)
  refine ⟨"str", id, PySem.F.plainAttrs_str, slot, hty, typeIs_str _ _ _, (fun _ e => nomatch e), ?_⟩
  have hA := pat_cons he pat_nil hs cpos pins { s with toks := s.toks + 1 } σ H (fun vs H1 => r (.str c) vs H1 Q) (by show 1 ≤ s.toks + 1; omega) (I.tok _) (show tCons te tNil σ H _ from h)
  rw [hs] at hA ⊢
  refine Calls.callWith_builtin (by rfl) (Calls.evalArgs_plain ?_)
  exact thn hA fun us s2 ⟨vs, H2, I2, r2, q2⟩ => hm pins s2 σ H2 (.str c) vs _ us Q I2 ⟨_, rfl⟩ r2 q2
theorem de_bmT {id : String} {name c : Str} {j : Nat} {p cpos : Pos} {r : V → List V → Hp → VK → Prop} {op : PyData → List PyData → Option PyData} {f : DE} (slot : Slot "str" name id) (hty : typeOf (.builtin id) = pure (.type "method_descriptor")) (hm : MtR X id r) (h : MtD X.K r op) (he : PET X e (tD X.K f))
    (hbase : attributeBase (.Constant (.str c) j p) name X.env (eval (.Constant (.str c) j p) X.env) = eval (.Constant (.str c) j p) X.env := by rfl)
    (hfew : ((backTo cpos (starEach [e] X.env)).all (fun x => !x.1) && (backToKw cpos (keywordEach [] X.env)).all (fun x => x.1.isSome)
      && decide ([e].length + ([] : List Keyword).length + (if ([] : List Keyword).isEmpty then 0 else 1) < 30)) = true := by rfl)
    (hline : (apos.endLine == cpos.line) = true := by rfl) (hs : starEach [e] X.env = (false, eval e X.env) :: starEach [] X.env := by rfl) :
    PE X (.Call (.Attribute (.Constant (.str c) j p) name apos) [e] [] cpos) (tD X.K (dM op (dC (.str c)) (aCons f aNil))) :=
  pe_w (pe_bmT slot hty hm he hbase hfew hline hs) fun σ H Q ⟨BV, B, V, ρ, z, E, hz, q⟩ => by
    obtain ⟨d, ds, hf, hg, ho⟩ := dM_some hz
    cases hf
    obtain ⟨x, xs, hx, hn, rfl⟩ := aCons_some hg
    cases hn
    exact ⟨BV, B, V, ρ, x, E, hx, fun v V1 H1 G1 D1 => h V1 H1 _ _ _ _ z Q G1.sub (.str c) (.cons D1 .nil) ho fun v V3 H3 G3 D3 => q v V3 H3 (G1.trans G3) D3⟩
/-! ### behind what gives out a token -/
def PE1 (X : Cx) (e : Expr) (t : TE) : Prop := ∀ (pins : List (Addr × Obj)) (s : Shared) (σ : L2.St) (H : Hp) (Q : VK), Inv X pins σ H s → t σ H Q → wpAny (model X.prog X.w) X.A (eval e X.env) (fun v s' => 1 ≤ s'.toks ∧ EP X pins σ Q v s') X.xe s
def PA1 (X : Cx) (es : List Expr) (t : TA) : Prop := ∀ (pos : Pos) (pins : List (Addr × Obj)) (s : Shared) (σ : L2.St) (H : Hp) (Q : List V → Hp → Prop), Inv X pins σ H s → t σ H Q → wpAny (model X.prog X.w) X.A (spliced (backTo pos (starEach es X.env))) (fun v s' => 1 ≤ s'.toks ∧ AP X pins σ Q v s') X.xe s
def PS1 (X : Cx) (st : Stmt) (t : TS) : Prop := ∀ (pins : List (Addr × Obj)) (s : Shared) (σ : L2.St) (H : Hp) (D : Ends), Inv X pins σ H s → t D σ H → wpAny (model X.prog X.w) X.A (exec st X.env) (fun f s' => 1 ≤ s'.toks ∧ SP X pins D f s') X.xe s
theorem pe1_int {i : Int} {j : Nat} : PE1 X (.Constant (.int i) j pos) (tD X.K (dC (.int i))) := fun pins s σ H Q I ⟨BV, B, V, ρ, z, E, hz, q⟩ => by
  cases hz
  exact wpAny_Constant_int ⟨by show 1 ≤ s.toks + 1; omega, .int i, H, I.tok _, ⟨_, rfl⟩, q _ V H (.refl E.sub) (.int i)⟩
theorem pe1_opl {a b : Expr} {op : Operator} {r : R2} {o : PyData → PyData → Option PyData} {f g : DE} (ho : OpR X (binaryOp op) r) (h : OpD X.K r o) (ha : PE1 X a (tD X.K f)) (hb : PE X b (tD X.K g)) : PE1 X (.BinOp a op b pos) (tD X.K (d2 o f g)) := fun pins s σ H Q I t => by
  have t := tOp_of h σ H Q t
  refine wpAny_BinOp (wpAny_mono (ha pins s σ H _ I t) (fun v s1 ⟨k1, x, H1, I1, r1, q1⟩ => ?_) fun _ _ z => z)
  refine wpAny_mono (PySem.wpAny_toks_of k1 (hb.run pins s1 σ H1 _ I1 q1)) (fun u s2 ⟨k2, y, H2, I2, r2, q2⟩ => ?_) fun _ _ z => z.2
  exact wpAny_mono (PySem.wpAny_toks_of k2 (ho pins s2 σ H2 x y v u Q I2 r1 r2 q2)) (fun _ _ z => z) fun _ _ z => z.2
theorem pa1_here {f : DE} {r : DA} (ha : PE1 X e (tD X.K f)) (hr : PA X es (tDA X.K r)) (hs : starEach (e :: es) X.env = (false, eval e X.env) :: starEach es X.env := by rfl) : PA1 X (e :: es) (tDA X.K (aCons f r)) := fun p pins s σ H Q I ⟨BV, B, V, ρ, z, E, hz, q⟩ => by
  obtain ⟨d, ds, h1, h2, rfl⟩ := aCons_some hz
  rw [hs]
  refine Calls.spliced_cons (wpAny_mono (ha pins s σ H (fun v H1 => tDA X.K r σ H1 fun vs H2 => Q (v :: vs) H2) I ⟨BV, B, V, ρ, d, E, h1, fun x V1 H1 G1 D1 => ⟨BV, B, V1, ρ, ds, E.grow G1, h2, fun vs V2 H2 G2 D2 => q _ V2 H2 (G1.trans G2) (.cons (dp_mono G2.v D1) D2)⟩⟩) (fun v s1 ⟨k1, x, H1, I1, r1, q1⟩ => ?_) fun _ _ z => z)
  exact wpAny_mono (PySem.wpAny_toks_of k1 (hr.run p pins s1 σ H1 _ I1 q1)) (fun us s2 ⟨k2, vs, H2, I2, r2, q2⟩ => ⟨k2, x :: vs, H2, I2, .cons r1 r2, q2⟩) fun _ _ z => z.2
theorem pa1_later {f : DE} {r : DA} (ha : PE X e (tD X.K f)) (hr : PA1 X es (tDA X.K r)) (hs : starEach (e :: es) X.env = (false, eval e X.env) :: starEach es X.env := by rfl) : PA1 X (e :: es) (tDA X.K (aCons f r)) := fun p pins s σ H Q I ⟨BV, B, V, ρ, z, E, hz, q⟩ => by
  obtain ⟨d, ds, h1, h2, rfl⟩ := aCons_some hz
  rw [hs]
  refine Calls.spliced_cons (wpAny_mono (ha.run pins s σ H (fun v H1 => tDA X.K r σ H1 fun vs H2 => Q (v :: vs) H2) I ⟨BV, B, V, ρ, d, E, h1, fun x V1 H1 G1 D1 => ⟨BV, B, V1, ρ, ds, E.grow G1, h2, fun vs V2 H2 G2 D2 => q _ V2 H2 (G1.trans G2) (.cons (dp_mono G2.v D1) D2)⟩⟩) (fun v s1 ⟨x, H1, I1, r1, q1⟩ => ?_) fun _ _ z => z)
  exact wpAny_mono (hr p pins s1 σ H1 _ I1 q1) (fun us s2 ⟨k2, vs, H2, I2, r2, q2⟩ => ⟨k2, x :: vs, H2, I2, .cons r1 r2, q2⟩) fun _ _ z => z
theorem pe1_call {k : Nat} {f : Addr} {fd : FuncData} {ps : List Str} {x : Str} {p : Pos} {g : List PyData → Option PyData} {fs : DA} (F : FnOk X.prog X.w X.K X.mg X.base CX0 k f fd ps (spD X.K ps.length g)) (hr : Room k X.A) (hg : Gl X x) (hm : X.mg x = some (.ref f)) (hk : PySem.W.keepIn X.K (.ref f) = true) (hb : Binds X.K fd ps [])
    (hlen : (e :: es).length = ps.length) (ha : PA1 X (e :: es) (tDA X.K fs)) (hfs : ∀ ρ ds, fs ρ = some ds → ds.length = (e :: es).length) (hdb : (x == ("__debug__" : Str)) = false := by decide)
    (he : starEach (e :: es) X.env = (false, eval e X.env) :: starEach es X.env := by rfl) (hpl : (backTo pos (starEach es X.env)).any (·.1) = false := by rfl) : PE1 X (.Call (.Name x p) (e :: es) [] pos) (tD X.K (dCall g fs)) := fun pins s σ H Q I ⟨BV, B, V, ρ, z, E, hz, q⟩ => by
  obtain ⟨ds, h1, h2⟩ := dCall_some hz
  refine wpAny_Call_Name_kw (ld_glob I hg hm ?_ hdb)
  refine PySem.W.callWith_K (h₀ := X.base) I.ok.mod.kin hk (wpAny_mono (ha pos pins s σ H (fun vs H1 => spD X.K ps.length g (vs ++ []) H1 Q E0) I ⟨BV, B, V, ρ, ds, E, h1, fun vs V1 H1 G1 D1 => by
      show spD X.K ps.length g (vs ++ []) H1 Q E0
      rw [List.append_nil]
      exact ⟨by rw [da_len D1, hfs ρ ds h1, hlen], V1, ds, z, G1.sub, D1, h2, fun v V' H' g d => q v V' H' (G1.trans g) d⟩⟩) (fun us s1 ⟨k1, vs, H1, I1, r, q1⟩ => ⟨I1.kIn, ?_⟩) fun _ _ z => z) he hpl
  exact wpAny_mono (PySem.wpAny_toks_of k1 (run_fn (E := E0) F hr hb .nil pass0 I1 r q1)) (fun _ _ z => z) fun _ _ z => z.2
theorem ps1_set {i : Nat} {x : Str} {f : DE} {pos' : Pos} (hN : X.N.Nodup) (hi : X.N[i]? = some x) (hx : Loc X.env.scope x) (he : PE1 X e (tD X.K f)) (hs : swapsWith e (some (.Name x pos')) pos.line X.env = pure false := by rfl) (hf : X.fn x = true ∨ X.env.scope.names.lookup x = some .local := by first | exact .inl rfl | exact .inr rfl | assumption) :
    PS1 X (.Assign [.Name x pos'] e pos) (sD X.K (sSet i f)) := fun pins s σ H D I t => by
  refine wpAny_Assign_Name (wpAny_mono (he pins s σ H _ I (tAsg_of D σ H t)) (fun v s1 ⟨k1, y, H1, I1, r1, q1⟩ => ?_) fun _ _ z => z) hs
  exact wpAny_mono (PySem.wpAny_toks_of k1 (store_ok (Q := fun f s2 => SP X pins D .next s2) I1 hN hi hx r1 (fun s2 I2 => ⟨_, H1, I2, q1⟩) hf)) (fun _ _ z => z) fun _ _ z => z.2
theorem tSeq_of {K : PySem.W.Frag} {F G : DS} (D : Ends) (σ : L2.St) (H : Hp) (t : sD K (sSeq F G) D σ H) : tSeq (sD K F) (sD K G) D σ H := by
  obtain ⟨BV, B, V, ρ, r, E, h, q⟩ := t
  unfold sSeq at h
  cases h1 : F ρ with
  | none => rw [h1] at h; cases h
  | some x =>
    rw [h1] at h
    refine ⟨BV, B, V, ρ, x, E, h1, ?_⟩
    cases x with
    | nx ρ' => exact fun σ' V' H' E' => ⟨BV, B, V', ρ', r, E', h, q⟩
    | rt d => cases h; exact q
    | bk d => cases h; exact q
    | ct d => cases h; exact q
    | ro d _ => cases h; exact q
variable {st : Stmt} {rest : List Stmt}
theorem dsst_cons {F G : DS} (h1 : PST X st (sD X.K F)) (h2 : PSsT X rest (sD X.K G)) : PSsT X (st :: rest) (sD X.K (sSeq F G)) := fun pins s σ H D h0 I h => psst_cons h1 h2 pins s σ H D h0 I (tSeq_of D σ H h)
theorem dsst_one {F : DS} (h1 : PST X st (sD X.K F)) : PSsT X [st] (sD X.K F) := fun pins s σ H D h0 I h => psst_cons h1 (PSsT.of pss_nil) pins s σ H D h0 I h
theorem dss_1 {F G : DS} (h1 : PS1 X st (sD X.K F)) (h2 : PSsT X rest (sD X.K G)) : PSs X (st :: rest) (sD X.K (sSeq F G)) := ⟨fun pins s σ H D I t => by
  refine wpAny_execs_cons (wpAny_mono (h1 pins s σ H { D with nx := sD X.K G D } I (tSeq_of D σ H t)) (fun f s1 q => ?_) fun _ _ x => x)
  obtain ⟨hk, q⟩ := q
  cases f with
  | next =>
    obtain ⟨σ', H', I', q⟩ := q
    exact h2 pins s1 σ' H' D hk I' q
  | ret v => exact q
  | brk => exact q
  | cont => exact q⟩
theorem dst_set {i : Nat} {x : Str} {f : DE} {pos' : Pos} (hN : X.N.Nodup) (hi : X.N[i]? = some x) (hx : Loc X.env.scope x) (he : PET X e (tD X.K f)) (hs : swapsWith e (some (.Name x pos')) pos.line X.env = pure false := by rfl) (hf : X.fn x = true ∨ X.env.scope.names.lookup x = some .local := by first | exact .inl rfl | exact .inr rfl | assumption) :
    PST X (.Assign [.Name x pos'] e pos) (sD X.K (sSet i f)) := fun pins s σ H D h0 I t => by
  refine wpAny_Assign_Name (thn (he pins s σ H _ h0 I (tAsg_of D σ H t)) fun v s1 ⟨y, H1, I1, r1, q1⟩ => ?_) hs
  exact store_ok I1 hN hi hx r1 (fun s2 I2 => ⟨_, H1, I2, q1⟩) hf
end
end DL

namespace DL
open PySem PySem.Spec PyProof.Rows L2
/-! ### zip(text, text) -/
def Izs2 (x y : Str) : It :=
  ⟨fun i _ => i < x.cps.size ∧ i < y.cps.size, fun i H v H' => ∃ T c d, v = .ref T ∧ H T = none ∧ H' = upd H T (.tup [.str ⟨#[c]⟩, .str ⟨#[d]⟩]) ∧ x.cps[i]? = some c ∧ y.cps[i]? = some d, fun i _ => i ≤ x.cps.size ∧ i ≤ y.cps.size ∧ (i = x.cps.size ∨ i = y.cps.size)⟩
theorem turn_zipS2 {P : Program} {w : World} {K : PySem.W.Frag} {elts : List Expr} {kk : Nat} {tpos : Pos} (x y : Str) (t u : Tok) {z TI TO i1 i2 : Addr} (S : ZipSep2 z TI TO i1 i2 [i1] [i2]) :
    Turn P w K (.Tuple elts kk tpos) (Izs2 x y) [z, TI, TO, i1, i2] z (fun i h => IsZip h z TI TO .none ∧ IsTupOf2 h TI (.ref i1) (.ref i2) ∧ (∃ a b, IsTupOf2 h TO a b) ∧ h.IsStrIter i1 (strIterType x) x t i ∧ h.IsStrIter i2 (strIterType y) y u i) where
  mem := by simp
  obj := fun i h st c hc => by
    obtain ⟨hz, hTI, ⟨a, b, hTO⟩, ⟨o1, e1, _, d1⟩, ⟨o2, e2, _, d2⟩⟩ := st
    have e' : c = z ∨ c = TI ∨ c = TO ∨ c = i1 ∨ c = i2 := by simpa using hc
    rcases e' with q | q | q | q | q
    · rw [q]; exact ⟨_, hz, fun v q => nomatch q⟩
    · rw [q]; exact ⟨_, hTI, fun v q => nomatch q⟩
    · rw [q]; exact ⟨_, hTO, fun v q => nomatch q⟩
    · rw [q]; exact ⟨o1, e1, fun v q => by rw [d1] at q; cases q⟩
    · rw [q]; exact ⟨o2, e2, fun v q => by rw [d2] at q; cases q⟩
  keep := fun i h h' st k => by
    obtain ⟨hz, hTI, ⟨a, b, hTO⟩, ⟨o1, e1, r1⟩, ⟨o2, e2, r2⟩⟩ := st
    exact ⟨k z (by simp) _ hz, k TI (by simp) _ hTI, ⟨a, b, k TO (by simp) _ hTO⟩, ⟨o1, k i1 (by simp) _ e1, r1⟩, ⟨o2, k i2 (by simp) _ e2, r2⟩⟩
  item := by
    intro X hP hw hK hc i pins s σ H E I hf st hg
    subst hP hw hK
    obtain ⟨hz, hTI, ⟨a, b, hTO⟩, h1, h2⟩ := st
    have hzl : z < s.heap.objs.size := Heap.lt_size hz
    have l1 : i1 < s.heap.objs.size := by obtain ⟨_, q, _⟩ := h1; exact Heap.lt_size q
    have l2 : i2 < s.heap.objs.size := by obtain ⟨_, q, _⟩ := h2; exact Heap.lt_size q
    refine wpAny_pyNext_zipD2_item S (draws_str (A := X.A.in1) (I.ok.hd hc) i1 x t) (draws_str (A := X.A.in1) (I.ok.hd hc) i2 y u) hz hTI hTO h1 h2 hg.1 hg.2 fun x1 x2 h' tk p1 p2 z' TO' h1' h2' hT hsz hk => ?_
    obtain ⟨c, tc, hcx, rfl⟩ := p1
    obtain ⟨d, td, hdx, rfl⟩ := p2
    refine ⟨_, rfl, wpAny_letOwnedTupleGo_zip (s := { s with heap := h', toks := tk }) z' fun h'' z'' sb => ?_⟩
    have hT2 : h''.get? s.heap.objs.size = some { cls := .type "tuple", data := .seq #[.str ⟨#[c]⟩ tc, .str ⟨#[d]⟩ td] } := (sb.2 _ (Nat.ne_of_gt hzl)).trans hT
    have new : ObjOk X.prog X.w (upd H s.heap.objs.size (.tup [.str ⟨#[c]⟩, .str ⟨#[d]⟩])) h'' s.heap.objs.size (.tup [.str ⟨#[c]⟩, .str ⟨#[d]⟩]) :=
      ⟨by show 2 ≤ sizeLine; decide, [.str ⟨#[c]⟩ tc, .str ⟨#[d]⟩ td], .cons ⟨_, rfl⟩ (.cons ⟨_, rfl⟩ .nil), ⟨_, hT2, rfl, _, rfl⟩⟩
    have I1 : Inv X pins σ (upd H s.heap.objs.size (.tup [.str ⟨#[c]⟩, .str ⟨#[d]⟩])) { s with heap := h'', toks := tk } :=
      I.turnedNew (ch := [z, TI, TO, i1, i2]) (fun c o hb q => (sb.2 c (fun q' => hb (by simp [q']))).trans (hk c o (fun q' => hb (by simp [q'])) (fun q' => hb (by simp [q'])) (fun q' => hb (by simp [q'])) (fun q' => hb (by simp [q'])) q)) hf (Nat.le_refl _) new
    refine ⟨.ref s.heap.objs.size, _, I1, rfl, ⟨_, c, d, rfl, I.hok.fresh (Nat.le_refl _), rfl, hcx, hdx⟩, ⟨z'', ?_, ⟨.str ⟨#[c]⟩ tc, .str ⟨#[d]⟩ td, ?_⟩, ?_, ?_⟩, fun c hcm => ?_⟩
    · exact (sb.2 _ S.TIz).trans (hk _ _ S.TIz S.TITO S.TIi1 S.TIi2 hTI)
    · exact (sb.2 _ S.TOz).trans TO'
    · obtain ⟨o, q, r⟩ := h1'
      exact ⟨o, (sb.2 _ (Ne.symm S.zi1)).trans q, r⟩
    · obtain ⟨o, q, r⟩ := h2'
      exact ⟨o, (sb.2 _ (Ne.symm S.zi2)).trans q, r⟩
    · have hlt : c < s.heap.objs.size := by
        have e' : c = z ∨ c = TI ∨ c = TO ∨ c = i1 ∨ c = i2 := by simpa using hcm
        rcases e' with q | q | q | q | q
        · rw [q]; exact hzl
        · rw [q]; exact Heap.lt_size hTI
        · rw [q]; exact Heap.lt_size hTO
        · rw [q]; exact l1
        · rw [q]; exact l2
      rw [upd_ne (Nat.ne_of_lt hlt)]
      exact (hf c hcm).1
  done := by
    intro X hP hw hK hc i pins s σ H E I hf st hg
    subst hP hw hK
    obtain ⟨hz, hTI, ⟨a, b, hTO⟩, h1, h2⟩ := st
    exact wpAny_pyNext_zipD2_end S (draws_str (A := X.A.in1) (I.ok.hd hc) i1 x t) (draws_str (A := X.A.in1) (I.ok.hd hc) i2 y u) hz hTI hTO h1 h2 hg.1 hg.2.1 hg.2.2 fun h' tk hk => ⟨rfl, I.turnedL (t' := tk) (ch := [z, TI, TO, i1, i2]) (fun c o hb q =>
      hk c o (fun q' => hb (by simp [q'])) (fun q' => hb (by simp [q'])) (fun q' => hb (by simp [q'])) (fun q' => hb (by simp [q'])) q) hf⟩
  self := fun A i s Q E st h => wpAny_pyIter_zip st.1 h
def iZipS2 (ta : TA) : TI := fun σ H R => ta σ H fun vs H1 => ∃ x y, vs = [.str x, .str y] ∧ R (Izs2 x y) H1
theorem pi_zipS2 {X : Cx} {e e2 : Expr} {ta : TA} {p pos tpos : Pos} {elts : List Expr} {kk : Nat} (hg : Gl X "zip") (hm : X.mg "zip" = none) (ha : PA X [e, e2] ta)
    (hs : starEach [e, e2] X.env = (false, eval e X.env) :: starEach [e2] X.env := by rfl) (hpl : (backTo pos (starEach [e2] X.env)).any (·.1) = false := by rfl) :
    PI X (.Tuple elts kk tpos) (.Call (.Name "zip" p) [e, e2] [] pos) (iZipS2 ta) := by
  refine ⟨fun pins s σ H R I h => ?_⟩
  refine Call_ (ld_blt I hg hm PyProof.Rows.boot_zip (PyProof.Rows.callWith_type1 (thn (ha.run pos pins s σ H _ I h) fun us s1 ⟨vs, H1, I1, r1, q1⟩ => ?_) hs hpl))
  obtain ⟨x, y, ex, q⟩ := q1
  subst ex
  cases r1 with
  | cons r rr =>
    cases rr with
    | cons r' rr =>
      cases rr
      obtain ⟨t, rfl⟩ := r
      obtain ⟨u, rfl⟩ := r'
      refine zip_begins2 (begins_text x t) (begins_text y u) trivial trivial fun h' hz hTI hTO h1 h2 hsz hk => wpAny_pyIter_zip hz ?_
      have I2 : Inv X pins σ H1 { s1 with heap := h' } := I1.kept (t' := s1.toks) hk
      have S : ZipSep2 (s1.heap.objs.size + 4) (s1.heap.objs.size + 2) (s1.heap.objs.size + 3) s1.heap.objs.size (s1.heap.objs.size + 1) [s1.heap.objs.size] [s1.heap.objs.size + 1] := by
        constructor <;> simp
      refine ⟨s1.heap.objs.size + 4, [s1.heap.objs.size + 4, s1.heap.objs.size + 2, s1.heap.objs.size + 3, s1.heap.objs.size, s1.heap.objs.size + 1], _, _, H1, rfl, I2, turn_zipS2 x y t u S, ⟨hz, hTI, ⟨_, _, hTO⟩, ⟨_, h1, rfl, rfl⟩, ⟨_, h2, rfl, rfl⟩⟩, fun c hcm => ?_, q⟩
      have e' : c = s1.heap.objs.size + 4 ∨ c = s1.heap.objs.size + 2 ∨ c = s1.heap.objs.size + 3 ∨ c = s1.heap.objs.size ∨ c = s1.heap.objs.size + 1 := by simpa using hcm
      have hle : s1.heap.objs.size ≤ c := by
        rcases e' with z | z | z | z | z <;> rw [z] <;> first | exact Nat.le_refl _ | exact Nat.le_add_right _ _
      exact I1.fpOk hle (I1.hok.fresh hle)
/-! ### zip(text, text, text) -/
def Izs3 (x y z : Str) : It :=
  ⟨fun i _ => i < x.cps.size ∧ i < y.cps.size ∧ i < z.cps.size, fun i H v H' => ∃ T c d e, v = .ref T ∧ H T = none ∧ H' = upd H T (.tup [.str ⟨#[c]⟩, .str ⟨#[d]⟩, .str ⟨#[e]⟩]) ∧ x.cps[i]? = some c ∧ y.cps[i]? = some d ∧ z.cps[i]? = some e, fun i _ => i ≤ x.cps.size ∧ i ≤ y.cps.size ∧ i ≤ z.cps.size ∧ (i = x.cps.size ∨ i = y.cps.size ∨ i = z.cps.size)⟩
theorem turn_zipS3 {P : Program} {w : World} {K : PySem.W.Frag} {elts : List Expr} {kk : Nat} {tpos : Pos} (x y v : Str) (t u tv : Tok) {z TI TO i1 i2 i3 : Addr} (S : ZipSep3 z TI TO i1 i2 i3 [i1] [i2] [i3]) :
    Turn P w K (.Tuple elts kk tpos) (Izs3 x y v) [z, TI, TO, i1, i2, i3] z (fun i h => IsZip h z TI TO .none ∧ IsTupOf3 h TI (.ref i1) (.ref i2) (.ref i3) ∧ (∃ a b c, IsTupOf3 h TO a b c) ∧ h.IsStrIter i1 (strIterType x) x t i ∧ h.IsStrIter i2 (strIterType y) y u i ∧ h.IsStrIter i3 (strIterType v) v tv i) where
  mem := by simp
  obj := fun i h st c hc => by
    obtain ⟨hz, hTI, ⟨a, b, b', hTO⟩, ⟨o1, e1, _, d1⟩, ⟨o2, e2, _, d2⟩, ⟨o3, e3, _, d3⟩⟩ := st
    have e' : c = z ∨ c = TI ∨ c = TO ∨ c = i1 ∨ c = i2 ∨ c = i3 := by simpa using hc
    rcases e' with q | q | q | q | q | q
    · rw [q]; exact ⟨_, hz, fun v q => nomatch q⟩
    · rw [q]; exact ⟨_, hTI, fun v q => nomatch q⟩
    · rw [q]; exact ⟨_, hTO, fun v q => nomatch q⟩
    · rw [q]; exact ⟨o1, e1, fun v q => by rw [d1] at q; cases q⟩
    · rw [q]; exact ⟨o2, e2, fun v q => by rw [d2] at q; cases q⟩
    · rw [q]; exact ⟨o3, e3, fun v q => by rw [d3] at q; cases q⟩
  keep := fun i h h' st k => by
    obtain ⟨hz, hTI, ⟨a, b, b', hTO⟩, ⟨o1, e1, r1⟩, ⟨o2, e2, r2⟩, ⟨o3, e3, r3⟩⟩ := st
    exact ⟨k z (by simp) _ hz, k TI (by simp) _ hTI, ⟨a, b, b', k TO (by simp) _ hTO⟩, ⟨o1, k i1 (by simp) _ e1, r1⟩, ⟨o2, k i2 (by simp) _ e2, r2⟩, ⟨o3, k i3 (by simp) _ e3, r3⟩⟩
  item := by
    intro X hP hw hK hc i pins s σ H E I hf st hg
    subst hP hw hK
    obtain ⟨hz, hTI, ⟨a, b, b', hTO⟩, h1, h2, h3⟩ := st
    have hzl : z < s.heap.objs.size := Heap.lt_size hz
    have l1 : i1 < s.heap.objs.size := by obtain ⟨_, q, _⟩ := h1; exact Heap.lt_size q
    have l2 : i2 < s.heap.objs.size := by obtain ⟨_, q, _⟩ := h2; exact Heap.lt_size q
    have l3 : i3 < s.heap.objs.size := by obtain ⟨_, q, _⟩ := h3; exact Heap.lt_size q
    refine wpAny_pyNext_zipD3_item S (draws_str (A := X.A.in1) (I.ok.hd hc) i1 x t) (draws_str (A := X.A.in1) (I.ok.hd hc) i2 y u) (draws_str (A := X.A.in1) (I.ok.hd hc) i3 v tv) hz hTI hTO h1 h2 h3 hg.1 hg.2.1 hg.2.2 fun x1 x2 x3 h' tk p1 p2 p3 z' TO' h1' h2' h3' hT hsz hk => ?_
    obtain ⟨c, tc, hcx, rfl⟩ := p1
    obtain ⟨d, td, hdx, rfl⟩ := p2
    obtain ⟨f, tf, hfx, rfl⟩ := p3
    refine ⟨_, rfl, wpAny_letOwnedTupleGo_zip (s := { s with heap := h', toks := tk }) z' fun h'' z'' sb => ?_⟩
    have hT2 : h''.get? s.heap.objs.size = some { cls := .type "tuple", data := .seq #[.str ⟨#[c]⟩ tc, .str ⟨#[d]⟩ td, .str ⟨#[f]⟩ tf] } := (sb.2 _ (Nat.ne_of_gt hzl)).trans hT
    have new : ObjOk X.prog X.w (upd H s.heap.objs.size (.tup [.str ⟨#[c]⟩, .str ⟨#[d]⟩, .str ⟨#[f]⟩])) h'' s.heap.objs.size (.tup [.str ⟨#[c]⟩, .str ⟨#[d]⟩, .str ⟨#[f]⟩]) :=
      ⟨by show 3 ≤ sizeLine; decide, [.str ⟨#[c]⟩ tc, .str ⟨#[d]⟩ td, .str ⟨#[f]⟩ tf], .cons ⟨_, rfl⟩ (.cons ⟨_, rfl⟩ (.cons ⟨_, rfl⟩ .nil)), ⟨_, hT2, rfl, _, rfl⟩⟩
    have I1 : Inv X pins σ (upd H s.heap.objs.size (.tup [.str ⟨#[c]⟩, .str ⟨#[d]⟩, .str ⟨#[f]⟩])) { s with heap := h'', toks := tk } :=
      I.turnedNew (ch := [z, TI, TO, i1, i2, i3]) (fun c o hb q => (sb.2 c (fun q' => hb (by simp [q']))).trans (hk c o (fun q' => hb (by simp [q'])) (fun q' => hb (by simp [q'])) (fun q' => hb (by simp [q'])) (fun q' => hb (by simp [q'])) (fun q' => hb (by simp [q'])) q)) hf (Nat.le_refl _) new
    refine ⟨.ref s.heap.objs.size, _, I1, rfl, ⟨_, c, d, f, rfl, I.hok.fresh (Nat.le_refl _), rfl, hcx, hdx, hfx⟩, ⟨z'', ?_, ⟨.str ⟨#[c]⟩ tc, .str ⟨#[d]⟩ td, .str ⟨#[f]⟩ tf, ?_⟩, ?_, ?_, ?_⟩, fun c hcm => ?_⟩
    · exact (sb.2 _ S.TIz).trans (hk _ _ S.TIz S.TITO S.TIi1 S.TIi2 S.TIi3 hTI)
    · exact (sb.2 _ S.TOz).trans TO'
    · obtain ⟨o, q, r⟩ := h1'
      exact ⟨o, (sb.2 _ (Ne.symm S.zi1)).trans q, r⟩
    · obtain ⟨o, q, r⟩ := h2'
      exact ⟨o, (sb.2 _ (Ne.symm S.zi2)).trans q, r⟩
    · obtain ⟨o, q, r⟩ := h3'
      exact ⟨o, (sb.2 _ (Ne.symm S.zi3)).trans q, r⟩
    · have hlt : c < s.heap.objs.size := by
        have e' : c = z ∨ c = TI ∨ c = TO ∨ c = i1 ∨ c = i2 ∨ c = i3 := by simpa using hcm
        rcases e' with q | q | q | q | q | q
        · rw [q]; exact hzl
        · rw [q]; exact Heap.lt_size hTI
        · rw [q]; exact Heap.lt_size hTO
        · rw [q]; exact l1
        · rw [q]; exact l2
        · rw [q]; exact l3
      rw [upd_ne (Nat.ne_of_lt hlt)]
      exact (hf c hcm).1
  done := by
    intro X hP hw hK hc i pins s σ H E I hf st hg
    subst hP hw hK
    obtain ⟨hz, hTI, ⟨a, b, b', hTO⟩, h1, h2, h3⟩ := st
    exact wpAny_pyNext_zipD3_end S (draws_str (A := X.A.in1) (I.ok.hd hc) i1 x t) (draws_str (A := X.A.in1) (I.ok.hd hc) i2 y u) (draws_str (A := X.A.in1) (I.ok.hd hc) i3 v tv) hz hTI hTO h1 h2 h3 hg.1 hg.2.1 hg.2.2.1 hg.2.2.2 fun h' tk hk => ⟨rfl, I.turnedL (t' := tk) (ch := [z, TI, TO, i1, i2, i3]) (fun c o hb q =>
      hk c o (fun q' => hb (by simp [q'])) (fun q' => hb (by simp [q'])) (fun q' => hb (by simp [q'])) (fun q' => hb (by simp [q'])) (fun q' => hb (by simp [q'])) q) hf⟩
  self := fun A i s Q E st h => wpAny_pyIter_zip st.1 h
def iZipS3 (ta : TA) : TI := fun σ H R => ta σ H fun vs H1 => ∃ x y z, vs = [.str x, .str y, .str z] ∧ R (Izs3 x y z) H1
theorem pi_zipS3 {X : Cx} {e e2 e3 : Expr} {ta : TA} {p pos tpos : Pos} {elts : List Expr} {kk : Nat} (hg : Gl X "zip") (hm : X.mg "zip" = none) (ha : PA X [e, e2, e3] ta)
    (hs : starEach [e, e2, e3] X.env = (false, eval e X.env) :: starEach [e2, e3] X.env := by rfl) (hpl : (backTo pos (starEach [e2, e3] X.env)).any (·.1) = false := by rfl) :
    PI X (.Tuple elts kk tpos) (.Call (.Name "zip" p) [e, e2, e3] [] pos) (iZipS3 ta) := by
  refine ⟨fun pins s σ H R I h => ?_⟩
  refine Call_ (ld_blt I hg hm PyProof.Rows.boot_zip (PyProof.Rows.callWith_type1 (thn (ha.run pos pins s σ H _ I h) fun us s1 ⟨vs, H1, I1, r1, q1⟩ => ?_) hs hpl))
  obtain ⟨x, y, z, ex, q⟩ := q1
  subst ex
  cases r1 with
  | cons r rr =>
    cases rr with
    | cons r' rr =>
      cases rr with
      | cons r'' rr =>
        cases rr
        obtain ⟨t, rfl⟩ := r
        obtain ⟨u, rfl⟩ := r'
        obtain ⟨v, rfl⟩ := r''
        refine zip_begins3 (begins_text x t) (begins_text y u) (begins_text z v) trivial trivial trivial fun h' hz hTI hTO h1 h2 h3 hsz hk => wpAny_pyIter_zip hz ?_
        have I2 : Inv X pins σ H1 { s1 with heap := h' } := I1.kept (t' := s1.toks) hk
        have S : ZipSep3 (s1.heap.objs.size + 5) (s1.heap.objs.size + 3) (s1.heap.objs.size + 4) s1.heap.objs.size (s1.heap.objs.size + 1) (s1.heap.objs.size + 2) [s1.heap.objs.size] [s1.heap.objs.size + 1] [s1.heap.objs.size + 2] := by
          constructor <;> simp
        refine ⟨s1.heap.objs.size + 5, [s1.heap.objs.size + 5, s1.heap.objs.size + 3, s1.heap.objs.size + 4, s1.heap.objs.size, s1.heap.objs.size + 1, s1.heap.objs.size + 2], _, _, H1, rfl, I2, turn_zipS3 x y z t u v S, ⟨hz, hTI, ⟨_, _, _, hTO⟩, ⟨_, h1, rfl, rfl⟩, ⟨_, h2, rfl, rfl⟩, ⟨_, h3, rfl, rfl⟩⟩, fun c hcm => ?_, q⟩
        have e' : c = s1.heap.objs.size + 5 ∨ c = s1.heap.objs.size + 3 ∨ c = s1.heap.objs.size + 4 ∨ c = s1.heap.objs.size ∨ c = s1.heap.objs.size + 1 ∨ c = s1.heap.objs.size + 2 := by simpa using hcm
        have hle : s1.heap.objs.size ≤ c := by
          rcases e' with z | z | z | z | z | z <;> rw [z] <;> first | exact Nat.le_refl _ | exact Nat.le_add_right _ _
        exact I1.fpOk hle (I1.hok.fresh hle)
/-! ### by data -/
def zipD : List PyData → List PyData → List PyData
  | x :: xs, y :: ys => .tuple [x, y] :: zipD xs ys
  | _, _ => []
def zipD3 : List PyData → List PyData → List PyData → List PyData
  | x :: xs, y :: ys, z :: zs => .tuple [x, y, z] :: zipD3 xs ys zs
  | _, _, _ => []
theorem zipD_get : ∀ (xs ys : List PyData) (i : Nat) (d : PyData), (zipD xs ys)[i]? = some d → ∃ x y, d = .tuple [x, y] ∧ xs[i]? = some x ∧ ys[i]? = some y
  | [], _, i, d, h => by simp [zipD] at h
  | _ :: _, [], i, d, h => by simp [zipD] at h
  | x :: xs, y :: ys, 0, d, h => by simp [zipD] at h; exact ⟨x, y, h.symm, rfl, rfl⟩
  | x :: xs, y :: ys, i + 1, d, h => by
    obtain ⟨a, b, h1, h2, h3⟩ := zipD_get xs ys i d (by simpa [zipD] using h)
    exact ⟨a, b, h1, by simpa using h2, by simpa using h3⟩
theorem zipD_len : ∀ (xs ys : List PyData), (zipD xs ys).length = min xs.length ys.length
  | [], _ => by simp [zipD]
  | _ :: _, [] => by simp [zipD]
  | x :: xs, y :: ys => by simp [zipD, zipD_len xs ys]
theorem zipD3_get : ∀ (xs ys zs : List PyData) (i : Nat) (d : PyData), (zipD3 xs ys zs)[i]? = some d → ∃ x y z, d = .tuple [x, y, z] ∧ xs[i]? = some x ∧ ys[i]? = some y ∧ zs[i]? = some z
  | [], _, _, i, d, h => by simp [zipD3] at h
  | _ :: _, [], _, i, d, h => by simp [zipD3] at h
  | _ :: _, _ :: _, [], i, d, h => by simp [zipD3] at h
  | x :: xs, y :: ys, z :: zs, 0, d, h => by simp [zipD3] at h; exact ⟨x, y, z, h.symm, rfl, rfl, rfl⟩
  | x :: xs, y :: ys, z :: zs, i + 1, d, h => by
    obtain ⟨a, b, c, h1, h2, h3, h4⟩ := zipD3_get xs ys zs i d (by simpa [zipD3] using h)
    exact ⟨a, b, c, h1, by simpa using h2, by simpa using h3, by simpa using h4⟩
theorem zipD3_len : ∀ (xs ys zs : List PyData), (zipD3 xs ys zs).length = min (min xs.length ys.length) zs.length
  | [], _, _ => by simp [zipD3]
  | _ :: _, [], _ => by simp [zipD3]
  | _ :: _, _ :: _, [] => by simp [zipD3]
  | x :: xs, y :: ys, z :: zs => by simp [zipD3, zipD3_len xs ys zs]
def aZip (f g : DE) : DA := fun ρ => (f ρ).bind fun x => (g ρ).bind fun y => match x, y with
  | .tuple xs, .tuple ys => some (zipD xs ys)
  | .str a, .str b => some (zipD (signs a) (signs b))
  | _, _ => none
def aZip3 (f g h : DE) : DA := fun ρ => (f ρ).bind fun x => (g ρ).bind fun y => (h ρ).bind fun z => match x, y, z with
  | .str a, .str b, .str c => some (zipD3 (signs a) (signs b) (signs c))
  | _, _, _ => none
theorem signs_get {z : Str} {i : Nat} {d : PyData} (h : (signs z)[i]? = some d) : ∃ c, z.cps[i]? = some c ∧ d = .str ⟨#[c]⟩ := by
  unfold signs at h
  rw [List.getElem?_map, Array.getElem?_toList] at h
  cases k : z.cps[i]? with
  | none => rw [k] at h; cases h
  | some c => rw [k] at h; cases h; exact ⟨c, rfl, rfl⟩
theorem walkD_zipS2 {K : PySem.W.Frag} {V : Hp} {x y : Str} : WalkD K V (Izs2 x y) (zipD (signs x) (signs y)) :=
  ⟨fun i V1 H1 hi _ _ => by rw [zipD_len, signs_len, signs_len] at hi; exact ⟨by omega, by omega⟩, fun V1 H1 _ _ => by rw [zipD_len, signs_len, signs_len]; exact ⟨by omega, by omega, by omega⟩,
    fun i V1 H1 v H2 d hd e1 e2 y => by
      obtain ⟨T, c, d', rfl, nT, rfl, hc, hd'⟩ := y
      obtain ⟨a, b, rfl, h1, h2⟩ := zipD_get _ _ _ _ hd
      obtain ⟨c1, h3, rfl⟩ := signs_get h1
      obtain ⟨c2, h4, rfl⟩ := signs_get h2
      rw [hc] at h3
      rw [hd'] at h4
      cases h3
      cases h4
      exact ⟨upd V1 T (.tup [.str ⟨#[c]⟩, .str ⟨#[d']⟩]), Gr.laid e2 nT, .tup (.inl (.inl upd_same)) (.cons (.str _) (.cons (.str _) .nil))⟩⟩
theorem walkD_zipS3 {K : PySem.W.Frag} {V : Hp} {x y z : Str} : WalkD K V (Izs3 x y z) (zipD3 (signs x) (signs y) (signs z)) :=
  ⟨fun i V1 H1 hi _ _ => by rw [zipD3_len, signs_len, signs_len, signs_len] at hi; exact ⟨by omega, by omega, by omega⟩, fun V1 H1 _ _ => by rw [zipD3_len, signs_len, signs_len, signs_len]; exact ⟨by omega, by omega, by omega, by omega⟩,
    fun i V1 H1 v H2 d hd e1 e2 y => by
      obtain ⟨T, c, d', f, rfl, nT, rfl, hc, hd', hf⟩ := y
      obtain ⟨a, b, b', rfl, h1, h2, h5⟩ := zipD3_get _ _ _ _ _ hd
      obtain ⟨c1, h3, rfl⟩ := signs_get h1
      obtain ⟨c2, h4, rfl⟩ := signs_get h2
      obtain ⟨c3, h6, rfl⟩ := signs_get h5
      rw [hc] at h3
      rw [hd'] at h4
      rw [hf] at h6
      cases h3
      cases h4
      cases h6
      exact ⟨upd V1 T (.tup [.str ⟨#[c]⟩, .str ⟨#[d']⟩, .str ⟨#[f]⟩]), Gr.laid e2 nT, .tup (.inl (.inl upd_same)) (.cons (.str _) (.cons (.str _) (.cons (.str _) .nil)))⟩⟩
theorem walkD_zipT {K : PySem.W.Frag} {V : Hp} {p q : Addr} {xs ys : List L2.V} {ds es : List PyData} (h : SqT K V p xs) (h' : SqT K V q ys) (da : DqAll K V xs ds) (da' : DqAll K V ys es) : WalkD K V (RZ.ItzT K p q) (zipD ds es) :=
  ⟨fun i V1 H1 hi e1 e2 => by
      rw [zipD_len, ← da_len da, ← da_len da'] at hi
      exact ⟨xs, ys, _, _, e2.sqT (e1.sqT h), e2.sqT (e1.sqT h'), List.getElem?_eq_getElem (by omega), List.getElem?_eq_getElem (by omega)⟩,
    fun V1 H1 e1 e2 => ⟨xs, ys, e2.sqT (e1.sqT h), e2.sqT (e1.sqT h'), by rw [zipD_len, ← da_len da, ← da_len da']; omega⟩,
    fun i V1 H1 v H2 d hd e1 e2 y => by
      obtain ⟨T, a, b, rfl, nT, rfl, ha, hb⟩ := y
      obtain ⟨d1, d2, rfl, h1, h2⟩ := zipD_get _ _ _ _ hd
      obtain ⟨v1, k1, q1⟩ := da_get da h1
      obtain ⟨v2, k2, q2⟩ := da_get da' h2
      have := ha xs (e2.sqT (e1.sqT h))
      rw [k1] at this
      cases this
      have := hb ys (e2.sqT (e1.sqT h'))
      rw [k2] at this
      cases this
      have m := e1.trans (Ex.new (o := .tup [a, b]) (e2.back nT))
      exact ⟨upd V1 T (.tup [a, b]), Gr.laid e2 nT, .tup (.inl (.inl upd_same)) (.cons (dp_mono m q1) (.cons (dp_mono m q2) .nil))⟩⟩
section
variable {X : Cx} {e e2 e3 a b : Expr} {es : List Expr} {pos : Pos}
theorem tDA2 {K : PySem.W.Frag} {f g : DE} {σ : L2.St} {H : Hp} {Q : List V → Hp → Prop} {BV : Hp} {B : Bs} {V : Hp} {ρ : List Sl} {x y : PyData} (E : EnvD K BV B V H σ ρ) (h1 : f ρ = some x) (h2 : g ρ = some y) (q : ∀ v w V' H', Gr V H V' H' → Dq K V' v x → Dq K V' w y → Q [v, w] H') : tDA K (aCons f (aCons g aNil)) σ H Q :=
  ⟨BV, B, V, ρ, [x, y], E, by simp [aCons, aNil, h1, h2], fun vs V' H' g da => by
    cases da with
    | cons d1 da => cases da with
      | cons d2 da => cases da; exact q _ _ V' H' g d1 d2⟩
theorem di_zip {f g : DE} {p tpos : Pos} {elts : List Expr} {kk : Nat} (hg : Gl X "zip") (hm : X.mg "zip" = none) (he : PE X e (tD X.K f)) (he2 : PE X e2 (tD X.K g)) (hs : starEach [e, e2] X.env = (false, eval e X.env) :: starEach [e2] X.env := by rfl) (hs2 : starEach [e2] X.env = (false, eval e2 X.env) :: starEach [] X.env := by rfl) (hpl : (backTo pos (starEach [e2] X.env)).any (·.1) = false := by rfl) :
    PI X (.Tuple elts kk tpos) (.Call (.Name "zip" p) [e, e2] [] pos) (iD X.K (aZip f g)) :=
  pi_w (pi_or2 (RZ.pi_zipA hg hm (da_cons he (da_cons he2 da_nil hs2) hs) hs hpl) (pi_zipS2 hg hm (da_cons he (da_cons he2 da_nil hs2) hs) hs hpl)) fun σ H R ⟨BV, B, V, ρ, ds, E, hf, q⟩ => by
    obtain ⟨x, h1, hf⟩ := bind_some hf
    obtain ⟨y, h2, hf⟩ := bind_some hf
    split at hf
    · cases hf
      refine .inl (tDA2 E h1 h2 fun v w V' H' g d1 d2 => ?_)
      cases d1 with
      | tup r1 a1 => cases d2 with
        | tup r2 a2 => exact ⟨_, _, _, _, rfl, .inr ⟨g.sub.sqT r1, g.sub.sqT r2, q _ V' H' g (walkD_zipT r1 r2 a1 a2)⟩⟩
    · cases hf
      refine .inr (tDA2 E h1 h2 fun v w V' H' g d1 d2 => ?_)
      cases d1
      cases d2
      exact ⟨_, _, rfl, q _ V' H' g walkD_zipS2⟩
    · cases hf
theorem di_zip3 {f g h : DE} {p tpos : Pos} {elts : List Expr} {kk : Nat} (hg : Gl X "zip") (hm : X.mg "zip" = none) (he : PE X e (tD X.K f)) (he2 : PE X e2 (tD X.K g)) (he3 : PE X e3 (tD X.K h)) (hs : starEach [e, e2, e3] X.env = (false, eval e X.env) :: starEach [e2, e3] X.env := by rfl) (hs2 : starEach [e2, e3] X.env = (false, eval e2 X.env) :: starEach [e3] X.env := by rfl) (hs3 : starEach [e3] X.env = (false, eval e3 X.env) :: starEach [] X.env := by rfl) (hpl : (backTo pos (starEach [e2, e3] X.env)).any (·.1) = false := by rfl) :
    PI X (.Tuple elts kk tpos) (.Call (.Name "zip" p) [e, e2, e3] [] pos) (iD X.K (aZip3 f g h)) :=
  pi_w (pi_zipS3 hg hm (da_cons he (da_cons he2 (da_cons he3 da_nil hs3) hs2) hs) hs hpl) fun σ H R ⟨BV, B, V, ρ, ds, E, hf, q⟩ => by
    obtain ⟨x, h1, hf⟩ := bind_some hf
    obtain ⟨y, h2, hf⟩ := bind_some hf
    obtain ⟨z, h3, hf⟩ := bind_some hf
    split at hf
    · cases hf
      refine ⟨BV, B, V, ρ, _, E, by simp [aCons, aNil, h1, h2, h3]; rfl, fun vs V' H' g da => ?_⟩
      cases da with
      | cons d1 da => cases da with
        | cons d2 da => cases da with
          | cons d3 da =>
            cases da
            cases d1
            cases d2
            cases d3
            exact ⟨_, _, _, rfl, q _ V' H' g walkD_zipS3⟩
    · cases hf
theorem me_zip {f g : DE} (hf : ME f) (hg : ME g) : ME (aZip f g) := fun ρ ρ' d h e => by
  obtain ⟨x, h1, e⟩ := bind_some e
  obtain ⟨y, h2, e⟩ := bind_some e
  simp only [aZip, hf _ _ _ h h1, hg _ _ _ h h2, Option.bind_some]
  exact e
theorem me_zip3 {f g k : DE} (hf : ME f) (hg : ME g) (hk : ME k) : ME (aZip3 f g k) := fun ρ ρ' d h e => by
  obtain ⟨x, h1, e⟩ := bind_some e
  obtain ⟨y, h2, e⟩ := bind_some e
  obtain ⟨z, h3, e⟩ := bind_some e
  simp only [aZip3, hf _ _ _ h h1, hg _ _ _ h h2, hk _ _ _ h h3, Option.bind_some]
  exact e
end
end DL
namespace DL
open PySem PySem.Spec PyProof.Rows L2
section
variable {X : Cx} {e e2 a b : Expr} {es : List Expr} {pos : Pos}
/-! ### t[n:] of a tuple, tuple(range(n)), x[::-1], s.split(c) -/
def cutT : PyData → Option Int → Option Int → Option PyData
  | .tuple ds, lo, hi => some (.tuple (cutD ds lo hi))
  | _, _, _ => none
def dSlT (f : DE) (lo hi : Option DE) : DE := fun ρ => (f ρ).bind fun x => (oPart lo ρ).bind fun l => (oPart hi ρ).bind fun u => cutT x l u
theorem de_sliceT {e : Expr} {lo hi : Option Expr} {f : DE} {l u : Option DE} {p2 pos : Pos} (he : PE X e (tD X.K f)) (hl : PO X lo (tDO X.K l)) (hu : PO X hi (tDO X.K u)) : PE X (.Subscript e (.Slice lo hi none p2) pos) (tD X.K (dSlT f l u)) :=
  pe_w (pe_slice sl_tupA he hl hu) fun σ H Q ⟨BV, B, V, ρ, z, E, hz, q⟩ => by
    obtain ⟨d, h1, hz⟩ := bind_some hz
    obtain ⟨lv, h2, hz⟩ := bind_some hz
    obtain ⟨uv, h3, hz⟩ := bind_some hz
    refine ⟨BV, B, V, ρ, d, E, h1, fun x V1 H1 G1 D1 => ⟨BV, B, V1, ρ, lv, E.grow G1, h2, fun V2 H2 G2 => ⟨BV, B, V2, ρ, uv, (E.grow G1).grow G2, h3, fun V3 H3 G3 => ?_⟩⟩⟩
    have G := G1.trans (G2.trans G3)
    have D3 := dp_mono (G2.v.trans G3.v) D1
    cases D3 with
    | @tup pa xs1 ds1 k1 d1 =>
      cases hz
      refine ⟨_, _, rfl, G.sub.sqT k1, fun w => ?_, fun _ p n => newT G.sub (fun v V' H' g d => q v V' H' (G.trans g) d) (da_cut d1 lv uv) n⟩
      have e : cutD ds1 lv uv = ds1 := by
        unfold cutD
        rw [← da_len d1, w.1, w.2, List.drop_zero, Nat.sub_zero, da_len d1, List.take_length]
      rw [e] at q
      exact q _ V3 H3 G (.tup k1 d1)
    | _ => cases hz
def dTupRg (f : DE) : DE := fun ρ => (nRange f ρ).map PyData.tuple
theorem de_tupRg {e : Expr} {f : DE} {p p2 pos pos2 : Pos} (hc : X.calm = true) (hg : Gl X "tuple") (hm : X.mg "tuple" = none) (hg2 : Gl X "range") (hm2 : X.mg "range" = none) (he : PE X e (tD X.K f))
    (na : starEach [.Call (.Name "range" p2) [e] [] pos2] X.env = (false, eval (.Call (.Name "range" p2) [e] [] pos2) X.env) :: starEach [] X.env := by rfl) (na2 : starEach [e] X.env = (false, eval e X.env) :: starEach [] X.env := by rfl) :
    PE X (.Call (.Name "tuple" p) [.Call (.Name "range" p2) [e] [] pos2] [] pos) (tD X.K (dTupRg f)) :=
  pe_w (pe_tupRg hc hg hm (prg_1 hg2 hm2 he na2) na) fun σ H Q ⟨BV, B, V, ρ, z, E, hz, q⟩ => by
    obtain ⟨ds, hz1, rfl⟩ := map_some (x := nRange f ρ) hz
    unfold nRange at hz1
    split at hz1
    · rename_i n hn
      split at hz1
      · rename_i hb
        cases hz1
        refine ⟨BV, B, V, ρ, _, E, hn, fun x V1 H1 G1 D1 => ?_⟩
        cases D1
        refine ⟨n, rfl, ⟨by decide, by decide, by omega, by omega, by omega⟩, fun p n' => ?_⟩
        have := rg_da (K := X.K) (V := V1) 0 n
        rw [Int.sub_zero] at this
        exact newT G1.sub (fun v V' H' g d => q v V' H' (G1.trans g) d) this n'
      · cases hz1
    · cases hz1
theorem me_tupRg {f : DE} (hf : ME f) : ME (dTupRg f) := fun ρ ρ' d h e => by
  obtain ⟨x, h1, rfl⟩ := map_some (x := nRange f ρ) e
  show (nRange f ρ').map PyData.tuple = _
  rw [me_nRange hf _ _ _ h h1]
  rfl
def revP : PyData → Option PyData
  | .list ds => some (.list ds.reverse)
  | _ => none
theorem da_rev {K : PySem.W.Frag} {V : Hp} : ∀ {vs : List L2.V} {ds : List PyData}, DqAll K V vs ds → DqAll K V vs.reverse ds.reverse
  | _, _, .nil => .nil
  | _, _, .cons a b => by
    rw [List.reverse_cons, List.reverse_cons]
    exact da_app (da_rev b) (.cons a .nil)
def dRev (f : DE) : DE := d1 revP f
theorem de_rev {f : DE} {k : Nat} {p1 p2 p3 : Pos} (he : PE X e (tD X.K f)) : PE X (.Subscript e (.Slice none none (some (.UnaryOp .USub (.Constant (.int 1) k p1) p2)) p3) pos) (tD X.K (dRev f)) :=
  pe_w (pe_revL he) fun σ H Q ⟨BV, B, V, ρ, z, E, hz, q⟩ => by
    obtain ⟨d, hf, ho⟩ := d1_some hz
    refine ⟨BV, B, V, ρ, d, E, hf, fun x V1 H1 G1 D1 => ?_⟩
    cases D1 with
    | lst r1 a1 =>
      cases ho
      exact ⟨_, _, rfl, .inl (G1.sub.rd r1), fun p n => newL G1.sub (fun v V' H' g d => q v V' H' (G1.trans g) d) (da_rev a1) n⟩
    | _ => cases ho
def splitP : PyData → List PyData → Option PyData
  | .str a, [.str b] => if (b.length == 0) = false ∧ a.length ≤ 100000 then some (.list ((Txt.split a b).map .str)) else none
  | _, _ => none
theorem md_split {K : PySem.W.Frag} : MtD K (fun x xs H Q => ∃ a b, x = .str a ∧ xs = [.str b] ∧ (b.length == 0) = false ∧ a.length + 2 ≤ sizeLine ∧ rNewStrs (Txt.split a b) H Q) splitP := by
  intro V H x xs d ds z Q s hx da ho q
  cases hx with
  | str a =>
    cases da with
    | nil => cases ho
    | cons h1 h2 =>
      cases h2 with
      | cons _ _ => cases h1 <;> cases ho
      | nil =>
        cases h1 with
        | str b =>
          simp only [splitP] at ho
          split at ho
          · rename_i hb
            cases ho
            exact ⟨a, b, rfl, rfl, hb.1, Nat.le_trans (Nat.add_le_add_right hb.2 2) (by decide), fun p n => newL s q (da_strs _) n⟩
          · cases ho
        | _ => cases ho
  | _ => cases da <;> (try cases ho) <;> rename_i h1 h2 <;> cases h2 <;> cases ho
theorem split_ty (d : PyData) (ds : List PyData) (z : PyData) (h : splitP d ds = some z) : tyD "str" d = true := by
  cases d <;> first | rfl | (simp [splitP] at h)
/-- a, b = what raises -/
theorem dsr_asg {W : WX} {R : DX} {tg : Expr} {is : List Nat} {g : DG} (h : PE X e (eR X.K X.mg W R)) (hg : PG X tg (gD X.K is g)) (hs : swapsWithSole [tg] e pos.line X.env = pure false := by rfl) (hw : swappedStores [tg] e X.env = pure none := by rfl)
    (h1 : (assignEach [tg] X.env).map (·.2) = [assign tg X.env] := by rfl) : PS X (.Assign [tg] e pos) (sR X.K X.mg W R) := ps_w (ps_asg h hg hs hw h1) fun D σ H h => h
/-- name = [..], a list of its own -/
theorem ds_ownLc {i : Nat} {y : Str} {py : Pos} {elt tg iter : Expr} {ifs : List Expr} {scope : Scope} {own : List (Str × Nat)} {spos : Pos} {it : DA} {is : List Nat} {g : DG} {t : DB} {f : DE} (hc : X.calm = true) (hN : X.N.Nodup) (hy : X.N[i]? = some y) (hyl : X.env.scope.names.lookup y = some .local)
    (hsw : swapsWith (.ListComp elt [⟨tg, iter, ifs, 0⟩] scope pos) (some (.Name y py)) spos.line X.env = pure true) (hi : PI X tg iter (iD X.K it)) (ok : BlkOk X.N X.env.scope scope own) (hv : ∀ i ∈ is, i ∈ own.map (·.2))
    (hg : ∀ (s : Shared) (H : Hp) (C : Addr) (cl : List (Str × Addr)) (fp : List Addr), PG (X.blk s H scope (compEnvC scope cl C X.env) fp) tg (gD X.K is g)) (ht : ∀ (s : Shared) (H : Hp) (C : Addr) (cl : List (Str × Addr)) (fp : List Addr), PTs (X.blk s H scope (compEnvC scope cl C X.env) fp) ifs (tDT X.K t))
    (he : ∀ (s : Shared) (H : Hp) (C : Addr) (cl : List (Str × Addr)) (fp : List Addr), PE (X.blk s H scope (compEnvC scope cl C X.env) fp) elt (tD X.K f)) (hs : ∀ x, foldedSetIterable iter X.env x = pure x := by intro _; rfl) :
    PS X (.Assign [.Name y py] (.ListComp elt [⟨tg, iter, ifs, 0⟩] scope pos) spos) (sD X.K (sOwn i (nLc it g t f (own.map (·.2))))) :=
  ps_w (ps_setLc hc hN hy hyl hsw hi ok hg ht he hs) fun D σ H ⟨BV, B, V, ρ, r, E, h, q⟩ => by
    unfold sOwn at h
    cases h1 : nLc it g t f (own.map (·.2)) ρ with
    | none => rw [h1] at h; cases h
    | some ds =>
      rw [h1] at h
      cases h
      exact tLc_of hv σ H _ ⟨BV, B, V, ρ, ds, E, h1, fun p vs V' H' g n hv h' da => q _ V' H' (E.setNew g (Own.lst h' da) (fun q z => by rw [z]; exact ⟨n, hv⟩) i rfl)⟩
/-- str(n) of a small number -/
def strP : List PyData → Option PyData
  | [.int i] => if 0 ≤ i ∧ i < 100 then some (.str (toString i)) else none
  | _ => none
theorem cd_str {K : PySem.W.Frag} : CallD K (fun xs H Q => ∃ i : Int, xs = [.int i] ∧ i.natAbs.log2 < 1920 ∧ Q (.str (toString i)) H) strP := by
  intro V H xs ds z Q s da ho q
  cases da with
  | nil => cases ho
  | cons h1 h2 =>
    cases h2 with
    | cons _ _ => cases h1 <;> cases ho
    | nil =>
      cases h1 with
      | int i =>
        simp only [strP] at ho
        split at ho
        · rename_i hb
          cases ho
          refine ⟨i, rfl, ?_, keep s q (.str _)⟩
          have h : i.natAbs < 100 := by omega
          have := Nat.log2_le_self i.natAbs
          omega
        · cases ho
      | _ => cases ho
end
end DL

namespace DL
open PySem L2
/-! ### more of the pure part -/
theorem eqStr {a b : Str} (ha : PyData.strOk a = true) (hb : PyData.strOk b = true) : eqP (.str a) (.str b) = some (.bool (a == b)) := by
  have h : ∀ z : Str, PyData.strOk z = true → SeqAt.shaped (.str z) = true := fun z hz => by
    simp [SeqAt.shaped, PyData.canLay0, PyData.depth, hz]
  unfold eqP
  rw [h a ha, h b hb]
  simp [PyData.eqv]
theorem neStr {a b : Str} (ha : PyData.strOk a = true) (hb : PyData.strOk b = true) : nePS (.str a) (.str b) = some (.bool (!(a == b))) := by
  have h : ∀ z : Str, PyData.strOk z = true → SeqAt.shaped (.str z) = true := fun z hz => by
    simp [SeqAt.shaped, PyData.canLay0, PyData.depth, hz]
  have e : nePS (.str a) (.str b) = neP (.str a) (.str b) := nePS.eq_2 _ _ (fun ds h1 h2 => by cases h1)
  rw [e]
  unfold neP
  rw [h a ha, h b hb]
  simp [PyData.eqv]
theorem tS_pk {a b c d : Nat} (ha : a < 4) (hb : b < 4) (hc : c < 4) (hd : d < 4) : tS (pk a b c d) = ⟨#[trT a, trT b, trT c, trT d]⟩ := by
  obtain ⟨h0, h1, h2, h3, _⟩ := pk_dg ha hb hc hd
  unfold tS
  rw [h0, h1, h2, h3]
theorem sS_pk {a b c d : Nat} (ha : a < 4) (hb : b < 4) (hc : c < 4) (hd : d < 4) : sS (pk a b c d) = ⟨#[sgT a, sgT b, sgT c, sgT d]⟩ := by
  obtain ⟨h0, h1, h2, h3, _⟩ := pk_dg ha hb hc hd
  unfold sS
  rw [h0, h1, h2, h3]
theorem dg_pk_fin : allB 256 (fun t => Nat.beq (pk (dg t 0) (dg t 1) (dg t 2) (dg t 3)) t) = true := by decide +kernel
theorem dg_pk {t : Nat} (h : t < 256) : pk (dg t 0) (dg t 1) (dg t 2) (dg t 3) = t := Nat.eq_of_beq_eq_true (allB_all dg_pk_fin t h)
theorem dg_ext {t u : Nat} (ht : t < 256) (hu : u < 256) (h : ∀ i, i < 4 → dg t i = dg u i) : t = u := by
  rw [← dg_pk ht, ← dg_pk hu, h 0 (by decide), h 1 (by decide), h 2 (by decide), h 3 (by decide)]
theorem trT_inj : ∀ a b : Fin 4, trT a = trT b → a = b := by decide
theorem sgT_inj : ∀ a b : Fin 4, sgT a = sgT b → a = b := by decide
theorem tS_inj {t u : Nat} (ht : t < 256) (hu : u < 256) (h : tS t = tS u) : t = u := by
  unfold tS at h
  injection h with h
  have h' : [trT (dg t 0), trT (dg t 1), trT (dg t 2), trT (dg t 3)] = [trT (dg u 0), trT (dg u 1), trT (dg u 2), trT (dg u 3)] := congrArg Array.toList h
  simp only [List.cons.injEq, and_true] at h'
  have k : ∀ a b : Nat, a < 4 → b < 4 → trT a = trT b → a = b := fun a b ha hb e => Fin.mk.inj (trT_inj ⟨a, ha⟩ ⟨b, hb⟩ e)
  refine dg_ext ht hu fun i hi => ?_
  rcases lt4 hi with rfl | rfl | rfl | rfl
  · exact k _ _ (dg_lt _ _) (dg_lt _ _) h'.1
  · exact k _ _ (dg_lt _ _) (dg_lt _ _) h'.2.1
  · exact k _ _ (dg_lt _ _) (dg_lt _ _) h'.2.2.1
  · exact k _ _ (dg_lt _ _) (dg_lt _ _) h'.2.2.2
theorem sS_inj {t u : Nat} (ht : t < 256) (hu : u < 256) (h : sS t = sS u) : t = u := by
  unfold sS at h
  injection h with h
  have h' : [sgT (dg t 0), sgT (dg t 1), sgT (dg t 2), sgT (dg t 3)] = [sgT (dg u 0), sgT (dg u 1), sgT (dg u 2), sgT (dg u 3)] := congrArg Array.toList h
  simp only [List.cons.injEq, and_true] at h'
  have k : ∀ a b : Nat, a < 4 → b < 4 → sgT a = sgT b → a = b := fun a b ha hb e => Fin.mk.inj (sgT_inj ⟨a, ha⟩ ⟨b, hb⟩ e)
  refine dg_ext ht hu fun i hi => ?_
  rcases lt4 hi with rfl | rfl | rfl | rfl
  · exact k _ _ (dg_lt _ _) (dg_lt _ _) h'.1
  · exact k _ _ (dg_lt _ _) (dg_lt _ _) h'.2.1
  · exact k _ _ (dg_lt _ _) (dg_lt _ _) h'.2.2.1
  · exact k _ _ (dg_lt _ _) (dg_lt _ _) h'.2.2.2
theorem beq_nat {t u : Nat} {p : Bool} (h1 : t = u → p = true) (h2 : p = true → t = u) : p = Nat.beq t u := by
  cases h : Nat.beq t u with
  | true => exact h1 (Nat.eq_of_beq_eq_true h)
  | false =>
    cases p with
    | false => rfl
    | true => rw [h2 rfl, Nat.beq_refl] at h; cases h
theorem tS_beq {t u : Nat} (ht : t < 256) (hu : u < 256) : (tS t == tS u) = Nat.beq t u := beq_nat (fun h => by rw [h]; exact beq_self_eq_true _) (fun h => tS_inj ht hu (eq_of_beq h))
theorem sS_beq {t u : Nat} (ht : t < 256) (hu : u < 256) : (sS t == sS u) = Nat.beq t u := beq_nat (fun h => by rw [h]; exact beq_self_eq_true _) (fun h => sS_inj ht hu (eq_of_beq h))
theorem eqT {t u : Nat} (ht : t < 256) (hu : u < 256) : eqP (.str (tS t)) (.str (tS u)) = some (.bool (Nat.beq t u)) := by rw [eqStr (tS_ok t) (tS_ok u), tS_beq ht hu]
theorem neT {t u : Nat} (ht : t < 256) (hu : u < 256) : nePS (.str (tS t)) (.str (tS u)) = some (.bool (!Nat.beq t u)) := by rw [neStr (tS_ok t) (tS_ok u), tS_beq ht hu]
theorem eqS {t u : Nat} (ht : t < 256) (hu : u < 256) : eqP (.str (sS t)) (.str (sS u)) = some (.bool (Nat.beq t u)) := by rw [eqStr (sS_ok t) (sS_ok u), sS_beq ht hu]
theorem neS {t u : Nat} (ht : t < 256) (hu : u < 256) : nePS (.str (sS t)) (.str (sS u)) = some (.bool (!Nat.beq t u)) := by rw [neStr (sS_ok t) (sS_ok u), sS_beq ht hu]
/-- a walk over the arms that are there -/
theorem forGo_v4 {g : DG} {F : DS} {P : Nat → List Sl → Prop} (v : Nat → Bool) (h : ∀ k, k < 4 → v k = true → ∀ ρ, P k ρ → ∃ ρ1 ρ', g (A k) ρ = some ρ1 ∧ F ρ1 = some (.nx ρ') ∧ P (k + 1) ρ') (h' : ∀ k, k < 4 → v k = false → ∀ ρ, P k ρ → P (k + 1) ρ) {ρ : List Sl} (p : P 0 ρ) : ∃ ρ', forGo g F (l4 (v 0) (v 1) (v 2) (v 3)) ρ = some (.nx ρ') ∧ P 4 ρ' := by
  have one : ∀ k, k < 4 → ∀ (ds : List PyData) ρ, P k ρ → (∀ ρ', P (k + 1) ρ' → ∃ ρ'', forGo g F ds ρ' = some (.nx ρ'') ∧ P 4 ρ'') → ∃ ρ'', forGo g F (cond (v k) [A k] [] ++ ds) ρ = some (.nx ρ'') ∧ P 4 ρ'' := by
    intro k hk ds ρ p q
    cases hv : v k with
    | false => exact q ρ (h' k hk hv ρ p)
    | true =>
      obtain ⟨ρ1, ρ2, e1, e2, p2⟩ := h k hk hv ρ p
      obtain ⟨ρ3, e3, p3⟩ := q ρ2 p2
      refine ⟨ρ3, ?_, p3⟩
      simp only [cond_true, List.cons_append, List.nil_append, forGo, e1, e2, Option.bind_some]
      exact e3
  unfold l4
  refine one 0 (by decide) _ ρ p fun ρ p => one 1 (by decide) _ ρ p fun ρ p => one 2 (by decide) _ ρ p fun ρ p => ?_
  have := one 3 (by decide) [] ρ p fun ρ p => ⟨ρ, rfl, p⟩
  rwa [List.append_nil] at this
/-- what a comprehension gives where all goes well -/
theorem lc_yes {g : DG} {f : DE} {ρ : List Sl} {α : Type} (e : α → PyData) (R : α → List Sl) (h : α → PyData) : ∀ (ts : List α), (∀ x ∈ ts, g (e x) ρ = some (R x) ∧ f (R x) = some (h x)) → lcGo g tYesD f ρ (ts.map e) = some (ts.map h)
  | [], _ => rfl
  | x :: ts, k => by
    obtain ⟨k1, k2⟩ := k x List.mem_cons_self
    have r := lc_yes e R h ts fun y hy => k y (List.mem_cons_of_mem _ hy)
    simp only [List.map_cons, lcGo, k1, k2, r, Option.bind_some, tYesD, if_true, Option.map_some]
theorem anyP_bools {α : Type} (p : α → Bool) : ∀ ts : List α, anyP [.list (ts.map fun t => .bool (p t))] = some (.bool (ts.any p)) := by
  intro ts
  have h : ∀ ts : List α, asBools (ts.map fun t => .bool (p t)) = some (ts.map p) := fun ts => by
    induction ts with
    | nil => rfl
    | cons x r ih => simp [asBools, ih]
  show (asBools _).map _ = _
  rw [h]
  simp [List.any_map]
theorem any_find {α : Type} (p : α → Bool) : ∀ ts : List α, ts.any p = (ts.find? p).isSome
  | [] => rfl
  | x :: r => by
    rw [List.any_cons, List.find?_cons, any_find p r]
    cases p x <;> rfl
theorem Le.nil : Le [] [] := ⟨rfl, fun _ _ h => by simp at h⟩
theorem Le.un {ρ ρ' : List Sl} {x : Sl} (h : Le ρ ρ') : Le (.un :: ρ) (x :: ρ') := ⟨by simp [h.1], fun i s e => by
  cases i with
  | zero => cases e; exact .inl rfl
  | succ i => exact h.2 i s e⟩
theorem Le.same {ρ ρ' : List Sl} {x : Sl} (h : Le ρ ρ') : Le (x :: ρ) (x :: ρ') := ⟨by simp [h.1], fun i s e => by
  cases i with
  | zero => cases e; exact .inr rfl
  | succ i => exact h.2 i s e⟩
/-- the class that is raised -/
def isX (c : Option Str) (x : Option Str) : Bool := match c, x with
  | some a, some b => a == b
  | none, none => true
  | _, _ => false
theorem of_isX {c x : Option Str} (h : isX c x = true) : x = c := by
  unfold isX at h
  split at h
  · rw [eq_of_beq h]
  · rfl
  · cases h
theorem lastIx (xs : List PyData) (x : PyData) : atI (xs ++ [x]) (-1) = some x := by
  have h1 : ((xs ++ [x]).length : Int) = xs.length + 1 := by simp
  unfold atI ixN
  rw [if_neg (by decide), if_pos (by omega), h1]
  have h2 : (-1 + ((xs.length : Int) + 1)).toNat = xs.length := by omega
  rw [h2]
  simp
theorem addL {xs ys : List PyData} (h : xs.length + ys.length ≤ 100000) : addP (.list xs) (.list ys) = some (.list (xs ++ ys)) := by
  simp [addP, h]
theorem drop0 {t : Nat} (ht : t < 256) : dropT t 0 = t := dg_pk ht
theorem try_rt {i : Nat} {F : DS} {R : DX} {tbl : List (Str × DS)} {ρ ρ' : List Sl} {c : Str} {G : DS} {d : PyData} (hF : F ρ = none) (hR : R ρ = some (c, ρ')) (hG : tbl.lookup c = some G) (hi : i < ρ'.length) (hd : G (ρ'.set i .un) = some (.rt d)) : sTry i F R tbl ρ = some (.rt d) := by
  unfold sTry
  rw [hF]
  simp only [hR, Option.bind_some, hG, hi, if_true, hd]
theorem rCall1 {g : List PyData → Option Str} {fs : DA} {ρ : List Sl} {ds : List PyData} {c : Str} (h1 : fs ρ = some ds) (h2 : g ds = some c) : rCall g fs ρ = some (c, ρ) := by
  simp only [rCall, h1, Option.bind_some, h2, Option.map_some]
theorem lt16 {m : Nat} (h : m < 16) : m = 0 ∨ m = 1 ∨ m = 2 ∨ m = 3 ∨ m = 4 ∨ m = 5 ∨ m = 6 ∨ m = 7 ∨ m = 8 ∨ m = 9 ∨ m = 10 ∨ m = 11 ∨ m = 12 ∨ m = 13 ∨ m = 14 ∨ m = 15 := by omega
theorem LL_eq (a b : List Nat) : eqP (LL a) (LL b) = some (.bool (PyData.eqv (LL a) (LL b))) := by
  unfold eqP
  rw [LL_shaped, LL_shaped]
  rfl
theorem LL_ne (a b : List Nat) : nePS (LL a) (LL b) = some (.bool (!PyData.eqv (LL a) (LL b))) := by
  have e : nePS (LL a) (LL b) = neP (LL a) (LL b) := nePS.eq_2 _ _ (fun ds h1 h2 => by cases h1)
  rw [e]
  unfold neP
  rw [LL_shaped, LL_shaped]
  rfl
/-! ### the other side of the road -/
def sw (c : Nat) : Nat := cond (Nat.beq c 1) 3 (cond (Nat.beq c 3) 1 c)
theorem sw_lt {c : Nat} (h : c < 4) : sw c < 4 := by rcases lt4 h with rfl | rfl | rfl | rfl <;> decide
def mirS (s : Nat) : Nat := pk (dg s 0) (dg s 3) (dg s 2) (dg s 1)
def mirT (t : Nat) : Nat := pk (sw (dg t 0)) (sw (dg t 3)) (sw (dg t 2)) (sw (dg t 1))
def mirM (m : Nat) : Nat := mk4 (tb m 0) (tb m 3) (tb m 2) (tb m 1)
theorem mirS_lt (s : Nat) : mirS s < 256 := (pk_dg (dg_lt s 0) (dg_lt s 3) (dg_lt s 2) (dg_lt s 1)).2.2.2.2
theorem mirT_lt (t : Nat) : mirT t < 256 := (pk_dg (sw_lt (dg_lt t 0)) (sw_lt (dg_lt t 3)) (sw_lt (dg_lt t 2)) (sw_lt (dg_lt t 1))).2.2.2.2
def lfM (s t : Nat) : List Nat := (runM (rc (mirS s)) (mirT t)).1.map mirM
def smB (s t : Nat) : Bool := PyData.eqv (LL (runM (rc s) t).1) (LL (lfM s t))
theorem tr1_sw {c : Nat} (h : c < 4) {p : Nat → Option PyData} (h0 : p 0 = some (.str (tr1 (sw 0)))) (h1 : p 1 = some (.str (tr1 (sw 1)))) (h2 : p 2 = some (.str (tr1 (sw 2)))) (h3 : p 3 = some (.str (tr1 (sw 3)))) : p c = some (.str (tr1 (sw c))) := by
  rcases lt4 h with rfl | rfl | rfl | rfl <;> assumption
/-- traffic with four vehicles, ascending -/
def fullB (t : Nat) : Bool := vB t 0 && (vB t 1 && (vB t 2 && vB t 3))
def T81 : List Nat := TL.filter fullB
theorem T81_lt {t : Nat} (h : t ∈ T81) : t < 256 := TL_lt (List.mem_filter.mp h).1
theorem T81_len : T81.length = 81 := by decide +kernel
theorem seq_nx {F G : DS} {ρ ρ' : List Sl} {r : Fl} (h : F ρ = some (.nx ρ')) (h2 : G ρ' = some r) : sSeq F G ρ = some r := by
  unfold sSeq
  rw [h]
  exact h2
theorem fn_rt {N : Nat} {F : DS} {ds : List PyData} {d : PyData} (h : F (startD N ds) = some (.rt d)) : fnDen N F ds = some d := by
  unfold fnDen
  rw [h]
  rfl
end DL

namespace DL
open PySem PySem.Spec PyProof.Rows L2
/-! ### a dict in a slot: its keys are numbers -/
def dkAt (i : Nat) (ρ : List Sl) : Option (List (Int × PyData)) := match ρ[i]? with
  | some (.dk kvs) => some kvs
  | _ => none
theorem dkAt_some {i : Nat} {ρ : List Sl} {xs : List (Int × PyData)} (h : dkAt i ρ = some xs) : ρ[i]? = some (.dk xs) := by
  unfold dkAt at h
  split at h
  · rename_i e; cases h; exact e
  · cases h
def dkGet : List (Int × PyData) → Int → Option PyData
  | [], _ => none
  | (j, d) :: r, k => if j = k then some d else dkGet r k
def dkPut (kvs : List (Int × PyData)) (k : Int) (d : PyData) : List (Int × PyData) := if (kvs.any fun kv => decide (kv.1 = k)) = true then kvs.map (fun kv => if kv.1 = k then (kv.1, d) else kv) else kvs ++ [(k, d)]
theorem dk_get {K : PySem.W.Frag} {V : Hp} : ∀ {vs : List (Key × L2.V)} {ds : List (Int × PyData)} {k : Int} {d : PyData}, DkAll K V vs ds → dkGet ds k = some d → ∃ v, valV vs (.inl k) = some v ∧ Dq K V v d
  | _, _, _, _, .nil, h => by cases h
  | _, _, k, d, .cons (k := j) (vs := vs) a b, h => by
    unfold dkGet at h
    by_cases q : j = k
    · rw [if_pos q] at h
      cases h
      exact ⟨_, valV_pos (congrArg Sum.inl q), a⟩
    · rw [if_neg q] at h
      obtain ⟨v, h1, h2⟩ := dk_get b h
      exact ⟨v, by rw [valV_neg (fun z => q (Sum.inl.inj z))]; exact h1, h2⟩
theorem dk_any {K : PySem.W.Frag} {V : Hp} {k : Int} : ∀ {vs : List (Key × L2.V)} {ds : List (Int × PyData)}, DkAll K V vs ds → (vs.any fun kv => decide (kv.1 = .inl k)) = ds.any fun kv => decide (kv.1 = k)
  | _, _, .nil => rfl
  | _, _, .cons (k := j) a b => by
    rw [List.any_cons, List.any_cons, dk_any b]
    congr 1
    by_cases q : j = k
    · subst q; simp
    · have n : ¬ (Sum.inl j : Key) = .inl k := fun z => q (Sum.inl.inj z)
      rw [decide_eq_false n, decide_eq_false q]
theorem dk_map {K : PySem.W.Frag} {V : Hp} {k : Int} {v : L2.V} {d : PyData} (h : Dq K V v d) : ∀ {vs : List (Key × L2.V)} {ds : List (Int × PyData)}, DkAll K V vs ds → DkAll K V (vs.map fun kv => if kv.1 = .inl k then (kv.1, v) else kv) (ds.map fun kv => if kv.1 = k then (kv.1, d) else kv)
  | _, _, .nil => .nil
  | _, _, .cons (k := j) a b => by
    rw [List.map_cons, List.map_cons]
    by_cases q : j = k
    · subst q
      rw [if_pos rfl, if_pos rfl]
      exact .cons h (dk_map h b)
    · rw [if_neg (show ¬ (Sum.inl j : Key) = .inl k from fun z => q (Sum.inl.inj z)), if_neg q]
      exact .cons a (dk_map h b)
theorem dk_snoc {K : PySem.W.Frag} {V : Hp} {k : Int} {v : L2.V} {d : PyData} (h : Dq K V v d) : ∀ {vs : List (Key × L2.V)} {ds : List (Int × PyData)}, DkAll K V vs ds → DkAll K V (vs ++ [(.inl k, v)]) (ds ++ [(k, d)])
  | _, _, .nil => .cons h .nil
  | _, _, .cons a b => .cons a (dk_snoc h b)
theorem dk_put {K : PySem.W.Frag} {V : Hp} {vs : List (Key × L2.V)} {ds : List (Int × PyData)} {k : Int} {v : L2.V} {d : PyData} (a : DkAll K V vs ds) (h : Dq K V v d) : DkAll K V (putK vs (.inl k) v) (dkPut ds k d) := by
  unfold putK dkPut
  rw [dk_any a]
  split
  · exact dk_map h a
  · exact dk_snoc h a
theorem dk_len {K : PySem.W.Frag} {V : Hp} : ∀ {vs : List (Key × L2.V)} {ds : List (Int × PyData)}, DkAll K V vs ds → vs.length = ds.length
  | _, _, .nil => rfl
  | _, _, .cons _ b => by simp [dk_len b]
theorem dk_val {K : PySem.W.Frag} {BV : Hp} {B : Bs} {V H : Hp} {σ : L2.St} {ρ : List Sl} {i : Nat} {xs : List (Int × PyData)} (E : EnvD K BV B V H σ ρ) (e : ρ[i]? = some (.dk xs)) : ∃ p vs, σ[i]? = some (some (.ref p)) ∧ H p = some (.dK vs) ∧ DkAll K V vs xs := by
  obtain ⟨o, q1, F, q2⟩ := E.sl i _ e
  have own := q2.own
  cases o with
  | none => exact own.elim
  | some v =>
    obtain ⟨p, vs, rfl, h1, h2, h3⟩ := own
    exact ⟨p, vs, q1, h1, h2⟩
theorem EnvA.writeDk {K : PySem.W.Frag} {BV : Hp} {B : Bs} {V H : Hp} {σ : L2.St} {ρ : List Sl} {i : Nat} {xs ds : List (Int × PyData)} {p : Addr} {us : List (Key × L2.V)} (E : EnvD K BV B V H σ ρ) (e : ρ[i]? = some (.dk xs)) (es : σ[i]? = some (some (.ref p))) (h4 : DkAll K V us ds) :
    EnvD K BV B V (upd H p (.dK us)) σ (ρ.set i (.dk ds)) := by
  obtain ⟨o, F, q1, ok, ch⟩ := E.change e
  rw [es] at q1; cases q1
  obtain ⟨p', vs', e', k1, k2, k3⟩ := ok.own
  cases e'
  exact ch _ _ F (fun q n _ => upd_ne fun z => n ((k3 q).2 z)) ⟨p, us, rfl, upd_same, h4, k3⟩ trivial fun q z => .inl z
section
variable {X : Cx} {e a b o : Expr} {pos : Pos}
def dkNew : DSl := fun _ => some (.dk [])
theorem ts_dk : PE X (.Dict [] [] pos) (tSl X.K dkNew) := pe_w pe_dnewK fun σ H Q ⟨BV, B, V, ρ, s, E, hs, q⟩ => by
  cases hs
  intro p n
  exact q _ V _ (fun q => q = p) (Gr.held E.sub n) ⟨p, [], rfl, upd_same, .nil, fun _ => Iff.rfl⟩ rfl fun z hz => by rw [hz]; exact ⟨n, E.sub.back n⟩
def dDkGet (i : Nat) (g : DE) : DE := fun ρ => (dkAt i ρ).bind fun kvs => (g ρ).bind fun y => match y with
  | .int k => dkGet kvs k
  | _ => none
theorem de_dkGet {i : Nat} {g : DE} (hu : X.A.units + 1 < cLine) (ho : PE X o (tVar i)) (hb : PE X b (tD X.K g)) (hs : NoSl b) : PE X (.Subscript o b pos) (tD X.K (dDkGet i g)) :=
  pe_w (pe_dget hu ho hb hs) fun σ H Q ⟨BV, B, V, ρ, z, E, hz, q⟩ => by
    unfold dDkGet at hz
    obtain ⟨kvs, h1, hz⟩ := bind_some hz
    obtain ⟨y, h2, hz⟩ := bind_some hz
    obtain ⟨p, vs, es, k1, k2⟩ := dk_val E (dkAt_some h1)
    refine ⟨.ref p, es, BV, B, V, ρ, y, E, h2, fun v V' H' g1 d1 => ?_⟩
    cases d1 with
    | int k =>
      obtain ⟨w, r1, r2⟩ := dk_get (dk_mono g1.v k2) hz
      exact ⟨p, w, rfl, by have := DGet.k (k := .inl k) (g1.h _ _ k1); rw [r1] at this; exact this, q w V' H' g1 r2⟩
    | _ => cases hz
def sDkSet (i : Nat) (g f : DE) : DS := fun ρ => (f ρ).bind fun d => (dkAt i ρ).bind fun kvs => (g ρ).bind fun y => match y with
  | .int k => if kvs.length < 100000 then some (.nx (ρ.set i (.dk (dkPut kvs k d)))) else none
  | _ => none
theorem ds_dkSet {i : Nat} {g f : DE} {p2 : Pos} (hu : X.A.units + 1 < cLine) (ho : PE X o (tVar i)) (hb : PE X b (tD X.K g)) (he : PE X e (tD X.K f)) (hs : swapsWith e (some (.Subscript o b p2)) pos.line X.env = pure false := by rfl) : PS X (.Assign [.Subscript o b p2] e pos) (sD X.K (sDkSet i g f)) :=
  ps_w (ps_dput hu ho hb he hs) fun D σ H ⟨BV, B, V, ρ, r, E, h, q⟩ => by
    unfold sDkSet at h
    obtain ⟨d, h1, h⟩ := bind_some h
    obtain ⟨kvs, h2, h⟩ := bind_some h
    obtain ⟨y, h3, h⟩ := bind_some h
    refine ⟨BV, B, V, ρ, d, E, h1, fun v V1 H1 g1 d1 => ?_⟩
    obtain ⟨p, vs, es, k1, k2⟩ := dk_val (E.grow g1) (dkAt_some h2)
    refine ⟨.ref p, es, BV, B, V1, ρ, y, E.grow g1, h3, fun w V2 H2 g2 d2 => ?_⟩
    cases d2 with
    | int k =>
      dsimp only at h
      split at h
      · rename_i hz
        cases h
        exact ⟨p, _, rfl, DPut.k (k := .inl k) (g2.h _ _ k1) (by rw [dk_len k2]; exact line_lt hz), q σ V2 _ (((E.grow g1).grow g2).writeDk (dkAt_some h2) es (dk_put (dk_mono g2.v k2) (dp_mono g2.v d1)))⟩
      · cases h
    | _ => cases h
/-! ### x in a list of tuples -/
def inDeep (x : PyData) : PyData → Option Bool
  | .list ds => if (SeqAt.shaped x && SeqAt.shaped (.list ds)) = true then some (ds.any fun z => PyData.eqv z x) else none
  | _ => none
def inDP (x y : PyData) : Option PyData := (inDeep x y).map .bool
def notInDP (x y : PyData) : Option PyData := (inDeep x y).map fun b => .bool (!b)
theorem inDeep_core {K : PySem.W.Frag} {V H : Hp} {x y : L2.V} {d e : PyData} {b : Bool} (s : Ex V H) (hx : Dq K V x d) (hy : Dq K V y e) (h : inDeep d e = some b) : ∃ ds, Dp K H x d ∧ Dp K H y (.list ds) ∧ SeqAt.shaped d = true ∧ SeqAt.shaped (.list ds) = true ∧ b = ds.any fun z => PyData.eqv z d := by
  cases e with
  | list ds =>
    simp only [inDeep] at h
    split at h
    · rename_i hs
      cases h
      rw [Bool.and_eq_true] at hs
      exact ⟨ds, (dp_mono s hx).dp (noLk_of _ (SeqAt.canLay_of_shaped hs.1)), (dp_mono s hy).dp (noLk_of _ (SeqAt.canLay_of_shaped hs.2)), hs.1, hs.2, rfl⟩
    · cases h
  | _ => cases h
theorem od_inDP {K : PySem.W.Frag} : OpD K (rInD K) inDP := by
  intro V H x y d e z Q s hx hy ho q
  obtain ⟨b, h, rfl⟩ := map_some ho
  obtain ⟨ds, h1, h2, h3, h4, rfl⟩ := inDeep_core s hx hy h
  exact ⟨d, ds, h1, h2, h3, h4, keep s q (.bl _)⟩
theorem od_notInDP {K : PySem.W.Frag} : OpD K (rNotInD K) notInDP := by
  intro V H x y d e z Q s hx hy ho q
  obtain ⟨b, h, rfl⟩ := map_some ho
  obtain ⟨ds, h1, h2, h3, h4, rfl⟩ := inDeep_core s hx hy h
  exact ⟨d, ds, h1, h2, h3, h4, keep s q (.bl _)⟩
theorem u65 {k : Nat} {A : Around} (hr : Room k A) : A.units + 65 < cLine := by have := hr.un; omega
end
end DL

namespace DL
open PySem PySem.Spec PyProof.Rows L2
/-! ### objects in slots -/
def obAt (c : Str) (i : Nat) (ρ : List Sl) : Option (List (Str × Fv)) := match ρ[i]? with
  | some (.ob _ c' fs) => if c' = c then some fs else none
  | _ => none
def obSet (i : Nat) (fs : List (Str × Fv)) (ρ : List Sl) : List Sl := match ρ[i]? with
  | some (.ob an c _) => ρ.set i (.ob an c fs)
  | _ => ρ
theorem obAt_some {c : Str} {i : Nat} {ρ : List Sl} {fs : List (Str × Fv)} (h : obAt c i ρ = some fs) : ∃ an, ρ[i]? = some (.ob an c fs) := by
  unfold obAt at h
  split at h
  · rename_i an c' fs' e
    split at h
    · rename_i ec
      cases h
      rw [ec] at e
      exact ⟨an, e⟩
    · cases h
  · cases h
theorem obSet_eq {i : Nat} {ρ : List Sl} {an : Bool} {c : Str} {fs fs' : List (Str × Fv)} (h : ρ[i]? = some (.ob an c fs)) : obSet i fs' ρ = ρ.set i (.ob an c fs') := by
  unfold obSet
  rw [h]
def putFv (f : Str) (v : Fv) : List (Str × Fv) → List (Str × Fv)
  | [] => [(f, v)]
  | (g, x) :: r => if g = f then (g, v) :: r else (g, x) :: putFv f v r
section
variable {K : PySem.W.Frag} {V H : Hp}
theorem lk_pos {α : Type} {n f : Str} {x : α} {r : List (Str × α)} (h : n = f) : List.lookup f ((n, x) :: r) = some x := by
  have hb : (f == n) = true := beq_iff_eq.mpr h.symm
  simp only [List.lookup, hb]
theorem lk_neg {α : Type} {n f : Str} {x : α} {r : List (Str × α)} (h : ¬ n = f) : List.lookup f ((n, x) :: r) = List.lookup f r := by
  have hb : (f == n) = false := beq_eq_false_iff_ne.mpr fun z => h z.symm
  simp only [List.lookup, hb]
theorem fs_d {f : Str} {x : PyData} : ∀ {gs : List (Str × L2.V)} {fs : List (Str × Fv)} {G : Addr → Prop}, FsOk K V H gs fs G → fs.lookup f = some (.d x) → ∃ v, gs.lookup f = some v ∧ Dq K V v x
  | _, _, _, .nil, h => by cases h
  | _, _, _, .d (n := n) a r, h => by
    by_cases q : n = f
    · rw [lk_pos q] at h ⊢
      cases h
      exact ⟨_, rfl, a⟩
    · rw [lk_neg q] at h ⊢
      exact fs_d r h
  | _, _, _, .own (n := n) a b c r, h => by
    by_cases q : n = f
    · rw [lk_pos q] at h
      cases h
    · rw [lk_neg q] at h ⊢
      exact fs_d r h
theorem fs_own {f : Str} {xs : List PyData} : ∀ {gs : List (Str × L2.V)} {fs : List (Str × Fv)} {G : Addr → Prop}, FsOk K V H gs fs G → fs.lookup f = some (.own xs) → ∃ p vs, gs.lookup f = some (.ref p) ∧ H p = some (.lst vs) ∧ DqAll K V vs xs ∧ G p
  | _, _, _, .nil, h => by cases h
  | _, _, _, .d (n := n) a r, h => by
    by_cases q : n = f
    · rw [lk_pos q] at h
      cases h
    · rw [lk_neg q] at h ⊢
      exact fs_own r h
  | _, _, _, .own (n := n) a b c r, h => by
    by_cases q : n = f
    · rw [lk_pos q] at h ⊢
      cases h
      exact ⟨_, _, rfl, a, b, .inl rfl⟩
    · rw [lk_neg q] at h ⊢
      obtain ⟨p, vs, h1, h2, h3, h4⟩ := fs_own r h
      exact ⟨p, vs, h1, h2, h3, .inr h4⟩
theorem fs_none {f : Str} : ∀ {gs : List (Str × L2.V)} {fs : List (Str × Fv)} {G : Addr → Prop}, FsOk K V H gs fs G → fs.lookup f = none → gs.lookup f = none
  | _, _, _, .nil, h => rfl
  | _, _, _, .d (n := n) a r, h => by
    by_cases q : n = f
    · rw [lk_pos q] at h
      cases h
    · rw [lk_neg q] at h ⊢
      exact fs_none r h
  | _, _, _, .own (n := n) a b c r, h => by
    by_cases q : n = f
    · rw [lk_pos q] at h
      cases h
    · rw [lk_neg q] at h ⊢
      exact fs_none r h
theorem fs_len : ∀ {gs : List (Str × L2.V)} {fs : List (Str × Fv)} {G : Addr → Prop}, FsOk K V H gs fs G → gs.length = fs.length
  | _, _, _, .nil => rfl
  | _, _, _, .d _ r => by simp [fs_len r]
  | _, _, _, .own _ _ _ r => by simp [fs_len r]
theorem fs_putd {f : Str} {v : L2.V} {x : PyData} (hv : Dq K V v x) : ∀ {gs : List (Str × L2.V)} {fs : List (Str × Fv)} {G : Addr → Prop}, FsOk K V H gs fs G → ∃ G', FsOk K V H (putF f v gs) (putFv f (.d x) fs) G' ∧ ∀ p, G' p → G p
  | _, _, _, .nil => ⟨_, .d hv .nil, fun _ h => h⟩
  | _, _, _, .d (n := n) a r => by
    unfold putF putFv
    by_cases q : n = f
    · rw [if_pos q, if_pos q]
      exact ⟨_, .d hv r, fun _ h => h⟩
    · rw [if_neg q, if_neg q]
      obtain ⟨G', h1, h2⟩ := fs_putd hv r
      exact ⟨G', .d a h1, h2⟩
  | _, _, _, .own (n := n) (p := p) a b c r => by
    unfold putF putFv
    by_cases q : n = f
    · rw [if_pos q, if_pos q]
      exact ⟨_, .d hv r, fun _ h => .inr h⟩
    · rw [if_neg q, if_neg q]
      obtain ⟨G', h1, h2⟩ := fs_putd hv r
      exact ⟨_, .own a b (fun z => c (h2 _ z)) h1, fun q h => h.imp id (h2 q)⟩
theorem fs_puto {f : Str} {p : Addr} {vs : List L2.V} {xs : List PyData} (hp : H p = some (.lst vs)) (hd : DqAll K V vs xs) : ∀ {gs : List (Str × L2.V)} {fs : List (Str × Fv)} {G : Addr → Prop}, FsOk K V H gs fs G → ¬ G p → ∃ G', FsOk K V H (putF f (.ref p) gs) (putFv f (.own xs) fs) G' ∧ ∀ q, G' q → G q ∨ q = p
  | _, _, _, .nil, _ => ⟨_, .own hp hd (fun z => z) .nil, fun q h => h.elim .inr .inl⟩
  | _, _, _, .d (n := n) a r, hn => by
    unfold putF putFv
    by_cases q : n = f
    · rw [if_pos q, if_pos q]
      exact ⟨_, .own hp hd hn r, fun q h => h.elim .inr .inl⟩
    · rw [if_neg q, if_neg q]
      obtain ⟨G', h1, h2⟩ := fs_puto hp hd r hn
      exact ⟨G', .d a h1, h2⟩
  | _, _, _, .own (n := n) (p := p') a b c r, hn => by
    unfold putF putFv
    by_cases q : n = f
    · rw [if_pos q, if_pos q]
      exact ⟨_, .own hp hd (fun z => hn (.inr z)) r, fun q h => h.elim .inr fun z => .inl (.inr z)⟩
    · rw [if_neg q, if_neg q]
      obtain ⟨G', h1, h2⟩ := fs_puto hp hd r (fun z => hn (.inr z))
      refine ⟨_, .own a b (fun z => (h2 _ z).elim c fun z => hn (.inl z.symm)) h1, fun q h => ?_⟩
      rcases h with h | h
      · exact .inl (.inl h)
      · exact (h2 q h).imp .inr id
/-- the list of a field is changed in its place -/
theorem fs_write {f : Str} {p : Addr} {us : List L2.V} {xs ys : List PyData} (hd : DqAll K V us ys) : ∀ {gs : List (Str × L2.V)} {fs : List (Str × Fv)} {G : Addr → Prop}, FsOk K V H gs fs G → fs.lookup f = some (.own xs) → gs.lookup f = some (.ref p) → FsOk K V (upd H p (.lst us)) gs (putFv f (.own ys) fs) G
  | _, _, _, .nil, h, _ => by cases h
  | _, _, _, .d (n := n) a r, h, hg => by
    unfold putFv
    by_cases q : n = f
    · rw [lk_pos q] at h
      cases h
    · rw [if_neg q]
      rw [lk_neg q] at h hg
      exact .d a (fs_write hd r h hg)
  | _, _, _, .own (n := n) (p := p') a b c r, h, hg => by
    unfold putFv
    by_cases q : n = f
    · rw [if_pos q]
      rw [lk_pos q] at h hg
      cases h
      cases hg
      exact .own upd_same hd c (r.frame .refl fun z hz => upd_ne fun e => c (by rw [← e]; exact hz))
    · rw [if_neg q]
      rw [lk_neg q] at h hg
      obtain ⟨p2, vs2, e1, _, _, e4⟩ := fs_own r h
      rw [hg] at e1
      cases e1
      exact .own (by rw [upd_ne fun e => c (by rw [e]; exact e4)]; exact a) b c (fs_write hd r h hg)
end
section
variable {K : PySem.W.Frag} {BV : Hp} {B : Bs} {V H : Hp} {σ : L2.St} {ρ : List Sl} {i : Nat} {an : Bool} {c : Str} {fs : List (Str × Fv)}
/-- an object, and what may be made of it -/
theorem EnvA.objS {S : Addr → Prop} (E : EnvA K BV B V H σ ρ S) (e : ρ[i]? = some (.ob an c fs)) : ∃ a C dx gs G, σ[i]? = some (some (.ref a)) ∧ PySem.W.nsIn K mainGlobals c = some (some (.ref C)) ∧ H a = some (.ins C dx gs) ∧ H dx = some (.own a) ∧ a ≠ dx ∧ FsOk K V H gs fs G ∧ ¬ G a ∧ ¬ G dx ∧ (∀ p, G p → ¬ S p) ∧
    ∀ H' gs' fs' G', (∀ p, p ≠ a → ¬ G p → H p ≠ none → H' p = H p) → H' a = some (.ins C dx gs') → FsOk K V H' gs' fs' G' → (∀ p, G' p → p ≠ a ∧ p ≠ dx ∧ (G p ∨ H p = none ∨ (S p ∧ V p = none ∧ B.h p = none ∧ ¬ B.ex p))) → EnvD K BV B V H' σ (ρ.set i (.ob an c fs')) := by
  obtain ⟨o, F, hs, ok, nS, ch⟩ := E.changeS e
  have own := ok.own
  cases o with
  | none => exact own.elim
  | some v =>
    obtain ⟨a, C, dx, gs, G, rfl, hc, h1, h2, n, hf, g1, g2, h3⟩ := own
    refine ⟨a, C, dx, gs, G, hs, hc, h1, h2, n, hf, g1, g2, fun p hp => nS p ((h3 p).2 (.inr (.inr hp))), fun H' gs' fs' G' k1 k2 k3 k4 => ?_⟩
    refine ch H' (.ob an c fs') (fun q => q = a ∨ q = dx ∨ G' q) (fun p hn hl => k1 p (fun z => hn ((h3 p).2 (.inl z))) (fun z => hn ((h3 p).2 (.inr (.inr z)))) hl) ⟨a, C, dx, gs', G', rfl, hc, k2, ?_, n, k3, fun z => (k4 a z).1 rfl, fun z => (k4 dx z).2.1 rfl, fun _ => Iff.rfl⟩ ?_ fun p hp => ?_
    · rw [k1 dx (fun z => n z.symm) g2 (by rw [h2]; simp)]; exact h2
    · cases an <;> exact ok.anc
    · rcases hp with z | z | z
      · exact .inl ((h3 p).2 (.inl z))
      · exact .inl ((h3 p).2 (.inr (.inl z)))
      · exact (k4 p z).2.2.imp (fun z => (h3 p).2 (.inr (.inr z))) id
theorem EnvA.obj (E : EnvD K BV B V H σ ρ) (e : ρ[i]? = some (.ob an c fs)) : ∃ a C dx gs G, σ[i]? = some (some (.ref a)) ∧ PySem.W.nsIn K mainGlobals c = some (some (.ref C)) ∧ H a = some (.ins C dx gs) ∧ H dx = some (.own a) ∧ a ≠ dx ∧ FsOk K V H gs fs G ∧ ¬ G a ∧ ¬ G dx ∧
    ∀ H' gs' fs' G', (∀ p, p ≠ a → ¬ G p → H p ≠ none → H' p = H p) → H' a = some (.ins C dx gs') → FsOk K V H' gs' fs' G' → (∀ p, G' p → G p) → EnvD K BV B V H' σ (ρ.set i (.ob an c fs')) := by
  obtain ⟨a, C, dx, gs, G, h1, h2, h3, h4, h5, h6, h7, h8, _, ch⟩ := E.objS e
  exact ⟨a, C, dx, gs, G, h1, h2, h3, h4, h5, h6, h7, h8, fun H' gs' fs' G' k1 k2 k3 k4 => ch H' gs' fs' G' k1 k2 k3 fun p hp => ⟨fun z => h7 (by rw [← z]; exact k4 p hp), fun z => h8 (by rw [← z]; exact k4 p hp), .inl (k4 p hp)⟩⟩
end
/-- an own class -/
structure ClO (K : PySem.W.Frag) (mg : Str → Option Value) (c : Str) (C : Addr) : Prop where
  ns : PySem.W.nsIn K mainGlobals c = some (some (.ref C))
  mg : mg c = some (.ref C)
  cl : Cls K C
section
variable {X : Cx} {e a b o : Expr} {es : List Expr} {pos apos cpos : Pos} {c : Str} {C : Addr} {f g : Str} {i : Nat}
/-- x.f -/
def dAttr (c : Str) (i : Nat) (f : Str) : DE := fun ρ => (obAt c i ρ).bind fun fs => match fs.lookup f with
  | some (.d x) => some x
  | _ => none
theorem de_attr (k : ClO X.K X.mg c C) (n : NoAttr X.K C f) (he : PE X e (tVar i)) (hb : attributeBase e f X.env (eval e X.env) = eval e X.env := by rfl) : PE X (.Attribute e f pos) (tD X.K (dAttr c i f)) :=
  pe_w (pe_fld he hb) fun σ H Q ⟨BV, B, V, ρ, d, E, hf, q⟩ => by
    unfold dAttr at hf
    obtain ⟨fs, h1, hf⟩ := bind_some hf
    split at hf
    · rename_i x hx
      cases hf
      obtain ⟨an, h1⟩ := obAt_some h1
      obtain ⟨a, C', dx, gs, G, hs, hc, ha, hd, nad, hfs, g1, g2, _⟩ := E.obj h1
      rw [k.ns] at hc
      cases hc
      obtain ⟨v, l, dq⟩ := fs_d hfs hx
      exact ⟨.ref a, hs, a, C, dx, gs, v, rfl, ha, k.cl, n, l, q v V H (.refl E.sub) dq⟩
    · cases hf
/-- x.f = e -/
def sAttr (c : Str) (i : Nat) (f : Str) (g : DE) : DS := fun ρ => (g ρ).bind fun d => (obAt c i ρ).bind fun fs => if fs.length < 100 then some (.nx (obSet i (putFv f (.d d) fs) ρ)) else none
theorem ds_attr {g : DE} {pos' : Pos} (k : ClO X.K X.mg c C) (n : NoAttr X.K C f) (ho : PE X o (tVar i)) (he : PE X e (tD X.K g)) (hs : swapsWith e (some (.Attribute o f pos')) pos.line X.env = pure false := by rfl) : PS X (.Assign [.Attribute o f pos'] e pos) (sD X.K (sAttr c i f g)) :=
  ps_w (ps_fld ho he hs) fun D σ H ⟨BV, B, V, ρ, r, E, h, q⟩ => by
    unfold sAttr at h
    obtain ⟨d, h1, h⟩ := bind_some h
    obtain ⟨fs, h2, h⟩ := bind_some h
    split at h
    · rename_i hl
      cases h
      obtain ⟨an, h2⟩ := obAt_some h2
      refine ⟨BV, B, V, ρ, d, E, h1, fun v V1 H1 g1 d1 => ?_⟩
      obtain ⟨a, C', dx, gs, G, hs, hc, ha, hd, nad, hfs, ga, gd, ch⟩ := (E.grow g1).obj h2
      rw [k.ns] at hc
      cases hc
      obtain ⟨G', k1, k2⟩ := fs_putd (f := f) d1 hfs
      refine ⟨.ref a, hs, a, C, dx, gs, rfl, ha, k.cl, n, by rw [fs_len hfs]; omega, ?_⟩
      rw [obSet_eq h2] at q
      exact q σ V1 _ (ch _ _ _ G' (fun p hp _ _ => upd_ne hp) upd_same (k1.frame .refl fun p hp => upd_ne fun z => ga (by rw [← z]; exact k2 p hp)) fun p hp => k2 p hp)
    · cases h
/-- x.f = a new list -/
def sAttrN (c : Str) (i : Nat) (f : Str) (g : DA) : DS := fun ρ => (g ρ).bind fun d => (obAt c i ρ).bind fun fs => if fs.length < 100 then some (.nx (obSet i (putFv f (.own d) fs) ρ)) else none
theorem ds_attrN {g : DA} {pos' : Pos} (k : ClO X.K X.mg c C) (n : NoAttr X.K C f) (ho : PE X o (tVar i)) (he : PE X e (tN X.K g)) (hs : swapsWith e (some (.Attribute o f pos')) pos.line X.env = pure false := by rfl) : PS X (.Assign [.Attribute o f pos'] e pos) (sD X.K (sAttrN c i f g)) :=
  ps_w (ps_fld ho he hs) fun D σ H ⟨BV, B, V, ρ, r, E, h, q⟩ => by
    unfold sAttrN at h
    obtain ⟨d, h1, h⟩ := bind_some h
    obtain ⟨fs, h2, h⟩ := bind_some h
    split at h
    · rename_i hl
      cases h
      obtain ⟨an, h2⟩ := obAt_some h2
      refine ⟨BV, B, V, ρ, d, E, h1, fun p vs V1 H1 g1 np vp hp d1 => ?_⟩
      obtain ⟨a, C', dx, gs, G, hs, hc, ha, hd, nad, hfs, ga, gd, nS, ch⟩ := ((E.fresh (S' := fun q => q = p) fun q z => by rw [z]; exact np).grow g1).objS h2
      rw [k.ns] at hc
      cases hc
      have nG : ¬ G p := fun z => nS p z rfl
      have na : p ≠ a := fun z => by rw [z, ha] at hp; cases hp
      have nd : p ≠ dx := fun z => by rw [z, hd] at hp; cases hp
      obtain ⟨G', k1, k2⟩ := fs_puto (f := f) hp d1 hfs nG
      refine ⟨.ref a, hs, a, C, dx, gs, rfl, ha, k.cl, n, by rw [fs_len hfs]; omega, ?_⟩
      rw [obSet_eq h2] at q
      refine q σ V1 _ (ch _ _ _ G' (fun p hp _ _ => upd_ne hp) upd_same (k1.frame .refl fun r hr => upd_ne fun z => ?_) fun r hr => ?_)
      · rcases k2 r hr with y | y
        · exact ga (by rw [← z]; exact y)
        · exact na (y.symm.trans z)
      · rcases k2 r hr with y | y
        · exact ⟨fun z => ga (by rw [← z]; exact y), fun z => gd (by rw [← z]; exact y), .inl y⟩
        · rw [y]
          exact ⟨na, nd, .inr (.inr ⟨rfl, vp, E.gr.h.back np, fun z => E.xl p z np⟩)⟩
    · cases h
end
end DL

namespace DL
open PySem PySem.Spec PyProof.Rows L2
/-! ### lists that are owned, looked into -/
def tPk (K : PySem.W.Frag) (f : DA) : TE := fun σ H Q => ∃ BV B V ρ xs, EnvD K BV B V H σ ρ ∧ f ρ = some xs ∧ ∀ p vs, H p = some (.lst vs) → V p = none → DqAll K V vs xs → Q (.ref p) H
theorem Gr.same {V H H' : Hp} (s : Ex V H) (h : Ex H H') : Gr V H V H' := ⟨.refl, h, s.trans h, fun _ z _ => z, fun _ _ _ z => z⟩
section
variable {X : Cx} {e a b o : Expr} {es : List Expr} {pos apos cpos : Pos} {c : Str} {C : Addr} {f g : Str} {i : Nat}
theorem pk_own (h : PE X e (tVar i)) : PE X e (tPk X.K (ownAt i)) := pe_w h fun σ H Q ⟨BV, B, V, ρ, xs, E, hf, q⟩ => by
  obtain ⟨p, vs, hs, h1, h2, h3⟩ := own_val E (ownAt_some hf)
  exact ⟨.ref p, hs, q p vs h1 h2 h3⟩
def fOwnAt (c : Str) (i : Nat) (f : Str) : DA := fun ρ => (obAt c i ρ).bind fun fs => match fs.lookup f with
  | some (.own xs) => some xs
  | _ => none
theorem fOwnAt_some {ρ : List Sl} {xs : List PyData} (h : fOwnAt c i f ρ = some xs) : ∃ an fs, ρ[i]? = some (.ob an c fs) ∧ fs.lookup f = some (.own xs) := by
  unfold fOwnAt at h
  obtain ⟨fs, h1, h⟩ := bind_some h
  split at h
  · rename_i x hx
    cases h
    obtain ⟨an, h1⟩ := obAt_some h1
    exact ⟨an, fs, h1, hx⟩
  · cases h
theorem pk_fld (k : ClO X.K X.mg c C) (n : NoAttr X.K C f) (he : PE X e (tVar i)) (hb : attributeBase e f X.env (eval e X.env) = eval e X.env := by rfl) : PE X (.Attribute e f pos) (tPk X.K (fOwnAt c i f)) :=
  pe_w (pe_fld he hb) fun σ H Q ⟨BV, B, V, ρ, d, E, hf, q⟩ => by
    obtain ⟨an, fs, h1, hx⟩ := fOwnAt_some hf
    obtain ⟨o, F, hs, ok, _⟩ := E.change h1
    have own := ok.own
    cases o with
    | none => exact own.elim
    | some v =>
      obtain ⟨a, C', dx, gs, G, rfl, hc, ha, hd, nad, hfs, g1, g2, h3⟩ := own
      rw [k.ns] at hc
      cases hc
      obtain ⟨p, vs, l, hp, da, gp⟩ := fs_own hfs hx
      exact ⟨.ref a, hs, a, C, dx, gs, .ref p, rfl, ha, k.cl, n, l, q p vs hp (ok.out p ((h3 p).2 (.inr (.inr gp)))).1 da⟩
def dPk (op : PyData → PyData → Option PyData) (f : DA) (g : DE) : DE := fun ρ => (f ρ).bind fun xs => (g ρ).bind fun y => op (.list xs) y
theorem dt_pk {op : CmpOp} {r : R2} {oo : PyData → PyData → Option PyData} {ff : DA} {gg : DE} (ho : OpR X (compareOp op) r) (h : OpD X.K r oo) (ha : PE X a (tPk X.K ff)) (hb : PE X b (tD X.K gg)) (hm : behindInMarks op b = false) : PT X (.Compare a [op] [b] pos) (tDT X.K (bOf (dPk oo ff gg))) :=
  pt_w (pt_cmpR ho ha hb hm) fun σ H Q ⟨BV, B, V, ρ, bb, E, hf, q⟩ => by
    have hf := bOf_some hf
    unfold dPk at hf
    obtain ⟨xs, h1, hf⟩ := bind_some hf
    obtain ⟨y, h2, hf⟩ := bind_some hf
    refine ⟨BV, B, V, ρ, xs, E, h1, fun p vs hp vp da => ⟨BV, B, V, ρ, y, E, h2, fun w V1 H1 g1 d1 => ?_⟩⟩
    have hp1 := g1.h _ _ hp
    have vp1 : V1 p = none := g1.nw p vp (by rw [hp]; simp)
    have x2 : Ex V1 (upd V1 p (.lst vs)) := Ex.new vp1
    have s2 : Ex (upd V1 p (.lst vs)) H1 := fun a u z => by
      by_cases hq : a = p
      · subst hq; rw [upd_same] at z; cases z; exact hp1
      · rw [upd_ne hq] at z; exact g1.sub a u z
    refine h _ H1 (.ref p) w (.list xs) y (.bool bb) _ s2 (.lst (.inl upd_same) (da_mono (g1.v.trans x2) da)) (dp_mono x2 d1) hf fun v V' H' G' D' => ?_
    cases D'
    exact ⟨bb, rfl, q V1 H' (g1.trans (Gr.same g1.sub G'.h))⟩
/-- list(x) of a list that is owned -/
theorem dn_listPk {ff : DA} {p : Pos} (hg : Gl X "list") (hm : X.mg "list" = none) (ha : PE X a (tPk X.K ff)) (hs : starEach [a] X.env = [(false, eval a X.env)] := by rfl) : PE X (.Call (.Name "list" p) [a] [] pos) (tN X.K ff) :=
  pe_w (pe_callTy call_list_of hg hm (by decide +kernel) (pa_cons ha pa_nil hs) (by decide) (by decide) hs rfl) fun σ H Q ⟨BV, B, V, ρ, xs, E, hf, q⟩ =>
    ⟨BV, B, V, ρ, xs, E, hf, fun p vs hp vp da => ⟨p, vs, rfl, .inl (.inl (.inl hp)), fun l n => q l vs V _ (Gr.held E.sub n) n (E.sub.back n) upd_same da⟩⟩
/-- x.f.append(e) -/
def sFApp (c : Str) (i : Nat) (f : Str) (g : DE) : DS := fun ρ => (fOwnAt c i f ρ).bind fun xs => (g ρ).bind fun d => (obAt c i ρ).bind fun fs => if xs.length < 100000 then some (.nx (obSet i (putFv f (.own (xs ++ [d])) fs) ρ)) else none
theorem obAt_eq {ρ : List Sl} {an : Bool} {fs fs' : List (Str × Fv)} (h : ρ[i]? = some (.ob an c fs)) (h' : obAt c i ρ = some fs') : fs' = fs := by
  obtain ⟨an', h2⟩ := obAt_some h'
  rw [h] at h2
  cases h2
  rfl
theorem ds_fapp {g : DE} {p1 : Pos} (k : ClO X.K X.mg c C) (n : NoAttr X.K C f) (ho : PE X o (tVar i)) (he : PE X e (tD X.K g)) (hb : attributeBase o f X.env (eval o X.env) = eval o X.env := by rfl) (hbase : attributeBase (.Attribute o f p1) "append" X.env (eval (.Attribute o f p1) X.env) = eval (.Attribute o f p1) X.env := by rfl)
    (hfew : ((backTo cpos (starEach [e] X.env)).all (fun x => !x.1) && (backToKw cpos (keywordEach [] X.env)).all (fun x => x.1.isSome)
      && decide (([e] : List Expr).length + ([] : List Keyword).length + (if ([] : List Keyword).isEmpty then 0 else 1) < 30)) = true := by rfl)
    (hline : (apos.endLine == cpos.line) = true := by rfl) (hs : starEach [e] X.env = [(false, eval e X.env)] := by rfl) :
    PS X (.Expr (.Call (.Attribute (.Attribute o f p1) "append" apos) [e] [] cpos) pos) (sD X.K (sFApp c i f g)) :=
  ps_w (ps_expr (pe_bm PySem.F.plainAttrs_list PySem.F.slot_list_append PySem.F.type_list_append mt_append (pe_fld ho hb) (pa_cons he pa_nil hs) hbase hfew hline hs rfl)) fun D σ H ⟨BV, B, V, ρ, r, E, h, q⟩ => by
    unfold sFApp at h
    obtain ⟨xs, h1, h⟩ := bind_some h
    obtain ⟨d, h2, h⟩ := bind_some h
    obtain ⟨fs, h3, h⟩ := bind_some h
    split at h
    · rename_i hz
      cases h
      obtain ⟨an, fs', e1, hx⟩ := fOwnAt_some h1
      have := obAt_eq e1 h3
      subst this
      obtain ⟨a, C', dx, gs, G, hs, hc, ha, hd, nad, hfs, ga, gd, _⟩ := E.obj e1
      rw [k.ns] at hc
      cases hc
      obtain ⟨p, vs, l, hp, da, gp⟩ := fs_own hfs hx
      refine ⟨.ref a, hs, a, C, dx, gs, .ref p, rfl, ha, k.cl, n, l, .inl ⟨rfl, _, .inl (.inl hp)⟩, BV, B, V, ρ, d, E, h2, fun v V' H' g1 dd => ?_⟩
      obtain ⟨a2, C2, dx2, gs2, G2, hs2, hc2, ha2, hd2, nad2, hfs2, ga2, gd2, ch⟩ := (E.grow g1).obj e1
      rw [hs] at hs2
      cases hs2
      have := g1.h _ _ ha
      rw [ha2] at this
      cases this
      have hp' := g1.h _ _ hp
      obtain ⟨p2, vs2, l2, hp2, da2, gp2⟩ := fs_own hfs2 hx
      rw [l] at l2
      cases l2
      refine ⟨p, vs, v, rfl, rfl, hp', by rw [da_len da]; exact line_lt hz, ?_⟩
      rw [obSet_eq e1] at q
      have w := fs_write (p := p) (us := vs ++ [v]) (da_app (da_mono g1.v da) (.cons dd .nil)) hfs2 hx l
      exact q σ V' _ (ch _ _ _ G2 (fun r _ hr _ => upd_ne fun z => hr (by rw [z]; exact gp2)) (by rw [upd_ne fun z => ga2 (by rw [z]; exact gp2)]; exact ha2) w fun _ hr => hr)
    · cases h
/-- x.f = x.g.pop() -/
def sFPop (c : Str) (i : Nat) (f g : Str) : DS := fun ρ => (fOwnAt c i g ρ).bind fun xs => (xs.getLast?).bind fun d => (obAt c i ρ).bind fun fs => if fs.length < 100 then some (.nx (obSet i (putFv f (.d d) (putFv g (.own xs.dropLast) fs)) ρ)) else none
theorem getLast_at {xs : List PyData} {d : PyData} (h : xs.getLast? = some d) : xs[xs.length - 1]? = some d := by rw [← List.getLast?_eq_getElem?]; exact h
theorem da_last {K : PySem.W.Frag} {V : Hp} {vs : List L2.V} {xs : List PyData} {d : PyData} (h : DqAll K V vs xs) (e : xs.getLast? = some d) : ∃ v, vs[vs.length - 1]? = some v ∧ Dq K V v d := by
  have := da_get h (getLast_at e)
  rw [← da_len h] at this
  exact this
theorem da_dropLast {K : PySem.W.Frag} {V : Hp} {vs : List L2.V} {xs : List PyData} (h : DqAll K V vs xs) : DqAll K V vs.dropLast xs.dropLast := by
  rw [List.dropLast_eq_take, List.dropLast_eq_take, da_len h]
  exact da_take _ h
theorem put_len (f : Str) (v : Fv) : ∀ fs : List (Str × Fv), (putFv f v fs).length ≤ fs.length + 1
  | [] => by simp [putFv]
  | (k, x) :: r => by
    have ih := put_len f v r
    unfold putFv
    split <;> simp <;> omega
theorem ds_fpop {o2 : Expr} {p1 pos' : Pos} (k : ClO X.K X.mg c C) (n : NoAttr X.K C f) (n2 : NoAttr X.K C g) (ho : PE X o (tVar i)) (ho2 : PE X o2 (tVar i)) (hb : attributeBase o2 g X.env (eval o2 X.env) = eval o2 X.env := by rfl) (hbase : attributeBase (.Attribute o2 g p1) "pop" X.env (eval (.Attribute o2 g p1) X.env) = eval (.Attribute o2 g p1) X.env := by rfl)
    (hline : (apos.endLine == cpos.line) = true := by rfl) (hs : swapsWith (.Call (.Attribute (.Attribute o2 g p1) "pop" apos) [] [] cpos) (some (.Attribute o f pos')) pos.line X.env = pure false := by rfl) :
    PS X (.Assign [.Attribute o f pos'] (.Call (.Attribute (.Attribute o2 g p1) "pop" apos) [] [] cpos) pos) (sD X.K (sFPop c i f g)) :=
  ps_w (ps_fld ho (pe_bm0 PySem.F.plainAttrs_list PySem.F.slot_list_pop PySem.F.type_list_pop mt_pop (pe_fld ho2 hb) hbase hline) hs) fun D σ H ⟨BV, B, V, ρ, r, E, h, q⟩ => by
    unfold sFPop at h
    obtain ⟨xs, h1, h⟩ := bind_some h
    obtain ⟨d, h2, h⟩ := bind_some h
    obtain ⟨fs, h3, h⟩ := bind_some h
    split at h
    · rename_i hz
      cases h
      obtain ⟨an, fs', e1, hx⟩ := fOwnAt_some h1
      have := obAt_eq e1 h3
      subst this
      obtain ⟨a, C', dx, gs, G, hs, hc, ha, hd, nad, hfs, ga, gd, ch⟩ := E.obj e1
      rw [k.ns] at hc
      cases hc
      obtain ⟨p, vs, l, hp, da, gp⟩ := fs_own hfs hx
      obtain ⟨v, lv, dv⟩ := da_last da h2
      have npa : p ≠ a := fun z => ga (by rw [← z]; exact gp)
      refine ⟨.ref a, hs, a, C, dx, gs, .ref p, rfl, ha, k.cl, n2, l, .inl ⟨rfl, _, .inl (.inl hp)⟩, p, vs, v, rfl, rfl, hp, lv, ?_⟩
      refine ⟨.ref a, hs, a, C, dx, gs, rfl, by rw [upd_ne (Ne.symm npa)]; exact ha, k.cl, n, by rw [fs_len hfs]; omega, ?_⟩
      have w := fs_write (p := p) (us := vs.dropLast) (da_dropLast da) hfs hx l
      obtain ⟨G', k1, k2⟩ := fs_putd (f := f) dv w
      rw [obSet_eq e1] at q
      refine q σ V _ (ch _ _ _ G' (fun r hr hg _ => ?_) upd_same (k1.frame .refl fun r hr => upd_ne fun z => ga (by rw [← z]; exact k2 r hr)) k2)
      rw [upd_ne hr, upd_ne fun z => hg (by rw [z]; exact gp)]
    · cases h
end
/-! ### what is handed over -/
open Classical in
noncomputable def minus (H : Hp) (F : Addr → Prop) : Hp := fun p => if F p then none else H p
theorem minus_in {H : Hp} {F : Addr → Prop} {p : Addr} (h : F p) : minus H F p = none := by unfold minus; rw [if_pos h]
theorem minus_out {H : Hp} {F : Addr → Prop} {p : Addr} (h : ¬ F p) : minus H F p = H p := by unfold minus; rw [if_neg h]
theorem minus_ex {H : Hp} {F : Addr → Prop} : Ex (minus H F) H := fun p u h => by
  by_cases q : F p
  · rw [minus_in q] at h; cases h
  · rw [minus_out q] at h; exact h
theorem minus_none {H : Hp} {F : Addr → Prop} {p : Addr} (h : minus H F p = none) : F p ∨ H p = none := by
  by_cases q : F p
  · exact .inl q
  · rw [minus_out q] at h; exact .inr h
section
variable {K : PySem.W.Frag} {BV : Hp} {B : Bs} {V H : Hp} {σ : L2.St} {ρ : List Sl} {i : Nat} {an : Bool} {c : Str} {fs : List (Str × Fv)}
/-- an object is lent, and comes back -/
theorem EnvA.lend (E : EnvD K BV B V H σ ρ) (e : ρ[i]? = some (.ob an c fs)) : ∃ a F, σ[i]? = some (some (.ref a)) ∧ Own K V H (some (.ref a)) (.ob true c fs) F ∧ (∀ p, F p → V p = none ∧ B.h p = none ∧ ¬ B.ex p) ∧
    ∀ V' H' fs' F' S', Gr V (minus H F) V' H' → Own K V' H' (some (.ref a)) (.ob true c fs') F' → (∀ p, F' p → minus H F p = none ∧ V' p = none) → (∀ p, S' p → minus H F p = none ∧ ¬ F' p) → EnvA K BV B V' H' σ (ρ.set i (.ob an c fs')) S' := by
  obtain ⟨φ, h1, h2⟩ := E.fp
  obtain ⟨o, hs, ok⟩ := h1 i _ e
  have own := ok.own
  cases o with
  | none => exact own.elim
  | some v =>
    obtain ⟨a, hr⟩ : ∃ a, v = .ref a := by obtain ⟨a, C, dx, gs, G, e1, _⟩ := own; exact ⟨a, e1⟩
    subst hr
    refine ⟨a, φ i, hs, own, ok.out, fun V' H' fs' F' S' g own' hF hS => ?_⟩
    have new : ∀ p, minus H (φ i) p = none → B.h p = none ∧ ¬ B.ex p := fun p z => (minus_none z).elim (fun z => (ok.out p z).2) fun z => ⟨E.gr.h.back z, fun y => E.xl p y z⟩
    have live : ∀ p, H p ≠ none → ¬ φ i p → minus H (φ i) p ≠ none := fun p z n y => (minus_none y).elim n z
    have keep : ∀ p, H p ≠ none → ¬ φ i p → H' p = H p := fun p z n => by
      cases q : H p with
      | none => exact absurd q z
      | some u => exact g.h p u (by rw [minus_out n]; exact q)
    rw [← set_at hs]
    refine mkEnv h1 h2 i (F := F') (V' := V') (H' := H') ⟨fun p hp => ⟨(hF p hp).2, new p (hF p hp).1⟩, own', ?_⟩ (fun j p n hp a hf => live p a.1 (fun z => h2.1 j i p n hp z) (hF p hf).1) (fun p hp z => (hS p z).2 hp) (fun j p n hp a => ⟨keep p a.1 (fun z => h2.1 j i p n hp z), g.nw p a.2.1 (live p a.1 fun z => h2.1 j i p n hp z), a.2.2.1, a.2.2.2.1, fun z => live p a.1 (fun z => h2.1 j i p n hp z) (hS p z).1⟩) (fun _ _ => rfl) g.v ⟨E.gr.v.trans g.v, fun a u z => ?_, g.sub, fun p z1 z2 => ?_, fun a o u z => E.gr.nf a o u (g.nf a o u z)⟩ fun p hp => ?_
    · cases an <;> exact ok.anc
    · exact g.h a u (by rw [minus_out fun y => by rw [(ok.out a y).2.1] at z; cases z]; exact E.gr.h a u z)
    · exact g.nw p (E.gr.nw p z1 z2) (live p (fun y => z2 (E.gr.h.back y)) fun y => z2 (ok.out p y).2.1)
    · rw [keep p (E.xl p hp) fun y => (ok.out p y).2.2 hp]; exact E.xl p hp
theorem da_getD {vs : List L2.V} {ds : List PyData} (h : DqAll K V vs ds) (j : Nat) (s : Sl) (e : (ds.map Sl.d)[j]? = some s) : ∃ v d, vs[j]? = some v ∧ s = .d d ∧ Dq K V v d := by
  rw [List.getElem?_map] at e
  cases k : ds[j]? with
  | none => rw [k] at e; cases e
  | some d =>
    rw [k] at e
    cases e
    obtain ⟨v, h1, h2⟩ := da_get h k
    exact ⟨v, d, h1, rfl, h2⟩
/-- the callee's slots: one object among data -/
theorem lent_env {a : Addr} {F : Addr → Prop} {us ws : List L2.V} {pre post : List PyData} (s : Ex V H) (own : Own K V H (some (.ref a)) (.ob true c fs) F) (hF : ∀ p, F p → V p = none) (d1 : DqAll K V us pre) (d2 : DqAll K V ws post) :
    EnvD K V ⟨minus H F, fun j => if j = pre.length then some a else none, fun _ => False⟩ V H ((us ++ .ref a :: ws).map some) (pre.map Sl.d ++ .ob true c fs :: post.map Sl.d) := by
  have l1 := da_len d1
  refine ⟨⟨fun j p => j = pre.length ∧ F p, fun j t e => ?_, fun j k p n a b => n (a.1.trans b.1.symm), fun j p h => ⟨by rw [h.1]; simp, fun z => z⟩⟩, ⟨.refl, minus_ex, s, fun _ h _ => h, fun _ _ _ h => h⟩, fun p h => h.elim⟩
  rw [List.getElem?_map]
  rcases Nat.lt_trichotomy j pre.length with hj | hj | hj
  · rw [List.getElem?_append_left (by simpa using hj)] at e
    obtain ⟨v, d, h1, rfl, h2⟩ := da_getD d1 j t e
    refine ⟨some v, by rw [List.getElem?_append_left (by omega), h1]; rfl, fun p h => by dsimp only at h; omega, ⟨h2, fun p h => by dsimp only at h; omega⟩, trivial⟩
  · subst hj
    rw [List.getElem?_append_right (by simp)] at e
    simp at e
    subst e
    have ef : (fun p => pre.length = pre.length ∧ F p) = F := by funext p; exact propext ⟨fun h => h.2, fun h => ⟨rfl, h⟩⟩
    refine ⟨some (.ref a), by rw [List.getElem?_append_right (by omega), l1]; simp, ?_⟩
    show SlOk K _ pre.length V H _ _ (fun p => pre.length = pre.length ∧ F p)
    rw [ef]
    exact ⟨fun p h => ⟨hF p h, minus_in h, fun z => z⟩, own, ⟨a, by simp, rfl⟩⟩
  · rw [List.getElem?_append_right (by simp; omega)] at e
    obtain ⟨j', hj'⟩ : ∃ j', j = pre.length + (j' + 1) := ⟨j - pre.length - 1, by omega⟩
    subst hj'
    have e' : (post.map Sl.d)[j']? = some t := by
      rw [List.length_map, show pre.length + (j' + 1) - pre.length = j' + 1 from by omega, List.getElem?_cons_succ] at e
      exact e
    obtain ⟨v, d, h1, rfl, h2⟩ := da_getD d2 j' t e'
    refine ⟨some v, ?_, fun p h => by dsimp only at h; omega, ⟨h2, fun p h => by dsimp only at h; omega⟩, trivial⟩
    rw [List.getElem?_append_right (by omega), l1, show pre.length + (j' + 1) - pre.length = j' + 1 from by omega, List.getElem?_cons_succ, h1]
    rfl
theorem EnvA.ext {S : Addr → Prop} (E : EnvA K BV B V H σ ρ S) (hl : σ.length = ρ.length) (m : Nat) : EnvA K BV B V H (σ ++ List.replicate m none) (ρ ++ List.replicate m .un) S := by
  obtain ⟨φ, h1, h2, h3⟩ := E.fp
  refine ⟨⟨φ, fun j s e => ?_, h2, fun j p hp => ⟨by have := (h3 j p hp).1; simp; omega, (h3 j p hp).2⟩⟩, E.gr, E.xl⟩
  by_cases hj : j < ρ.length
  · rw [List.getElem?_append_left hj] at e
    obtain ⟨o, q1, q2⟩ := h1 j s e
    exact ⟨o, by rw [List.getElem?_append_left (by omega)]; exact q1, q2⟩
  · rw [List.getElem?_append_right (by omega), List.getElem?_replicate] at e
    split at e
    · cases e
      have no : ∀ p, ¬ φ j p := fun p hp => hj (h3 j p hp).1
      refine ⟨none, by rw [List.getElem?_append_right (by omega), List.getElem?_replicate, if_pos (by rw [hl]; assumption)], fun p hp => absurd hp (no p), no, trivial⟩
    · cases e
end
end DL

namespace DL
open PySem PySem.Spec PyProof.Rows L2
/-! ### expressions that change objects -/
abbrev DO := List Sl → Option (Sl × List Sl)
abbrev DOB := List Sl → Option (Bool × List Sl)
abbrev DOA := List Sl → Option (List PyData × List Sl)
def tO (K : PySem.W.Frag) (f : DO) : TE := fun σ H Q => ∃ BV B V ρ s ρ', EnvD K BV B V H σ ρ ∧ f ρ = some (s, ρ') ∧ ∀ v V' H' F, Ex V V' → EnvA K BV B V' H' σ ρ' F → Own K V' H' (some v) s F → s.loose = true → (∀ p, F p → V' p = none ∧ B.h p = none ∧ ¬ B.ex p) → Q v H'
def tOT (K : PySem.W.Frag) (f : DOB) : TT := fun σ H Q => ∃ BV B V ρ b ρ', EnvD K BV B V H σ ρ ∧ f ρ = some (b, ρ') ∧ ∀ V' H', Ex V V' → EnvD K BV B V' H' σ ρ' → Q b H'
def tOA (K : PySem.W.Frag) (f : DOA) : TA := fun σ H Q => ∃ BV B V ρ ds ρ', EnvD K BV B V H σ ρ ∧ f ρ = some (ds, ρ') ∧ ∀ vs V' H', Ex V V' → EnvD K BV B V' H' σ ρ' → DqAll K V' vs ds → Q vs H'
section
variable {X : Cx} {e a b o : Expr} {es : List Expr} {pos pos' apos cpos : Pos} {st : Stmt} {rest : List Stmt}
def oD (f : DE) : DO := fun ρ => (f ρ).map fun d => (.d d, ρ)
theorem o_d {f : DE} (h : PE X e (tD X.K f)) : PE X e (tO X.K (oD f)) := pe_w h fun σ H Q ⟨BV, B, V, ρ, s, ρ', E, hf, q⟩ => by
  obtain ⟨d, h1, h2⟩ := map_some hf
  cases h2
  exact ⟨BV, B, V, ρ, d, E, h1, fun v V' H' g dd => q v V' H' _ g.v (E.grow g) (Own.dat dd) rfl fun p z => z.elim⟩
def oSl (f : DSl) : DO := fun ρ => (f ρ).map fun s => (s, ρ)
theorem o_s {f : DSl} (h : PE X e (tSl X.K f)) : PE X e (tO X.K (oSl f)) := pe_w h fun σ H Q ⟨BV, B, V, ρ, s, ρ', E, hf, q⟩ => by
  obtain ⟨d, h1, h2⟩ := map_some hf
  cases h2
  exact ⟨BV, B, V, ρ, _, E, h1, fun v V' H' F g O l hF => q v V' H' F g.v ((E.fresh (S' := F) fun p hp => (hF p hp).1).grow g) O l fun p hp => ⟨(hF p hp).2, E.new (hF p hp).1⟩⟩
def o2 (op : PyData → PyData → Option PyData) (f g : DO) : DO := fun ρ => (f ρ).bind fun x => (g x.2).bind fun y => match x.1, y.1 with
  | .d u, .d v => (op u v).map fun z => (.d z, y.2)
  | _, _ => none
theorem o2_some {op : PyData → PyData → Option PyData} {f g : DO} {ρ ρ' : List Sl} {s : Sl} (h : o2 op f g ρ = some (s, ρ')) : ∃ x ρ1 y z, f ρ = some (.d x, ρ1) ∧ g ρ1 = some (.d y, ρ') ∧ op x y = some z ∧ s = .d z := by
  unfold o2 at h
  obtain ⟨⟨s1, ρ1⟩, h1, h⟩ := bind_some h
  obtain ⟨⟨s2, ρ2⟩, h2, h⟩ := bind_some h
  dsimp only at h h2
  split at h
  · obtain ⟨z, h3, h4⟩ := map_some h
    cases h4
    exact ⟨_, ρ1, _, z, h1, h2, h3, rfl⟩
  · cases h
theorem tO_op {K : PySem.W.Frag} {r : R2} {op : PyData → PyData → Option PyData} (h : OpD K r op) {f g : DO} (σ : L2.St) (H : Hp) (Q : VK) (t : tO K (o2 op f g) σ H Q) : tOp r (tO K f) (tO K g) σ H Q := by
  obtain ⟨BV, B, V, ρ, s, ρ', E, hf, q⟩ := t
  obtain ⟨x, ρ1, y, z, h1, h2, h3, rfl⟩ := o2_some hf
  exact ⟨BV, B, V, ρ, _, ρ1, E, h1, fun v V1 H1 F1 x1 E1 O1 _ _ => ⟨BV, B, V1, ρ1, _, ρ', E1.env, h2, fun w V2 H2 F2 x2 E2 O2 _ _ =>
    h V2 H2 v w x y z Q E2.sub (dp_mono x2 O1.1) O2.1 h3 fun u V3 H3 G3 D3 => q u V3 H3 _ ((x1.trans x2).trans G3.v) (E2.env.grow G3) (Own.dat D3) rfl fun p z => z.elim⟩⟩
theorem o_op {op : Operator} {r : R2} {oo : PyData → PyData → Option PyData} {f g : DO} (ho : OpR X (binaryOp op) r) (h : OpD X.K r oo) (ha : PE X a (tO X.K f)) (hb : PE X b (tO X.K g)) : PE X (.BinOp a op b pos) (tO X.K (o2 oo f g)) := pe_w (pe_op ho ha hb) (tO_op h)
theorem o_cmp {op : CmpOp} {r : R2} {oo : PyData → PyData → Option PyData} {f g : DO} (ho : OpR X (compareOp op) r) (h : OpD X.K r oo) (ha : PE X a (tO X.K f)) (hb : PE X b (tO X.K g)) (hm : behindInMarks op b = false) : PE X (.Compare a [op] [b] pos) (tO X.K (o2 oo f g)) := pe_w (pe_cmpR ho ha hb hm) (tO_op h)
def oB (f : DO) : DOB := fun ρ => (f ρ).bind fun x => match x.1 with
  | .d (.bool b) => some (b, x.2)
  | _ => none
theorem oB_some {f : DO} {ρ ρ' : List Sl} {b : Bool} (h : oB f ρ = some (b, ρ')) : f ρ = some (.d (.bool b), ρ') := by
  unfold oB at h
  obtain ⟨⟨s, ρ1⟩, h1, h⟩ := bind_some h
  dsimp only at h
  split at h
  · cases h
    exact h1
  · cases h
theorem ot_cmp {op : CmpOp} {r : R2} {oo : PyData → PyData → Option PyData} {f g : DO} (ho : OpR X (compareOp op) r) (h : OpD X.K r oo) (ha : PE X a (tO X.K f)) (hb : PE X b (tO X.K g)) (hm : behindInMarks op b = false) : PT X (.Compare a [op] [b] pos) (tOT X.K (oB (o2 oo f g))) :=
  pt_w (pt_cmpR ho ha hb hm) fun σ H Q ⟨BV, B, V, ρ, bb, ρ', E, hf, q⟩ =>
    tO_op h σ H _ ⟨BV, B, V, ρ, _, ρ', E, oB_some hf, fun v V' H' F x' E' O' _ _ => by
      have d := O'.1
      cases d
      exact ⟨bb, rfl, q V' H' x' E'.env⟩⟩
theorem ot_val {f : DO} (h : PE X e (tO X.K f)) (he : ∀ whole, isTrue e X.env whole = (do let v ← whole; standAt e.pos; holding [v] (truthy v)) := by intro _; rfl) : PT X e (tOT X.K (oB f)) := pt_w (pt_val h he) fun σ H Q ⟨BV, B, V, ρ, bb, ρ', E, hf, q⟩ =>
  ⟨BV, B, V, ρ, _, ρ', E, oB_some hf, fun v V' H' F x' E' O' _ _ => by
    have d := O'.1
    cases d
    exact ⟨bb, rfl, q V' H' x' E'.env⟩⟩
def oT (f : DB) : DOB := fun ρ => (f ρ).map fun b => (b, ρ)
theorem ot_d {f : DB} (h : PT X e (tDT X.K f)) : PT X e (tOT X.K (oT f)) := pt_w h fun σ H Q ⟨BV, B, V, ρ, bb, ρ', E, hf, q⟩ => by
  obtain ⟨d, h1, h2⟩ := map_some hf
  cases h2
  exact ⟨BV, B, V, ρ, _, E, h1, fun V' H' g => q V' H' g.v (E.grow g)⟩
def oNot (f : DOB) : DOB := fun ρ => (f ρ).map fun x => (!x.1, x.2)
theorem ot_not {f : DOB} (h : PT X a (tOT X.K f)) : PT X (.UnaryOp .Not a pos) (tOT X.K (oNot f)) := pt_w (pt_not h) fun σ H Q ⟨BV, B, V, ρ, bb, ρ', E, hf, q⟩ => by
  obtain ⟨⟨x, ρ1⟩, h1, h2⟩ := map_some hf
  cases h2
  exact ⟨BV, B, V, ρ, x, _, E, h1, q⟩
def oAnd (f g : DOB) : DOB := fun ρ => (f ρ).bind fun x => if x.1 = true then g x.2 else some (false, x.2)
def oOr (f g : DOB) : DOB := fun ρ => (f ρ).bind fun x => if x.1 = true then some (true, x.2) else g x.2
variable {rs : List Expr}
theorem ow_and1 {f : DOB} (h : PT X a (tOT X.K f)) : PW X (.BoolOp .And [a] pos) (tOT X.K f) := pw_and1 h
theorem ow_or1 {f : DOB} (h : PT X a (tOT X.K f)) : PW X (.BoolOp .Or [a] pos) (tOT X.K f) := pw_or1 h
theorem ow_and {f g : DOB} (ha : PT X a (tOT X.K f)) (hb : PW X (.BoolOp .And (b :: rs) pos) (tOT X.K g)) : PW X (.BoolOp .And (a :: b :: rs) pos) (tOT X.K (oAnd f g)) := pw_w (pw_and ha hb) fun σ H Q ⟨BV, B, V, ρ, bb, ρ', E, hf, q⟩ => by
  unfold oAnd at hf
  obtain ⟨⟨x, ρ1⟩, h1, h⟩ := bind_some hf
  refine ⟨BV, B, V, ρ, x, ρ1, E, h1, fun V' H' x' E' => ?_⟩
  cases x with
  | true => exact ⟨BV, B, V', ρ1, bb, ρ', E', h, fun V2 H2 x2 E2 => q V2 H2 (x'.trans x2) E2⟩
  | false => cases h; exact q V' H' x' E'
theorem ow_or {f g : DOB} (ha : PT X a (tOT X.K f)) (hb : PW X (.BoolOp .Or (b :: rs) pos) (tOT X.K g)) : PW X (.BoolOp .Or (a :: b :: rs) pos) (tOT X.K (oOr f g)) := pw_w (pw_or ha hb) fun σ H Q ⟨BV, B, V, ρ, bb, ρ', E, hf, q⟩ => by
  unfold oOr at hf
  obtain ⟨⟨x, ρ1⟩, h1, h⟩ := bind_some hf
  refine ⟨BV, B, V, ρ, x, ρ1, E, h1, fun V' H' x' E' => ?_⟩
  cases x with
  | false => exact ⟨BV, B, V', ρ1, bb, ρ', E', h, fun V2 H2 x2 E2 => q V2 H2 (x'.trans x2) E2⟩
  | true => cases h; exact q V' H' x' E'
def oIf (t : DB) (f g : DO) : DO := fun ρ => (t ρ).bind fun x => if x = true then f ρ else g ρ
theorem o_if {cc : Expr} {t : DB} {f g : DO} (hc : PT X cc (tDT X.K t)) (ha : PE X a (tO X.K f)) (hb : PE X b (tO X.K g)) : PE X (.IfExp cc a b pos) (tO X.K (oIf t f g)) := pe_w (pe_ifExp hc ha hb) fun σ H Q ⟨BV, B, V, ρ, s, ρ', E, hf, q⟩ => by
  unfold oIf at hf
  obtain ⟨x, h1, h⟩ := bind_some hf
  refine ⟨BV, B, V, ρ, x, E, h1, fun V' H' g1 => ?_⟩
  cases x with
  | true => exact ⟨BV, B, V', ρ, s, ρ', E.grow g1, h, fun v V2 H2 F x2 => q v V2 H2 F (g1.v.trans x2)⟩
  | false => exact ⟨BV, B, V', ρ, s, ρ', E.grow g1, h, fun v V2 H2 F x2 => q v V2 H2 F (g1.v.trans x2)⟩
def oaNil : DOA := fun ρ => some ([], ρ)
def oaCons (f : DO) (r : DOA) : DOA := fun ρ => (f ρ).bind fun x => match x.1 with
  | .d d => (r x.2).map fun y => (d :: y.1, y.2)
  | _ => none
theorem oa_nil : PA X [] (tOA X.K oaNil) := pa_w pa_nil fun σ H Q ⟨BV, B, V, ρ, ds, ρ', E, hf, q⟩ => by
  cases hf
  exact q [] V H .refl E .nil
theorem oa_cons {f : DO} {r : DOA} (ha : PE X e (tO X.K f)) (hr : PA X es (tOA X.K r)) (hs : starEach (e :: es) X.env = (false, eval e X.env) :: starEach es X.env := by rfl) : PA X (e :: es) (tOA X.K (oaCons f r)) := pa_w (pa_cons ha hr hs) fun σ H Q ⟨BV, B, V, ρ, ds, ρ', E, hf, q⟩ => by
  unfold oaCons at hf
  obtain ⟨⟨s, ρ1⟩, h1, h⟩ := bind_some hf
  dsimp only at h
  split at h
  · obtain ⟨⟨y, ρ2⟩, h2, h3⟩ := map_some h
    cases h3
    exact ⟨BV, B, V, ρ, _, ρ1, E, h1, fun v V1 H1 F1 x1 E1 O1 _ _ => ⟨BV, B, V1, ρ1, y, _, E1.env, h2, fun vs V2 H2 x2 E2 D2 => q _ V2 H2 (x1.trans x2) E2 (.cons (dp_mono x2 O1.1) D2)⟩⟩
  · cases h
def oL (f : DOA) : DO := fun ρ => (f ρ).bind fun x => if x.1.length ≤ 100000 then some (.d (.list x.1), x.2) else none
theorem o_lst {f : DOA} (h : PA X es (tOA X.K f)) : PE X (.List es pos) (tO X.K (oL f)) := pe_w (pe_lst h) fun σ H Q ⟨BV, B, V, ρ, s, ρ', E, hf, q⟩ => by
  unfold oL at hf
  obtain ⟨⟨ds, ρ1⟩, h1, h⟩ := bind_some hf
  dsimp only at h
  split at h
  · rename_i hl
    cases h
    exact ⟨BV, B, V, ρ, ds, _, E, h1, fun vs V1 H1 x1 E1 D1 => ⟨by rw [da_len D1]; exact line_of hl, fun p n => newL E1.sub (fun v V' H' g d => q v V' H' _ (x1.trans g.v) (E1.grow g) (Own.dat d) rfl fun p z => z.elim) D1 n⟩⟩
  · cases h
/-! ### statements -/
def sExprO (f : DO) : DS := fun ρ => (f ρ).map fun x => .nx x.2
theorem ds_exprO {f : DO} (h : PE X e (tO X.K f)) (hs : swapsWith e none pos.line X.env = pure false := by rfl) : PS X (.Expr e pos) (sD X.K (sExprO f)) := ps_w (ps_expr h hs) fun D σ H ⟨BV, B, V, ρ, r, E, h, q⟩ => by
  obtain ⟨⟨s, ρ1⟩, h1, h2⟩ := map_some h
  cases h2
  exact ⟨BV, B, V, ρ, s, ρ1, E, h1, fun v V' H' F _ E' _ _ _ => q σ V' H' E'.env⟩
def sSetO (i : Nat) (f : DO) : DS := fun ρ => (f ρ).map fun x => .nx (x.2.set i x.1)
theorem ds_setO {i : Nat} {x : Str} {f : DO} (hN : X.N.Nodup) (hi : X.N[i]? = some x) (hx : Loc X.env.scope x) (he : PE X e (tO X.K f)) (hs : swapsWith e (some (.Name x pos')) pos.line X.env = pure false := by rfl) (hf : X.fn x = true ∨ X.env.scope.names.lookup x = some .local := by first | exact .inl rfl | exact .inr rfl | assumption) :
    PS X (.Assign [.Name x pos'] e pos) (sD X.K (sSetO i f)) := ps_w (ps_set hN hi hx he hs hf) fun D σ H ⟨BV, B, V, ρ, r, E, h, q⟩ => by
  obtain ⟨⟨s, ρ1⟩, h1, h2⟩ := map_some h
  cases h2
  exact ⟨BV, B, V, ρ, s, ρ1, E, h1, fun v V' H' F _ E' O l hF => q _ V' H' (E'.take O (fun p hp => ⟨hp, hF p hp⟩) i l).env⟩
def sRetO (f : DO) : DS := fun ρ => (f ρ).map fun x => .ro x.1 x.2
theorem ds_retO {f : DO} (h : PE X e (tO X.K f)) : PS X (.Return (some e) pos) (sD X.K (sRetO f)) := ps_w (ps_ret h) fun D σ H ⟨BV, B, V, ρ, r, E, h, q⟩ => by
  obtain ⟨⟨s, ρ1⟩, h1, h2⟩ := map_some h
  cases h2
  exact ⟨BV, B, V, ρ, s, ρ1, E, h1, fun v V' H' F _ E' O l hF => q v σ V' H' F F E' O fun p hp => ⟨hp, hF p hp⟩⟩
def sIfO (t : DOB) (F G : DS) : DS := fun ρ => (t ρ).bind fun x => if x.1 = true then F x.2 else G x.2
theorem ds_ifO {t : DOB} {F G : DS} {st1 st2 : List Stmt} (ht : PT X e (tOT X.K t)) (h1 : PSs X st1 (sD X.K F)) (h2 : PSs X st2 (sD X.K G)) : PS X (.If e st1 st2 pos) (sD X.K (sIfO t F G)) := ps_w (ps_if ht h1 h2) fun D σ H ⟨BV, B, V, ρ, r, E, h, q⟩ => by
  unfold sIfO at h
  obtain ⟨⟨x, ρ1⟩, h1, h⟩ := bind_some h
  refine ⟨BV, B, V, ρ, x, ρ1, E, h1, fun V' H' _ E' => ?_⟩
  cases x with
  | true => exact ⟨BV, B, V', ρ1, r, E', h, q⟩
  | false => exact ⟨BV, B, V', ρ1, r, E', h, q⟩
end
/-! ### a def to which an object is handed -/
def FlR (K : PySem.W.Frag) (BV : Hp) (B : Bs) (Q : VK) : Fl → Prop
  | .nx ρ' => ∀ σ' V' H', EnvD K BV B V' H' σ' ρ' → Q .non H'
  | .rt d => ∀ v V' H', Gr BV B.h V' H' → Dq K V' v d → Q v H'
  | .ro r ρ' => ∀ v σ' V' H' F S, EnvA K BV B V' H' σ' ρ' S → Own K V' H' (some v) r F → (∀ p, F p → S p ∧ V' p = none ∧ B.h p = none ∧ ¬ B.ex p) → Q v H'
  | _ => False
def spO (K : PySem.W.Frag) (n N : Nat) (F : DS) : Sp := fun vs H Q _ => vs.length = n ∧ ∃ BV B V as r, EnvD K BV B V H (vs.map some) as ∧ as.length = n ∧ F (as ++ List.replicate (N - n) .un) = some r ∧ FlR K BV B Q r
def spRO (K : PySem.W.Frag) (mg : Str → Option Value) (n N : Nat) (R : DX) : Sp := fun vs H _ E => vs.length = n ∧ ∃ BV B V as cl ρ', EnvD K BV B V H (vs.map some) as ∧ as.length = n ∧ R (as ++ List.replicate (N - n) .un) = some (cl, ρ') ∧ ∀ σ' V' H', EnvD K BV B V' H' σ' ρ' → E (clsOf mg cl) none H'
theorem startO {K : PySem.W.Frag} {BV : Hp} {B : Bs} {V H : Hp} {vs : List L2.V} {as : List Sl} {N : List Str} {n : Nat} (E : EnvD K BV B V H (vs.map some) as) (h1 : vs.length = n) (h2 : as.length = n) : EnvD K BV B V H (L2.start N vs) (as ++ List.replicate (N.length - n) .un) := by
  have := E.ext (by rw [List.length_map, h1, h2]) (N.length - n)
  unfold L2.start
  rw [h1]
  exact this
theorem fnO {P : Program} {w : World} {K : PySem.W.Frag} {mg : Str → Option Value} {base : Heap} {x qual : Str} {st : Stmt} {f : Addr} {fd : FuncData} {N ps : List Str} {k : Nat} {F : DS} (Fu : Fun K x qual st f fd) (S : FnScope N ps (defScope st))
    (hb : ∀ (cdv : Value) (A : Around) (outer : List Env) (s : Shared) (H : Hp) (E : XK), Room k (A.deeper (envOfC qual (defScope st) s.heap.objs.size f cdv)) → PSs (cxOf CX0 P w K mg base N qual (defScope st) f cdv A outer s H E).nox (defBody st) (sD K F)) :
    FnOk P w K mg base CX0 (k + 1) f fd ps (spO K ps.length N.length F) := by
  refine Fu.ok S (fun vs H Q E h => h.1) fun cdv A outer s H vs Q E hr h => ⟨_, hb cdv A outer s H E hr, ?_⟩
  obtain ⟨hl, BV, B, V, as, r, E0, hn, hF, q⟩ := h
  refine ⟨BV, B, V, _, r, startO E0 hl hn, hF, ?_⟩
  cases r with
  | nx ρ => exact q
  | rt d => exact q
  | ro d ρ => exact q
  | bk ρ => exact q.elim
  | ct ρ => exact q.elim
theorem fnRO {P : Program} {w : World} {K : PySem.W.Frag} {mg : Str → Option Value} {base : Heap} {x qual : Str} {st : Stmt} {f : Addr} {fd : FuncData} {N ps : List Str} {k : Nat} {R : DX} (Fu : Fun K x qual st f fd) (S : FnScope N ps (defScope st))
    (hb : ∀ (cdv : Value) (A : Around) (outer : List Env) (s : Shared) (H : Hp) (E : XK), Room k (A.deeper (envOfC qual (defScope st) s.heap.objs.size f cdv)) → Takes (cxOf (L2.CX P w) P w K mg base N qual (defScope st) f cdv A outer s H E) (fun cls d _ H => E cls d H) → PSs (cxOf (L2.CX P w) P w K mg base N qual (defScope st) f cdv A outer s H E) (defBody st) (sR K mg (fun cls d _ H => E cls d H) R)) :
    FnOk P w K mg base (L2.CX P w) (k + 1) f fd ps (spRO K mg ps.length N.length R) := by
  refine Fu.okX S (fun vs H Q E h => h.1) fun cdv A outer s H vs Q E hr h => ⟨_, hb cdv A outer s H E hr (takes_of rfl rfl rfl rfl), ?_⟩
  obtain ⟨hl, BV, B, V, as, cl, ρ', E0, hn, hR, q⟩ := h
  exact ⟨BV, B, V, _, cl, ρ', startO E0 hl hn, hR, fun σ' V' H' E' => q σ' V' H' E'⟩
/-- an object that is bound to its slot -/
def obAn (c : Str) (j : Nat) (ρ : List Sl) : Option (List (Str × Fv)) := match ρ[j]? with
  | some (.ob true c' fs) => if c' = c then some fs else none
  | _ => none
theorem obAn_some {c : Str} {j : Nat} {ρ : List Sl} {fs : List (Str × Fv)} (h : obAn c j ρ = some fs) : ρ[j]? = some (.ob true c fs) := by
  unfold obAn at h
  split at h
  · rename_i c' fs' e
    split at h
    · rename_i ec
      cases h
      rw [ec] at e
      exact e
    · cases h
  · cases h
/-- what a def gives back: its value, and the object -/
def outO (c : Str) (i j : Nat) (ρ : List Sl) : Fl → Option (Sl × List Sl)
  | .ro x ρ2 => if x.loose = true then (obAn c j ρ2).map fun st => (x, obSet i st ρ) else none
  | .nx ρ2 => (obAn c j ρ2).map fun st => (.d .none, obSet i st ρ)
  | _ => none
section
variable {K : PySem.W.Frag} {BV : Hp} {B : Bs} {V H : Hp} {σ : L2.St} {ρ ρ' : List Sl} {i n N : Nat} {an : Bool} {c : Str} {fs : List (Str × Fv)} {us ws : List L2.V} {pre post : List PyData} {F : DS} {r : Fl} {s : Sl} {Q : VK}
/-- the object of slot j, as the callee leaves it -/
theorem back_at {BV' : Hp} {B' : Bs} {V' H' : Hp} {σ' : L2.St} {ρ2 : List Sl} {S : Addr → Prop} {j : Nat} {a : Addr} {st : List (Str × Fv)} (E : EnvA K BV' B' V' H' σ' ρ2 S) (h : ρ2[j]? = some (.ob true c st)) (ha : B'.anc j = some a) : ∃ F', Own K V' H' (some (.ref a)) (.ob true c st) F' ∧ (∀ p, F' p → B'.h p = none ∧ V' p = none) ∧ ∀ p, F' p → ¬ S p := by
  obtain ⟨φ, h1, h2, h3⟩ := E.fp
  obtain ⟨o, q1, q2⟩ := h1 j _ h
  obtain ⟨a', e1, e2⟩ := q2.anc
  rw [ha] at e1
  cases e1
  subst e2
  exact ⟨φ j, q2.own, fun p hp => ⟨(q2.out p hp).2.1, (q2.out p hp).1⟩, fun p hp => (h3 j p hp).2⟩
theorem callO (E : EnvD K BV B V H σ ρ) (e : ρ[i]? = some (.ob an c fs)) (d1 : DqAll K V us pre) (d2 : DqAll K V ws post) (hn : pre.length + (post.length + 1) = n) (hF : F (pre.map Sl.d ++ .ob true c fs :: post.map Sl.d ++ List.replicate (N - n) .un) = some r) (ho : outO c i pre.length ρ r = some (s, ρ'))
    (q : ∀ v V' H' F, Ex V V' → EnvA K BV B V' H' σ ρ' F → Own K V' H' (some v) s F → s.loose = true → (∀ p, F p → V' p = none ∧ B.h p = none ∧ ¬ B.ex p) → Q v H') : ∃ a, σ[i]? = some (some (.ref a)) ∧ ∀ Ex, spO K n N F (us ++ .ref a :: ws) H Q Ex := by
  obtain ⟨a, F0, hs, own, out, back⟩ := E.lend e
  have En := lent_env E.sub own (fun p hp => (out p hp).1) d1 d2
  refine ⟨a, hs, fun _ => ⟨by rw [List.length_append, List.length_cons, da_len d1, da_len d2]; exact hn, V, _, V, _, r, En, by simp; omega, hF, ?_⟩⟩
  have anc : (if pre.length = pre.length then some a else none) = some a := if_pos rfl
  have nb : ∀ p, minus H F0 p = none → B.h p = none ∧ ¬ B.ex p := fun p z => (minus_none z).elim (fun z => (out p z).2) fun z => ⟨E.gr.h.back z, fun y => E.xl p y z⟩
  cases r with
  | ro x ρ2 =>
    simp only [outO] at ho
    split at ho
    · rename_i hl
      obtain ⟨st, h1, h2⟩ := map_some ho
      cases h2
      intro v σ' V' H' Fp S E' O' hc
      obtain ⟨F', k1, k2, k3⟩ := back_at E' (obAn_some h1) anc
      refine q v V' H' Fp E'.gr.v ?_ O' hl fun p hp => ⟨(hc p hp).2.1, nb p (hc p hp).2.2.1⟩
      rw [obSet_eq e]
      exact back V' H' st F' Fp E'.gr k1 k2 fun p hp => ⟨(hc p hp).2.2.1, fun z => k3 p z (hc p hp).1⟩
    · cases ho
  | nx ρ2 =>
    simp only [outO] at ho
    obtain ⟨st, h1, h2⟩ := map_some ho
    cases h2
    intro σ' V' H' E'
    obtain ⟨F', k1, k2, k3⟩ := back_at E' (obAn_some h1) anc
    refine q .non V' H' (fun _ => False) E'.gr.v ?_ (Own.dat .non) rfl fun p hp => hp.elim
    rw [obSet_eq e]
    exact back V' H' st F' _ E'.gr k1 k2 fun p hp => hp.elim
  | rt d => cases ho
  | bk ρ2 => cases ho
  | ct ρ2 => cases ho
theorem callRO {R : DX} {mg : Str → Option Value} {cl : Str} {ρ2 : List Sl} {st : List (Str × Fv)} {Ek : XK} (E : EnvD K BV B V H σ ρ) (e : ρ[i]? = some (.ob an c fs)) (d1 : DqAll K V us pre) (d2 : DqAll K V ws post) (hn : pre.length + (post.length + 1) = n) (hR : R (pre.map Sl.d ++ .ob true c fs :: post.map Sl.d ++ List.replicate (N - n) .un) = some (cl, ρ2)) (ho : obAn c pre.length ρ2 = some st)
    (q : ∀ V' H', Ex V V' → EnvD K BV B V' H' σ (obSet i st ρ) → Ek (clsOf mg cl) none H') : ∃ a, σ[i]? = some (some (.ref a)) ∧ ∀ Q, spRO K mg n N R (us ++ .ref a :: ws) H Q Ek := by
  obtain ⟨a, F0, hs, own, out, back⟩ := E.lend e
  have En := lent_env E.sub own (fun p hp => (out p hp).1) d1 d2
  refine ⟨a, hs, fun _ => ⟨by rw [List.length_append, List.length_cons, da_len d1, da_len d2]; exact hn, V, _, V, _, cl, ρ2, En, by simp; omega, hR, fun σ' V' H' E' => ?_⟩⟩
  obtain ⟨F', k1, k2, k3⟩ := back_at E' (obAn_some ho) (if_pos rfl)
  refine q V' H' E'.gr.v ?_
  rw [obSet_eq e]
  exact back V' H' st F' _ E'.gr k1 k2 fun p hp => hp.elim
end
end DL

namespace DL
open PySem PySem.Spec PyProof.Rows L2
section
variable {X : Cx} {e a b o : Expr} {es : List Expr} {pos pos' apos cpos p : Pos} {st : Stmt} {rest : List Stmt} {c m x : Str} {C f : Addr} {fd : FuncData} {ps : List Str} {k i : Nat} {W : WX}
/-! ### a method is called -/
def oMeth (c : Str) (i : Nat) (m : Str) (n N : Nat) (F : DS) (fs : DA) : DO := fun ρ => (fs ρ).bind fun ds => (obAt c i ρ).bind fun st => if (st.lookup m).isNone = true ∧ ds.length + 1 = n then (F (.ob true c st :: ds.map Sl.d ++ List.replicate (N - n) .un)).bind (outO c i 0 ρ) else none
theorem oMeth_some {n N : Nat} {F : DS} {fs : DA} {ρ ρ' : List Sl} {s : Sl} (h : oMeth c i m n N F fs ρ = some (s, ρ')) : ∃ ds an st r, fs ρ = some ds ∧ ρ[i]? = some (.ob an c st) ∧ st.lookup m = none ∧ ds.length + 1 = n ∧ F (.ob true c st :: ds.map Sl.d ++ List.replicate (N - n) .un) = some r ∧ outO c i 0 ρ r = some (s, ρ') := by
  unfold oMeth at h
  obtain ⟨ds, h1, h⟩ := bind_some h
  obtain ⟨st, h2, h⟩ := bind_some h
  split at h
  · rename_i hl
    obtain ⟨r, h3, h4⟩ := bind_some h
    obtain ⟨an, h2⟩ := obAt_some h2
    exact ⟨ds, an, st, r, h1, h2, Option.isNone_iff_eq_none.mp hl.1, hl.2, h3, h4⟩
  · cases h
theorem o_meth {n N : Nat} {F : DS} {fs : DA} {pl : Sem Bool} (kc : ClO X.K X.mg c C) (hm : Meth X.K C m f) (Fn : FnOk X.prog X.w X.K X.mg X.base CX0 k f fd ps (spO X.K n N F)) (hr : Room k X.A) (hb : Binds X.K fd ps []) (ho : PE X o (tVar i)) (ha : PA X (e :: es) (tDA X.K fs))
    (hst : starEach (e :: es) X.env = (false, eval e X.env) :: starEach es X.env := by rfl) (hpl : (backTo pos (starEach es X.env)).any (·.1) = false := by rfl)
    (ht : eval (.Call (.Attribute o m apos) (e :: es) [] pos) X.env = (do
      let ov ← eval o X.env
      standAt apos.atName
      let (f, first) ← holding [ov] (getMethod ov m pl)
      callWith pos f first (backTo pos (starEach (e :: es) X.env)) (backToKw pos (keywordEach [] X.env))) := by rfl) :
    PE X (.Call (.Attribute o m apos) (e :: es) [] pos) (tO X.K (oMeth c i m n N F fs)) :=
  pe_w (pe_meth (E := E0) (dvs := []) ho kc.cl hm Fn hr hb .nil pass0 ha hst hpl ht) fun σ H Q ⟨BV, B, V, ρ, s, ρ', E, hf, q⟩ => by
    obtain ⟨ds, an, st, r, h1, h2, hl, hn, h3, h4⟩ := oMeth_some hf
    obtain ⟨a, C', dx, gs, G, hs, hc, hA, hd, nad, hfs, ga, gd, _⟩ := E.obj h2
    rw [kc.ns] at hc
    cases hc
    refine ⟨.ref a, hs, a, dx, gs, rfl, hA, fs_none hfs hl, BV, B, V, ρ, ds, E, h1, fun vs V1 H1 g1 d1 => ?_⟩
    obtain ⟨a', hs', hc⟩ := callO (us := []) (pre := []) (E.grow g1) h2 .nil d1 (by simp; omega) h3 h4 (Q := Q) fun v V' H' F x => q v V' H' F (g1.v.trans x)
    rw [hs] at hs'
    cases hs'
    have := hc E0
    rw [List.append_nil]
    exact this

theorem o_meth0 {n N : Nat} {F : DS} {pl : Sem Bool} (kc : ClO X.K X.mg c C) (hm : Meth X.K C m f) (Fn : FnOk X.prog X.w X.K X.mg X.base CX0 k f fd ps (spO X.K n N F)) (hr : Room k X.A) (hb : Binds X.K fd ps []) (ho : PE X o (tVar i))
    (ht : eval (.Call (.Attribute o m apos) [] [] pos) X.env = (do
      let ov ← eval o X.env
      standAt apos.atName
      let (f, first) ← holding [ov] (getMethod ov m pl)
      callWith pos f first (backTo pos (starEach [] X.env)) (backToKw pos (keywordEach [] X.env))) := by rfl) :
    PE X (.Call (.Attribute o m apos) [] [] pos) (tO X.K (oMeth c i m n N F aNil)) :=
  pe_w (pe_meth0 (E := E0) (dvs := []) ho kc.cl hm Fn hr hb .nil pass0 ht) fun σ H Q ⟨BV, B, V, ρ, s, ρ', E, hf, q⟩ => by
    obtain ⟨ds, an, st, r, h1, h2, hl, hn, h3, h4⟩ := oMeth_some hf
    cases h1
    obtain ⟨a, C', dx, gs, G, hs, hc, hA, hd, nad, hfs, ga, gd, _⟩ := E.obj h2
    rw [kc.ns] at hc
    cases hc
    refine ⟨.ref a, hs, a, dx, gs, rfl, hA, fs_none hfs hl, ?_⟩
    obtain ⟨a', hs', hc⟩ := callO (us := []) (pre := []) (ws := []) (post := []) E h2 .nil .nil (by simp; omega) h3 h4 q
    rw [hs] at hs'
    cases hs'
    exact hc E0
/-! ### a method that raises -/
def tMethW (C : Addr) (m : Str) (sp : Sp) (E : L2.St → XK) (ta : TE) (t : TA) : TE := fun σ H Q => ta σ H fun x H1 => ∃ a dx fs, x = .ref a ∧ H1 a = some (.ins C dx fs) ∧ fs.lookup m = none ∧ t σ H1 fun vs H2 => sp (x :: vs) H2 Q (E σ)
theorem pe_methW {CX : CXT} {ta : TE} {t : TA} {sp : Sp} {E : L2.St → XK} {pl : Sem Bool} (he : PE X o ta) (c : Cls X.K C) (hm : Meth X.K C m f) (F : FnOk X.prog X.w X.K X.mg X.base CX k f fd ps sp) (hr : Room k X.A) (hb : Binds X.K fd ps []) (hx : ∀ σ, PassesAt CX X σ (E σ)) (ha : PA X (e :: es) t)
    (hst : starEach (e :: es) X.env = (false, eval e X.env) :: starEach es X.env := by rfl) (hpl : (backTo pos (starEach es X.env)).any (·.1) = false := by rfl)
    (ht : eval (.Call (.Attribute o m apos) (e :: es) [] pos) X.env = (do
      let ov ← eval o X.env
      standAt apos.atName
      let (f, first) ← holding [ov] (getMethod ov m pl)
      callWith pos f first (backTo pos (starEach (e :: es) X.env)) (backToKw pos (keywordEach [] X.env))) := by rfl) :
    PE X (.Call (.Attribute o m apos) (e :: es) [] pos) (tMethW C m sp E ta t) := by
  refine ⟨fun pins s σ H Q I h => ?_⟩
  refine PySem.W.methodCall_KW (pl := pl) (thn (he.run pins s σ H _ I h) fun u s1 ⟨x, H1, I1, rx, a, dx, fs, ex, ea, l, q⟩ => ?_) ht
  subst ex
  obtain rfl : u = Value.ref a := rx
  refine getmeth_ok I1 ea c hm l ?_
  refine PySem.W.callWith_K (first := [.ref a]) (h₀ := X.base) I.ok.mod.kin hm.kp (thn (ha.run pos pins s1 σ H1 _ I1 q) fun us s2 ⟨vs, H2, I2, r, q2⟩ => ⟨I2.kIn, ?_⟩) hst hpl
  exact run_fnS (us := .ref a :: us) (vs := .ref a :: vs) F hr hb (hx σ) I2 (.cons rfl r) q2
theorem pe_methW0 {CX : CXT} {ta : TE} {sp : Sp} {E : L2.St → XK} {pl : Sem Bool} (he : PE X o ta) (c : Cls X.K C) (hm : Meth X.K C m f) (F : FnOk X.prog X.w X.K X.mg X.base CX k f fd ps sp) (hr : Room k X.A) (hb : Binds X.K fd ps []) (hx : ∀ σ, PassesAt CX X σ (E σ))
    (ht : eval (.Call (.Attribute o m apos) [] [] pos) X.env = (do
      let ov ← eval o X.env
      standAt apos.atName
      let (f, first) ← holding [ov] (getMethod ov m pl)
      callWith pos f first (backTo pos (starEach [] X.env)) (backToKw pos (keywordEach [] X.env))) := by rfl) :
    PE X (.Call (.Attribute o m apos) [] [] pos) (tMethW C m sp E ta tNil) := by
  refine ⟨fun pins s σ H Q I h => ?_⟩
  refine PySem.W.methodCall_KW (pl := pl) (thn (he.run pins s σ H _ I h) fun u s1 ⟨x, H1, I1, rx, a, dx, fs, ex, ea, l, q⟩ => ?_) ht
  subst ex
  obtain rfl : u = Value.ref a := rx
  refine getmeth_ok I1 ea c hm l ?_
  exact PySem.W.callWith_K0 (first := [.ref a]) I1.kIn hm.kp (run_fnS (us := [.ref a]) (vs := [.ref a]) F hr hb (hx σ) I1 (.cons rfl .nil) q)
def rMeth (c : Str) (i : Nat) (m : Str) (n N : Nat) (R : DX) (fs : DA) : DX := fun ρ => (fs ρ).bind fun ds => (obAt c i ρ).bind fun st => if (st.lookup m).isNone = true ∧ ds.length + 1 = n then (R (.ob true c st :: ds.map Sl.d ++ List.replicate (N - n) .un)).bind fun x => (obAn c 0 x.2).map fun st' => (x.1, obSet i st' ρ) else none
theorem rMeth_some {n N : Nat} {R : DX} {fs : DA} {ρ ρ' : List Sl} {cl : Str} (h : rMeth c i m n N R fs ρ = some (cl, ρ')) : ∃ ds an st ρ2 st', fs ρ = some ds ∧ ρ[i]? = some (.ob an c st) ∧ st.lookup m = none ∧ ds.length + 1 = n ∧ R (.ob true c st :: ds.map Sl.d ++ List.replicate (N - n) .un) = some (cl, ρ2) ∧ obAn c 0 ρ2 = some st' ∧ ρ' = obSet i st' ρ := by
  unfold rMeth at h
  obtain ⟨ds, h1, h⟩ := bind_some h
  obtain ⟨st, h2, h⟩ := bind_some h
  split at h
  · rename_i hl
    obtain ⟨⟨x, ρ2⟩, h3, h4⟩ := bind_some h
    obtain ⟨st', h5, h6⟩ := map_some h4
    cases h6
    obtain ⟨an, h2⟩ := obAt_some h2
    exact ⟨ds, an, st, ρ2, st', h1, h2, Option.isNone_iff_eq_none.mp hl.1, hl.2, h3, h5, rfl⟩
  · cases h
theorem der_meth {n N : Nat} {R : DX} {fs : DA} {pl : Sem Bool} (tk : Takes X W) (kc : ClO X.K X.mg c C) (hm : Meth X.K C m f) (Fn : FnOk X.prog X.w X.K X.mg X.base (L2.CX X.prog X.w) k f fd ps (spRO X.K X.mg n N R)) (hr : Room k X.A) (hb : Binds X.K fd ps []) (ho : PE X o (tVar i)) (ha : PA X (e :: es) (tDA X.K fs))
    (hst : starEach (e :: es) X.env = (false, eval e X.env) :: starEach es X.env := by rfl) (hpl : (backTo pos (starEach es X.env)).any (·.1) = false := by rfl)
    (ht : eval (.Call (.Attribute o m apos) (e :: es) [] pos) X.env = (do
      let ov ← eval o X.env
      standAt apos.atName
      let (f, first) ← holding [ov] (getMethod ov m pl)
      callWith pos f first (backTo pos (starEach (e :: es) X.env)) (backToKw pos (keywordEach [] X.env))) := by rfl) :
    PE X (.Call (.Attribute o m apos) (e :: es) [] pos) (eR X.K X.mg W (rMeth c i m n N R fs)) :=
  pe_w (pe_methW (E := WE W) ho kc.cl hm Fn hr hb (fun σ => passAt tk σ) ha hst hpl ht) fun σ H Q ⟨BV, B, V, ρ, cl, ρ', E, hf, q⟩ => by
    obtain ⟨ds, an, st, ρ2, st', h1, h2, hl, hn, h3, h4, rfl⟩ := rMeth_some hf
    obtain ⟨a, C', dx, gs, G, hs, hc, hA, hd, nad, hfs, ga, gd, _⟩ := E.obj h2
    rw [kc.ns] at hc
    cases hc
    refine ⟨.ref a, hs, a, dx, gs, rfl, hA, fs_none hfs hl, BV, B, V, ρ, ds, E, h1, fun vs V1 H1 g1 d1 => ?_⟩
    obtain ⟨a', hs', hc⟩ := callRO (us := []) (pre := []) (Ek := WE W σ) (mg := X.mg) (E.grow g1) h2 .nil d1 (by simp; omega) h3 h4 fun V' H' x E' => q σ V' H' E'
    rw [hs] at hs'
    cases hs'
    exact hc Q
theorem der_meth0 {n N : Nat} {R : DX} {pl : Sem Bool} (tk : Takes X W) (kc : ClO X.K X.mg c C) (hm : Meth X.K C m f) (Fn : FnOk X.prog X.w X.K X.mg X.base (L2.CX X.prog X.w) k f fd ps (spRO X.K X.mg n N R)) (hr : Room k X.A) (hb : Binds X.K fd ps []) (ho : PE X o (tVar i))
    (ht : eval (.Call (.Attribute o m apos) [] [] pos) X.env = (do
      let ov ← eval o X.env
      standAt apos.atName
      let (f, first) ← holding [ov] (getMethod ov m pl)
      callWith pos f first (backTo pos (starEach [] X.env)) (backToKw pos (keywordEach [] X.env))) := by rfl) :
    PE X (.Call (.Attribute o m apos) [] [] pos) (eR X.K X.mg W (rMeth c i m n N R aNil)) :=
  pe_w (pe_methW0 (E := WE W) ho kc.cl hm Fn hr hb (fun σ => passAt tk σ) ht) fun σ H Q ⟨BV, B, V, ρ, cl, ρ', E, hf, q⟩ => by
    obtain ⟨ds, an, st, ρ2, st', h1, h2, hl, hn, h3, h4, rfl⟩ := rMeth_some hf
    cases h1
    obtain ⟨a, C', dx, gs, G, hs, hc, hA, hd, nad, hfs, ga, gd, _⟩ := E.obj h2
    rw [kc.ns] at hc
    cases hc
    refine ⟨.ref a, hs, a, dx, gs, rfl, hA, fs_none hfs hl, ?_⟩
    obtain ⟨a', hs', hc⟩ := callRO (us := []) (pre := []) (ws := []) (post := []) (Ek := WE W σ) (mg := X.mg) E h2 .nil .nil (by simp; omega) h3 h4 fun V' H' x E' => q σ V' H' E'
    rw [hs] at hs'
    cases hs'
    exact hc Q
/-! ### a def to which an object is handed is called -/
def tLent (K : PySem.W.Frag) (f : DA) (i : Nat) (g : DA) : TA := fun σ H Q => ∃ BV B V ρ ds es, EnvD K BV B V H σ ρ ∧ f ρ = some ds ∧ g ρ = some es ∧ ∀ us ws a V' H', Gr V H V' H' → DqAll K V' us ds → DqAll K V' ws es → σ[i]? = some (some (.ref a)) → Q (us ++ .ref a :: ws) H'
theorem pl_ob {g : DA} (he : PE X e (tVar i)) (hr : PA X es (tDA X.K g)) (hs : starEach (e :: es) X.env = (false, eval e X.env) :: starEach es X.env := by rfl) : PA X (e :: es) (fun σ H Q => (∃ a, σ[i]? = some (some (.ref a))) ∧ tLent X.K aNil i g σ H Q) :=
  pa_w (pa_cons he hr hs) fun σ H Q ⟨⟨a, ha⟩, BV, B, V, ρ, ds, es, E, h1, h2, q⟩ => by
    cases h1
    exact ⟨.ref a, ha, BV, B, V, ρ, es, E, h2, fun ws V' H' g d => q [] ws a V' H' g .nil d ha⟩
theorem pl_pre {f : DE} {fs g : DA} (he : PE X e (tD X.K f)) (hr : PA X es (fun σ H Q => (∃ a, σ[i]? = some (some (.ref a))) ∧ tLent X.K fs i g σ H Q)) (hs : starEach (e :: es) X.env = (false, eval e X.env) :: starEach es X.env := by rfl) : PA X (e :: es) (fun σ H Q => (∃ a, σ[i]? = some (some (.ref a))) ∧ tLent X.K (aCons f fs) i g σ H Q) :=
  pa_w (pa_cons he hr hs) fun σ H Q ⟨ha, BV, B, V, ρ, ds, es, E, h1, h2, q⟩ => by
    obtain ⟨d, ds, k1, k2, rfl⟩ := aCons_some h1
    exact ⟨BV, B, V, ρ, d, E, k1, fun v V1 H1 g1 d1 => ⟨ha, BV, B, V1, ρ, ds, es, E.grow g1, k2, h2, fun us ws a V' H' g2 D1 D2 hA => q (v :: us) ws a V' H' (g1.trans g2) (.cons (dp_mono g2.v d1) D1) D2 hA⟩⟩
def oCallO (c : Str) (i n N : Nat) (F : DS) (fs gs : DA) : DO := fun ρ => (fs ρ).bind fun ds => (gs ρ).bind fun es => (obAt c i ρ).bind fun st => if ds.length + (es.length + 1) = n then (F (ds.map Sl.d ++ .ob true c st :: es.map Sl.d ++ List.replicate (N - n) .un)).bind (outO c i ds.length ρ) else none
theorem oCallO_some {n N : Nat} {F : DS} {fs gs : DA} {ρ ρ' : List Sl} {s : Sl} (h : oCallO c i n N F fs gs ρ = some (s, ρ')) : ∃ ds es an st r, fs ρ = some ds ∧ gs ρ = some es ∧ ρ[i]? = some (.ob an c st) ∧ ds.length + (es.length + 1) = n ∧ F (ds.map Sl.d ++ .ob true c st :: es.map Sl.d ++ List.replicate (N - n) .un) = some r ∧ outO c i ds.length ρ r = some (s, ρ') := by
  unfold oCallO at h
  obtain ⟨ds, h1, h⟩ := bind_some h
  obtain ⟨es, h1', h⟩ := bind_some h
  obtain ⟨st, h2, h⟩ := bind_some h
  split at h
  · rename_i hl
    obtain ⟨r, h3, h4⟩ := bind_some h
    obtain ⟨an, h2⟩ := obAt_some h2
    exact ⟨ds, es, an, st, r, h1, h1', h2, hl, h3, h4⟩
  · cases h
theorem o_call {n N : Nat} {F : DS} {fs gs : DA} (Fn : FnOk X.prog X.w X.K X.mg X.base CX0 k f fd ps (spO X.K n N F)) (hr : Room k X.A) (hg : Gl X x) (hm : X.mg x = some (.ref f)) (hk : PySem.W.keepIn X.K (.ref f) = true) (hb : Binds X.K fd ps []) (ha : PA X (e :: es) (fun σ H Q => (∃ a, σ[i]? = some (some (.ref a))) ∧ tLent X.K fs i gs σ H Q)) (hdb : (x == ("__debug__" : Str)) = false := by decide)
    (he : starEach (e :: es) X.env = (false, eval e X.env) :: starEach es X.env := by rfl) (hpl : (backTo pos (starEach es X.env)).any (·.1) = false := by rfl) : PE X (.Call (.Name x p) (e :: es) [] pos) (tO X.K (oCallO c i n N F fs gs)) :=
  pe_w (pe_call Fn hr hg hm hk hb .nil (E := E0) pass0 ha hdb he hpl) fun σ H Q ⟨BV, B, V, ρ, s, ρ', E, hf, q⟩ => by
    obtain ⟨ds, es, an, st, r, h1, h1', h2, hn, h3, h4⟩ := oCallO_some hf
    obtain ⟨a, C', dx, gs, G, hs, _⟩ := E.obj h2
    refine ⟨⟨a, hs⟩, BV, B, V, ρ, ds, es, E, h1, h1', fun us ws a' V1 H1 g1 d1 d2 ha' => ?_⟩
    obtain ⟨a2, hs', hc⟩ := callO (E.grow g1) h2 d1 d2 hn h3 h4 (Q := Q) fun v V' H' F x => q v V' H' F (g1.v.trans x)
    rw [ha'] at hs'
    cases hs'
    rw [List.append_nil]
    exact hc E0
end
end DL

namespace DL
open PySem PySem.Spec PyProof.Rows L2
section
variable {X : Cx} {e a b o : Expr} {es : List Expr} {pos pos' apos cpos p : Pos} {st : Stmt} {rest : List Stmt} {c m x : Str} {C f : Addr} {fd : FuncData} {ps : List Str} {k i : Nat} {W : WX}
/-! ### a new object -/
def dMake (c : Str) (n N : Nat) (F : DS) (fs : DA) : DSl := fun ρ => (fs ρ).bind fun ds => if ds.length + 1 = n then (F (.ob true c [] :: ds.map Sl.d ++ List.replicate (N - n) .un)).bind fun r => (match r with
  | .nx ρ2 => (obAn c 0 ρ2).map fun st => .ob false c st
  | _ => none) else none
theorem dMake_some {n N : Nat} {F : DS} {fs : DA} {ρ : List Sl} {s : Sl} (h : dMake c n N F fs ρ = some s) : ∃ ds ρ2 st, fs ρ = some ds ∧ ds.length + 1 = n ∧ F (.ob true c [] :: ds.map Sl.d ++ List.replicate (N - n) .un) = some (.nx ρ2) ∧ obAn c 0 ρ2 = some st ∧ s = .ob false c st := by
  unfold dMake at h
  obtain ⟨ds, h1, h⟩ := bind_some h
  split at h
  · rename_i hl
    obtain ⟨r, h2, h⟩ := bind_some h
    cases r with
    | nx ρ2 =>
      obtain ⟨st, h3, h4⟩ := map_some h
      cases h4
      exact ⟨ds, ρ2, st, h1, hl, h2, h3, rfl⟩
    | _ => cases h
  · cases h
/-- the slots of __init__, at the beginning -/
theorem made_env {K : PySem.W.Frag} {mg : Str → Option Value} {V H : Hp} {x dx : Addr} {ws : List L2.V} {ds : List PyData} (kc : ClO K mg c C) (s : Ex V H) (hx : H x = none) (hd : H dx = none) (n : dx ≠ x) (d : DqAll K V ws ds) :
    EnvD K V ⟨minus (upd (upd H dx (.own x)) x (.ins C dx [])) (fun q => q = x ∨ q = dx ∨ False), fun j => if j = 0 then some x else none, fun _ => False⟩ V (upd (upd H dx (.own x)) x (.ins C dx [])) ((.ref x :: ws).map some) (.ob true c [] :: ds.map Sl.d) := by
  have x1 : Ex H (upd H dx (.own x)) := Ex.new hd
  have x2 : Ex (upd H dx (.own x)) (upd (upd H dx (.own x)) x (.ins C dx [])) := Ex.new (by rw [upd_ne (Ne.symm n)]; exact hx)
  have own : Own K V (upd (upd H dx (.own x)) x (.ins C dx [])) (some (.ref x)) (.ob true c []) (fun q => q = x ∨ q = dx ∨ False) :=
    ⟨x, C, dx, [], fun _ => False, rfl, kc.ns, upd_same, by rw [upd_ne n]; exact upd_same, Ne.symm n, .nil, fun z => z, fun z => z, fun _ => Iff.rfl⟩
  exact lent_env (us := []) (pre := []) (s.trans (x1.trans x2)) own (fun q hq => by
    rcases hq with z | z | z
    · rw [z]; exact s.back hx
    · rw [z]; exact s.back hd
    · exact z.elim) .nil d
theorem made_minus {H : Hp} {x dx : Addr} (hx : H x = none) (hd : H dx = none) (n : dx ≠ x) : minus (upd (upd H dx (.own x)) x (.ins C dx [])) (fun q => q = x ∨ q = dx ∨ False) = H := by
  funext q
  by_cases h1 : q = x
  · rw [minus_in (.inl h1), h1, hx]
  · by_cases h2 : q = dx
    · rw [minus_in (.inr (.inl h2)), h2, hd]
    · rw [minus_out (fun z => z.elim h1 fun z => z.elim h2 id), upd_ne h1, upd_ne h2]
theorem ts_make {n N : Nat} {F : DS} {fs : DA} (kc : ClO X.K X.mg c C) (M : Mk X.K C f) (Fn : FnOk X.prog X.w X.K X.mg X.base CX0 k f fd ps (spO X.K n N F)) (hr : Room (k + 1) X.A) (hg : Gl X c) (hb : Binds X.K fd ps []) (ha : PA X (e :: es) (tDA X.K fs)) (hdb : (c == ("__debug__" : Str)) = false := by decide)
    (he : starEach (e :: es) X.env = (false, eval e X.env) :: starEach es X.env := by rfl) (hpl : (backTo pos (starEach es X.env)).any (·.1) = false := by rfl) : PE X (.Call (.Name c p) (e :: es) [] pos) (tSl X.K (dMake c n N F fs)) :=
  pe_w (pe_make M Fn hr hg kc.mg hb .nil (E := E0) pass0 ha hdb he hpl) fun σ H Q ⟨BV, B, V, ρ, s, E, hf, q⟩ => by
    obtain ⟨ds, ρ2, st, h1, hn, h2, h3, rfl⟩ := dMake_some hf
    refine ⟨BV, B, V, ρ, ds, E, h1, fun vs V1 H1 g1 d1 x dx hx hd n => ?_⟩
    rw [List.append_nil]
    have En := made_env kc g1.sub hx hd n d1
    refine ⟨by rw [List.length_cons, da_len d1]; exact hn, V1, _, V1, _, _, En, by simp; omega, h2, fun σ' V' H' E' => ⟨rfl, ?_⟩⟩
    obtain ⟨F', k1, k2, k3⟩ := back_at E' (obAn_some h3) (show (if (0 : Nat) = 0 then some x else none) = some x from if_pos rfl)
    have gg := E'.gr
    dsimp only at gg k2
    rw [made_minus hx hd n] at gg k2
    exact q (.ref x) V' H' F' (g1.trans gg) k1 rfl fun p hp => ⟨g1.h.back (k2 p hp).1, (k2 p hp).2⟩
/-! ### a new object whose __init__ raises -/
def tMakeW (C : Addr) (sp : Sp) (E : L2.St → XK) (t : TA) : TE := fun σ H Q => t σ H fun vs H1 => ∀ x dx, H1 x = none → H1 dx = none → dx ≠ x → sp (.ref x :: vs) (upd (upd H1 dx (.own x)) x (.ins C dx [])) (fun v H2 => v = .non ∧ Q (.ref x) H2) (E σ)
theorem run_makeW {CX : CXT} {sp : Sp} {E : L2.St → XK} {pins : List (Addr × Obj)} {σ : L2.St} {H : Hp} {s : Shared} {Q : VK} {us : List Value} {vs : List L2.V} (M : Mk X.K C f) (F : FnOk X.prog X.w X.K X.mg X.base CX k f fd ps sp) (hr : Room (k + 1) X.A) (hb : Binds X.K fd ps [])
    (hx : PassesAt CX X σ (E σ)) (I : Inv X pins σ H s) (r : Vals vs us)
    (h : ∀ x dx, H x = none → H dx = none → dx ≠ x → sp (.ref x :: vs) (upd (upd H dx (.own x)) x (.ins C dx [])) (fun v H2 => v = .non ∧ Q (.ref x) H2) (E σ)) :
    wpAny (model X.prog X.w) X.A (call (.ref C) us) (EP X pins σ Q) X.xe s := by
  have hq := h (s.heap.objs.size + 1) s.heap.objs.size (I.hok.fresh (Nat.le_succ _)) (I.hok.fresh (Nat.le_refl _)) (Nat.ne_of_lt (Nat.lt_succ_self _))
  have I2 := Inv.made (C := C) I
  have r2 : Vals (V.ref (s.heap.objs.size + 1) :: vs) (Value.ref (s.heap.objs.size + 1) :: us) := .cons rfl r
  have hl : (Value.ref (s.heap.objs.size + 1) :: us).length = ps.length := by
    have e := r2.length
    rw [F.len _ _ _ _ hq] at e
    exact e.symm
  have b := hb _ (Value.ref (s.heap.objs.size + 1) :: us) I2.kIn (by rw [List.append_nil]; exact hl)
  rw [List.append_nil] at b
  refine wpAny_call (make_map (f := f) I.kIn M.makes M.init (beq_iff_eq.mp M.fn) (codeAny_mono (F.run _ X.stack _ _ ⟨Value.ref (s.heap.objs.size + 1) :: us, []⟩ (Value.ref (s.heap.objs.size + 1) :: us) _ _ (E σ) (hr.make C us [])
    (I2.env0.make C us []) b r2 hq) fun r s' hq' => ?_))
  cases r with
  | error e => exact hx pins _ _ e s' I2 hq'
  | ok fl =>
    cases fl with
    | ret u =>
      obtain ⟨v, H', I3, rv, ev, q3⟩ := I2.after hq'
      subst ev
      exact ⟨rv, ⟨V.ref (s.heap.objs.size + 1), H', I3, rfl, q3⟩⟩
    | next => exact False.elim hq'
    | brk => exact False.elim hq'
    | cont => exact False.elim hq'
theorem pe_makeW {CX : CXT} {sp : Sp} {E : L2.St → XK} {t : TA} (M : Mk X.K C f) (F : FnOk X.prog X.w X.K X.mg X.base CX k f fd ps sp) (hr : Room (k + 1) X.A) (hg : Gl X x) (hm : X.mg x = some (.ref C)) (hb : Binds X.K fd ps []) (hx : ∀ σ, PassesAt CX X σ (E σ))
    (ha : PA X (e :: es) t) (hdb : (x == ("__debug__" : Str)) = false := by decide) (he : starEach (e :: es) X.env = (false, eval e X.env) :: starEach es X.env := by rfl) (hpl : (backTo pos (starEach es X.env)).any (·.1) = false := by rfl) :
    PE X (.Call (.Name x p) (e :: es) [] pos) (tMakeW C sp E t) := by
  refine ⟨fun pins s σ H Q I h => ?_⟩
  refine wpAny_Call_Name_kw (ld_glob I hg hm ?_ hdb)
  refine PySem.W.callWith_K (h₀ := X.base) I.ok.mod.kin M.kp (thn (ha.run pos pins s σ H _ I h) fun us s1 ⟨vs, H1, I1, r, q⟩ => ⟨I1.kIn, ?_⟩) he hpl
  exact run_makeW M F hr hb (hx σ) I1 r q
def rMake (c : Str) (n N : Nat) (R : DX) (fs : DA) : DX := fun ρ => (fs ρ).bind fun ds => if ds.length + 1 = n then (R (.ob true c [] :: ds.map Sl.d ++ List.replicate (N - n) .un)).map fun x => (x.1, ρ) else none
theorem der_make {n N : Nat} {R : DX} {fs : DA} (tk : Takes X W) (kc : ClO X.K X.mg c C) (M : Mk X.K C f) (Fn : FnOk X.prog X.w X.K X.mg X.base (L2.CX X.prog X.w) k f fd ps (spRO X.K X.mg n N R)) (hr : Room (k + 1) X.A) (hg : Gl X c) (hb : Binds X.K fd ps []) (ha : PA X (e :: es) (tDA X.K fs)) (hdb : (c == ("__debug__" : Str)) = false := by decide)
    (he : starEach (e :: es) X.env = (false, eval e X.env) :: starEach es X.env := by rfl) (hpl : (backTo pos (starEach es X.env)).any (·.1) = false := by rfl) : PE X (.Call (.Name c p) (e :: es) [] pos) (eR X.K X.mg W (rMake c n N R fs)) :=
  pe_w (pe_makeW M Fn hr hg kc.mg hb (E := WE W) (fun σ => passAt tk σ) ha hdb he hpl) fun σ H Q ⟨BV, B, V, ρ, cl, ρ', E, hf, q⟩ => by
    unfold rMake at hf
    obtain ⟨ds, h1, hf⟩ := bind_some hf
    split at hf
    · rename_i hn
      obtain ⟨⟨cl', ρ2⟩, h2, h3⟩ := map_some hf
      cases h3
      refine ⟨BV, B, V, _, ds, E, h1, fun vs V1 H1 g1 d1 x dx hx hd n => ?_⟩
      have En := made_env kc g1.sub hx hd n d1
      refine ⟨by rw [List.length_cons, da_len d1]; exact hn, V1, _, V1, _, _, _, En, by simp; omega, h2, fun σ' V' H' E' => ?_⟩
      have gg := E'.gr
      dsimp only at gg
      rw [made_minus hx hd n] at gg
      exact q σ V' H' (E.grow (g1.trans gg))
    · cases hf
/-! ### what raises, inside -/
theorem der_cmpL {op : CmpOp} {r : R2} {R : DX} {tb : TE} (ho : OpR X (compareOp op) r) (ha : PE X a (eR X.K X.mg W R)) (hb : PE X b tb) (hm : behindInMarks op b = false) : PE X (.Compare a [op] [b] pos) (eR X.K X.mg W R) := pe_w (pe_cmpR ho ha hb hm) fun σ H Q h => h
theorem der_len {R : DX} (hg : Gl X "len") (hm : X.mg "len" = none) (ha : PE X a (eR X.K X.mg W R)) (hs : starEach [a] X.env = [(false, eval a X.env)] := by rfl) : PE X (.Call (.Name "len" p) [a] [] pos) (eR X.K X.mg W R) :=
  pe_w (pe_callB call_lenP hg hm PySem.boot_len (pa_cons ha pa_nil hs) (by decide) (by decide) hs rfl) fun σ H Q h => h
/-! ### len of an object -/
theorem call_lenO {CX : CXT} {sp : Sp} {E : XK} (Fn : FnOk X.prog X.w X.K X.mg X.base CX k f fd ps sp) (hr : Room (k + 1) X.A) (hs : PySem.W.findIn X.K (.ref C) "__len__" = some (some (.ref f))) (hf : PySem.W.isFn X.K (.ref f) = true) (hb : Binds X.K fd ps []) (hx : Passes CX X E) :
    CallR X (.builtin "len") (fun xs H Q => ∃ a dx fs, xs = [.ref a] ∧ H a = some (.ins C dx fs) ∧ sp [.ref a] H (fun v H' => ∃ n : Int, v = .int n ∧ 0 ≤ n ∧ n < 2 ^ 63 ∧ Q (.int n) H') E) := by
  intro pins s σ H xs us Q I r h
  obtain ⟨a, dx, fs, rfl, ha, hsp⟩ := h
  cases r with
  | cons r1 r2 =>
    cases r2
    cases r1
    obtain ⟨mA, J, _⟩ := ins_get I.hok ha
    obtain ⟨od, J, _⟩ := J.look
    obtain ⟨m, hF⟩ := I.fr
    refine PySem.W.len_K hF I.ok.mod.kin J hs hf ?_
    have hl := Fn.len _ _ _ _ hsp
    have rr : Vals [V.ref a] [Value.ref a] := .cons rfl .nil
    have b := hb s [.ref a] I.kIn (by simpa using hl)
    rw [List.append_nil] at b
    refine wpAny_call (codeAny_mono (Fn.run X.A.in1 X.stack s H ⟨[.ref a], []⟩ [.ref a] [.ref a] _ E hr.in1 I.env0.in1 b rr hsp) fun r s' hq => ?_)
    cases r with
    | error e => exact hx pins σ H s e s' I hq
    | ok fl =>
      cases fl with
      | ret w =>
        obtain ⟨z, H', I', rz, n, rfl, h0, h1, q⟩ := I.after hq
        obtain ⟨u, rfl⟩ := rz
        exact ⟨⟨h0, h1⟩, ⟨.int n, H', I'.tok _, ⟨_, rfl⟩, q⟩⟩
      | next => exact False.elim hq
      | brk => exact False.elim hq
      | cont => exact False.elim hq
def oLen (c : Str) (i : Nat) (N : Nat) (F : DS) : DO := fun ρ => (obAt c i ρ).bind fun st => (F (.ob true c st :: List.replicate (N - 1) .un)).bind fun r => (outO c i 0 ρ r).bind fun x => match x.1 with
  | .d (.int n) => if 0 ≤ n ∧ n < 2 ^ 63 then some (.d (.int n), x.2) else none
  | _ => none
theorem o_len {N : Nat} {F : DS} (kc : ClO X.K X.mg c C) (Fn : FnOk X.prog X.w X.K X.mg X.base CX0 k f fd ps (spO X.K 1 N F)) (hr : Room (k + 1) X.A) (hf : Meth X.K C "__len__" f) (hb : Binds X.K fd ps []) (hg : Gl X "len") (hm : X.mg "len" = none) (ho : PE X o (tVar i)) (hs : starEach [o] X.env = [(false, eval o X.env)] := by rfl) :
    PE X (.Call (.Name "len" p) [o] [] pos) (tO X.K (oLen c i N F)) :=
  pe_w (pe_callB (call_lenO (E := E0) Fn hr hf.at_ hf.fn hb pass0) hg hm PySem.boot_len (pa_cons ho pa_nil hs) (by decide) (by decide) hs rfl) fun σ H Q ⟨BV, B, V, ρ, s, ρ', E, h, q⟩ => by
    unfold oLen at h
    obtain ⟨st, h1, h⟩ := bind_some h
    obtain ⟨r, h2, h⟩ := bind_some h
    obtain ⟨⟨s1, ρ1⟩, h3, h⟩ := bind_some h
    dsimp only at h
    split at h
    · rename_i n
      split at h
      · rename_i hn
        cases h
        obtain ⟨an, h1⟩ := obAt_some h1
        obtain ⟨a, C', dx, gs, G, hs, hc, hA, _⟩ := E.obj h1
        rw [kc.ns] at hc
        cases hc
        refine ⟨.ref a, hs, a, dx, gs, rfl, hA, ?_⟩
        obtain ⟨a', hs', hc⟩ := callO (us := []) (pre := []) (ws := []) (post := []) (N := N) (n := 1) E h1 .nil .nil (by simp) h2 h3 (Q := fun v H' => ∃ n : Int, v = .int n ∧ 0 ≤ n ∧ n < 2 ^ 63 ∧ Q (.int n) H') fun v V' H' F x E' O l hF => by
          have d := O.1
          cases d
          exact ⟨n, rfl, hn.1, hn.2, q _ V' H' F x E' O l hF⟩
        rw [hs] at hs'
        cases hs'
        exact hc E0
      · cases h
    · cases h
/-! ### the suite of an except clause, its slots told -/
def FlH (K : PySem.W.Frag) (i : Nat) (x : Addr) (BV : Hp) (B : Bs) (D : Ends) : Fl → Prop
  | .nx ρ' => ∀ σ' V' H', EnvD K BV B V' H' σ' ρ' → σ'[i]? = some (some (.ref x)) → D.nx σ' H'
  | r => FlOk K BV B D r
def sH (K : PySem.W.Frag) (i : Nat) (x : Addr) (F : DS) : TS := fun D σ H => σ[i]? = some (some (.ref x)) ∧ ∃ BV B V ρ r, EnvD K BV B V H σ ρ ∧ F ρ = some r ∧ FlH K i x BV B D r
variable {z : Addr}
theorem hs_cons {F G : DS} (h1 : PS X st (sH X.K i z F)) (h2 : PSs X rest (sH X.K i z G)) : PSs X (st :: rest) (sH X.K i z (sSeq F G)) := pss_w (pss_cons h1 h2) fun D σ H ⟨h0, BV, B, V, ρ, r, E, h, q⟩ => by
  unfold sSeq at h
  obtain ⟨x, h1, h⟩ := bind_some h
  refine ⟨h0, BV, B, V, ρ, x, E, h1, ?_⟩
  cases x with
  | nx ρ' => exact fun σ' V' H' E' h0' => ⟨h0', BV, B, V', ρ', r, E', h, q⟩
  | rt d => cases h; exact q
  | bk d => cases h; exact q
  | ct d => cases h; exact q
  | ro d _ => cases h; exact q
theorem hs_one {F : DS} (h1 : PS X st (sH X.K i z F)) : PSs X [st] (sH X.K i z F) := pss_one h1
theorem hs_set {j : Nat} {y : Str} {f : DE} (hij : j ≠ i) (hN : X.N.Nodup) (hi : X.N[j]? = some y) (hx : Loc X.env.scope y) (he : PE X e (tHD X.K i z f)) (hs : swapsWith e (some (.Name y pos')) pos.line X.env = pure false := by rfl) (hf : X.fn y = true ∨ X.env.scope.names.lookup y = some .local := by first | exact .inl rfl | exact .inr rfl | assumption) :
    PS X (.Assign [.Name y pos'] e pos) (sH X.K i z (sSet j f)) := ps_w (ps_set hN hi hx he hs hf) fun D σ H ⟨h0, BV, B, V, ρ, r, E, h, q⟩ => by
  obtain ⟨d, h1, h2⟩ := map_some h
  cases h2
  exact ⟨h0, BV, B, V, ρ, d, E, h1, fun v V' H' g dd => q _ V' H' ((E.grow g).set dd j) (by rw [List.getElem?_set_ne hij]; exact h0)⟩
def sRetT (f : DE) : DS := fun ρ => (f ρ).map fun d => .ro (.d d) ρ
theorem hs_retT {f : DE} (h : PE X e (tHD X.K i z f)) : PS X (.Return (some e) pos) (sH X.K i z (sRetT f)) := ps_w (ps_ret h) fun D σ H ⟨h0, BV, B, V, ρ, r, E, h, q⟩ => by
  obtain ⟨d, h1, h2⟩ := map_some h
  cases h2
  exact ⟨h0, BV, B, V, ρ, d, E, h1, fun v V' H' g dd => q v σ V' H' _ _ (E.grow g) (Own.dat dd) fun p hp => hp.elim⟩
def sTryO (i : Nat) (F : DS) (R : DX) (tbl : List (Str × DS)) : DS := fun ρ => match F ρ with
  | some r => some r
  | none => (R ρ).bind fun p => (tbl.lookup p.1).bind fun G => if i < p.2.length then (match G (p.2.set i .un) with
    | some (.rt d) => some (.rt d)
    | some (.ro d ρ') => some (.ro d ρ')
    | _ => none) else none
def HandleO (X : Cx) (i : Nat) (b₀ : Stmt) (suite : List Stmt) (D : Addr) (G : DS) : Prop := ∀ (a : Addr) (oe : Obj) (pn : List (Addr × Obj)), Zc (.ref D) none oe → (∃ vs, oe.data = .fields vs) → PSs (X.suite a ((a, oe) :: pn)) (b₀ :: suite) (sH X.K i a G)
theorem ds_tryO {F : DS} {R : DX} {tbl : List (Str × DS)} {i : Nat} {x n : Str} {c : Value} {body suite : List Stmt} {b₀ : Stmt} {np pos pos' : Pos} {Wout : WX} (hs : X.stack = X.env :: X.outer) (hf : X.env.frame = some X.env.locals) (hN : X.N.Nodup) (hi : X.N[i]? = some n) (hln : X.env.kindOf n = some .local) (hc : Names X x c) (tk : Takes X Wout)
    (hn : ∀ (W : WX) (pn : List (Addr × Obj)) (xe : Value → Shared → Prop), PSs (X.tr pn xe) body (sD X.K F))
    (hb : ∀ (W : WX) (pn : List (Addr × Obj)) (xe : Value → Shared → Prop), Takes (X.tr pn xe) W → PSs (X.tr pn xe) body (sR X.K X.mg W R))
    (hF : ∀ k G, (k, G) ∈ tbl → ∃ D, X.mg k = some (.ref D) ∧ PySem.W.exmOne X.K (.ref D) c = some true ∧ HandleO X i b₀ suite D G) :
    PS X (.Try body [.ExceptHandler (some (.Name x np)) (some n) (b₀ :: suite) pos'] [] [] pos) (sD X.K (sTryO i F R tbl)) :=
  ps_w (ps_try_as (tb := fun W D σ H => sD X.K F D σ H ∨ sR X.K X.mg W R D σ H) (ts := fun a cls d E σ H => ∃ D G, cls = .ref D ∧ d = none ∧ HandleO X i b₀ suite D G ∧ sH X.K i a G E σ H) hs hf hN hi hln hc tk
      (fun W pn xe t _ => ⟨fun pins s σ H D I h => h.elim ((hn W pn xe).run pins s σ H D I) ((hb W pn xe t).run pins s σ H D I)⟩)
      (fun a oe cls d pn hz hfs => ⟨fun pins s σ H E I ⟨D, G, e1, e2, HD, h⟩ => by
        subst e1 e2
        exact (HD a oe pn hz hfs).run pins s σ H E I h⟩)) fun E σ H ⟨BV, B, V, ρ, r, Ev, h, q⟩ => by
    unfold sTryO at h
    split at h
    · rename_i r' hr
      cases h
      exact .inl ⟨BV, B, V, ρ, r, Ev, hr, q⟩
    · refine .inr ?_
      obtain ⟨⟨k, ρ'⟩, h1, h⟩ := bind_some h
      obtain ⟨G, h2, h⟩ := bind_some h
      split at h
      · rename_i hlt
        obtain ⟨D, m1, m2, HD⟩ := tbl_of (P := fun k G => ∃ D, X.mg k = some (.ref D) ∧ PySem.W.exmOne X.K (.ref D) c = some true ∧ HandleO X i b₀ suite D G) h2 hF
        refine ⟨BV, B, V, ρ, k, ρ', Ev, h1, fun σ' V' H' E' => ?_⟩
        have ec : clsOf X.mg k = .ref D := by unfold clsOf; rw [m1]; rfl
        rw [ec]
        obtain ⟨o, ho, _⟩ := E'.sl i _ (List.getElem?_eq_getElem hlt)
        have hi' : i < σ'.length := (List.getElem?_eq_some_iff.mp ho).1
        split at h
        · rename_i d hG
          cases h
          exact ⟨true, m2, fun _ a ha => ⟨D, G, rfl, rfl, HD, List.getElem?_set_self hi', BV, B, V', _, _, E'.unset (some (.ref a)) i, hG, fun v V2 H2 g d => q v V2 H2 g d⟩, fun h => by cases h⟩
        · rename_i d ρ2 hG
          cases h
          exact ⟨true, m2, fun _ a ha => ⟨D, G, rfl, rfl, HD, List.getElem?_set_self hi', BV, B, V', _, _, E'.unset (some (.ref a)) i, hG, fun v σ2 V2 H2 F2 S2 x1 x2 x3 => q v σ2 V2 H2 F2 S2 x1 x2 x3⟩, fun h => by cases h⟩
        · cases h
      · cases h
end
end DL

namespace DL
open PySem PySem.Spec PyProof.Rows L2
/-! ### a list under a second name -/
def Bs.anch (B : Bs) (i : Nat) (a : Addr) : Bs := { B with anc := fun j => if j = i then some a else B.anc j }
section
variable {K : PySem.W.Frag} {BV : Hp} {B : Bs} {V H : Hp} {σ : L2.St} {ρ : List Sl} {s u : Nat} {xs : List PyData}
theorem anch_same {a : Addr} {i : Nat} : (B.anch i a).anc i = some a := if_pos rfl
theorem anch_ne {a : Addr} {i j : Nat} (h : j ≠ i) : (B.anch i a).anc j = B.anc j := if_neg h
theorem EnvA.move (E : EnvD K BV B V H σ ρ) (e : ρ[s]? = some (.own xs)) (hu : s ≠ u) : ∃ a, σ[s]? = some (some (.ref a)) ∧ EnvD K BV ((B.anch s a).anch u a) V H (σ.set u (some (.ref a))) ((ρ.set s .pin).set u (.owa xs)) := by
  obtain ⟨φ, h1, h2⟩ := E.fp
  obtain ⟨o, hs, ok⟩ := h1 s _ e
  have own := ok.own
  cases o with
  | none => exact own.elim
  | some v =>
    obtain ⟨a, vs, rfl, k1, k2, k3⟩ := own
    have ha : φ s a := (k3 a).2 rfl
    have ko := ok.out a ha
    refine ⟨a, hs, ?_⟩
    have E1 : EnvA K BV (B.anch s a) V H (σ.set s (some (.ref a))) (ρ.set s .pin) (fun p => p = a) :=
      mkEnv h1 h2 s (F := fun _ => False) (V' := V) (H' := H) ⟨fun _ z => z.elim, ⟨⟨a, rfl⟩, fun _ z => z⟩, ⟨a, anch_same, rfl⟩⟩ (fun _ _ _ _ _ z => z) (fun _ z => z.elim) (fun j p n hp w => ⟨rfl, w.2.1, w.2.2.1, w.2.2.2.1, fun z => h2.1 j s p n hp (by rw [z]; exact ha)⟩) (fun j n => anch_ne n) .refl E.gr E.xl
    rw [set_at hs] at E1
    obtain ⟨ψ, g1, g2⟩ := E1.fp
    exact mkEnv g1 g2 u (F := fun p => p = a) (V' := V) (H' := H) ⟨fun p z => by rw [z]; exact ko, ⟨a, vs, rfl, k1, k2, fun _ => Iff.rfl⟩, ⟨a, anch_same, rfl⟩⟩ (fun j p n hp w => w.2.2.2.2) (fun _ _ z => z) (fun j p n hp w => ⟨rfl, w.2.1, w.2.2.1, w.2.2.2.1, fun z => z⟩) (fun j n => anch_ne n) .refl E1.gr E1.xl
theorem EnvA.moveBack {a : Addr} (E : EnvD K BV ((B.anch s a).anch u a) V H σ ρ) (e : ρ[s]? = some .pin) (e2 : ρ[u]? = some (.owa xs)) (hu : s ≠ u) : EnvD K BV B V H σ ((ρ.set u .un).set s (.own xs)) := by
  obtain ⟨φ, h1, h2⟩ := E.fp
  obtain ⟨o, hs, ok⟩ := h1 u _ e2
  obtain ⟨o', hs', ok'⟩ := h1 s _ e
  obtain ⟨a1, q1, q2⟩ := ok.anc
  obtain ⟨a2, q3, q4⟩ := ok'.anc
  rw [anch_same] at q1
  rw [anch_ne hu, anch_same] at q3
  cases q1
  cases q3
  subst q2 q4
  obtain ⟨a', vs, e', k1, k2, k3⟩ := ok.own
  cases e'
  have ha : φ u a := (k3 a).2 rfl
  have ko := ok.out a ha
  have E1 : EnvA K BV (B.anch s a) V H (σ.set u (some (.ref a))) (ρ.set u .un) (fun p => p = a) :=
    mkEnv h1 h2 u (F := fun _ => False) (V' := V) (H' := H) ⟨fun _ z => z.elim, fun _ z => z, trivial⟩ (fun _ _ _ _ _ z => z) (fun _ z => z.elim) (fun j p n hp w => ⟨rfl, w.2.1, w.2.2.1, w.2.2.2.1, fun z => h2.1 j u p n hp (by rw [z]; exact ha)⟩) (fun j n => (anch_ne n).symm) .refl E.gr E.xl
  rw [set_at hs] at E1
  obtain ⟨ψ, g1, g2⟩ := E1.fp
  have E2 : EnvD K BV B V H (σ.set s (some (.ref a))) ((ρ.set u .un).set s (.own xs)) :=
    mkEnv g1 g2 s (F := fun p => p = a) (V' := V) (H' := H) ⟨fun p z => by rw [z]; exact ko, ⟨a, vs, rfl, k1, k2, fun _ => Iff.rfl⟩, trivial⟩ (fun j p n hp w => w.2.2.2.2) (fun _ _ z => z) (fun j p n hp w => ⟨rfl, w.2.1, w.2.2.1, w.2.2.2.1, fun z => z⟩) (fun j n => (anch_ne n).symm) .refl E1.gr E1.xl
  rw [set_at hs'] at E2
  exact E2
/-! ### lists in slots, owned in either way -/
def lsAt (i : Nat) (ρ : List Sl) : Option (List PyData) := match ρ[i]? with
  | some (.own xs) => some xs
  | some (.owa xs) => some xs
  | _ => none
def lsPut (i : Nat) (ys : List PyData) (ρ : List Sl) : List Sl := match ρ[i]? with
  | some (.owa _) => ρ.set i (.owa ys)
  | _ => ρ.set i (.own ys)
theorem ls_change {i : Nat} (E : EnvD K BV B V H σ ρ) (h : lsAt i ρ = some xs) : ∃ p vs, σ[i]? = some (some (.ref p)) ∧ H p = some (.lst vs) ∧ V p = none ∧ DqAll K V vs xs ∧ ∀ us ys, DqAll K V us ys → EnvD K BV B V (upd H p (.lst us)) σ (lsPut i ys ρ) := by
  unfold lsAt at h
  split at h
  · rename_i ys e
    cases h
    obtain ⟨o, F, q1, ok, ch⟩ := E.change e
    have own := ok.own
    cases o with
    | none => exact own.elim
    | some v =>
      obtain ⟨p, vs, rfl, k1, k2, k3⟩ := own
      refine ⟨p, vs, q1, k1, (ok.out p ((k3 p).2 rfl)).1, k2, fun us ys d => ?_⟩
      unfold lsPut
      rw [e]
      exact ch _ _ F (fun q n _ => upd_ne fun z => n ((k3 q).2 z)) ⟨p, us, rfl, upd_same, d, k3⟩ trivial fun q z => .inl z
  · rename_i ys e
    cases h
    obtain ⟨o, F, q1, ok, ch⟩ := E.change e
    have own := ok.own
    cases o with
    | none => exact own.elim
    | some v =>
      obtain ⟨p, vs, rfl, k1, k2, k3⟩ := own
      refine ⟨p, vs, q1, k1, (ok.out p ((k3 p).2 rfl)).1, k2, fun us ys d => ?_⟩
      unfold lsPut
      rw [e]
      exact ch _ _ F (fun q n _ => upd_ne fun z => n ((k3 q).2 z)) ⟨p, us, rfl, upd_same, d, k3⟩ ok.anc fun q z => .inl z
  · cases h
end
section
variable {X : Cx} {e a b o : Expr} {es : List Expr} {pos pos' apos cpos : Pos} {st : Stmt} {rest : List Stmt} {i : Nat}
theorem pk_ls (h : PE X e (tVar i)) : PE X e (tPk X.K (lsAt i)) := pe_w h fun σ H Q ⟨BV, B, V, ρ, xs, E, hf, q⟩ => by
  obtain ⟨p, vs, hs, h1, h2, h3, _⟩ := ls_change E hf
  exact ⟨.ref p, hs, q p vs h1 h2 h3⟩
def sAppL (i : Nat) (f : DE) : DS := fun ρ => (lsAt i ρ).bind fun xs => (f ρ).bind fun d => if xs.length < 100000 then some (.nx (lsPut i (xs ++ [d]) ρ)) else none
theorem ds_appL {f : DE} (ho : PE X o (tVar i)) (he : PE X e (tD X.K f)) (hbase : attributeBase o "append" X.env (eval o X.env) = eval o X.env := by rfl)
    (hfew : ((backTo cpos (starEach [e] X.env)).all (fun x => !x.1) && (backToKw cpos (keywordEach [] X.env)).all (fun x => x.1.isSome)
      && decide (([e] : List Expr).length + ([] : List Keyword).length + (if ([] : List Keyword).isEmpty then 0 else 1) < 30)) = true := by rfl)
    (hline : (apos.endLine == cpos.line) = true := by rfl) (hs : starEach [e] X.env = [(false, eval e X.env)] := by rfl) :
    PS X (.Expr (.Call (.Attribute o "append" apos) [e] [] cpos) pos) (sD X.K (sAppL i f)) :=
  ps_w (ps_expr (pe_bm PySem.F.plainAttrs_list PySem.F.slot_list_append PySem.F.type_list_append mt_append ho (pa_cons he pa_nil hs) hbase hfew hline hs rfl)) fun D σ H ⟨BV, B, V, ρ, r, E, h, q⟩ => by
    unfold sAppL at h
    obtain ⟨xs, h1, h⟩ := bind_some h
    obtain ⟨d, h2, h⟩ := bind_some h
    split at h
    · rename_i hz
      cases h
      obtain ⟨p, vs, es, k1, k2, k4, _⟩ := ls_change E h1
      refine ⟨.ref p, es, .inl ⟨rfl, _, .inl (.inl k1)⟩, BV, B, V, ρ, d, E, h2, fun v V' H' g dd => ?_⟩
      obtain ⟨p', vs', es', k1', k2', k4', ch⟩ := ls_change (E.grow g) h1
      rw [es] at es'
      cases es'
      refine ⟨p, vs', v, rfl, rfl, k1', by rw [da_len k4']; exact line_lt hz, ?_⟩
      exact q σ V' _ (ch _ _ (da_app k4' (.cons dd .nil)))
    · cases h
/-- x = l.pop() -/
def sPop (j i : Nat) : DS := fun ρ => (lsAt i ρ).bind fun xs => (xs.getLast?).map fun d => .nx ((lsPut i xs.dropLast ρ).set j (.d d))
theorem ds_pop {j : Nat} {x : Str} (hN : X.N.Nodup) (hj : X.N[j]? = some x) (hx : Loc X.env.scope x) (ho : PE X o (tVar i)) (hbase : attributeBase o "pop" X.env (eval o X.env) = eval o X.env := by rfl)
    (hline : (apos.endLine == cpos.line) = true := by rfl) (hs : swapsWith (.Call (.Attribute o "pop" apos) [] [] cpos) (some (.Name x pos')) pos.line X.env = pure false := by rfl) (hf : X.fn x = true ∨ X.env.scope.names.lookup x = some .local := by first | exact .inl rfl | exact .inr rfl | assumption) :
    PS X (.Assign [.Name x pos'] (.Call (.Attribute o "pop" apos) [] [] cpos) pos) (sD X.K (sPop j i)) :=
  ps_w (ps_set hN hj hx (pe_bm0 PySem.F.plainAttrs_list PySem.F.slot_list_pop PySem.F.type_list_pop mt_pop ho hbase hline) hs hf) fun D σ H ⟨BV, B, V, ρ, r, E, h, q⟩ => by
    unfold sPop at h
    obtain ⟨xs, h1, h⟩ := bind_some h
    obtain ⟨d, h2, h3⟩ := map_some h
    cases h3
    obtain ⟨p, vs, hs, k1, k2, k4, ch⟩ := ls_change E h1
    obtain ⟨v, lv, dv⟩ := da_last k4 h2
    exact ⟨.ref p, hs, .inl ⟨rfl, _, .inl (.inl k1)⟩, p, vs, v, rfl, rfl, k1, lv, q _ V _ ((ch _ _ (da_dropLast k4)).set dv j)⟩
/-! ### u, v = (s, t) if c else (t, s) -/
def pinAt (i : Nat) (ρ : List Sl) : Bool := match ρ[i]? with
  | some .pin => true
  | _ => false
theorem pinAt_some {i : Nat} {ρ : List Sl} (h : pinAt i ρ = true) : ρ[i]? = some .pin := by
  unfold pinAt at h
  split at h
  · assumption
  · cases h
def owaAt (i : Nat) (ρ : List Sl) : Option (List PyData) := match ρ[i]? with
  | some (.owa xs) => some xs
  | _ => none
theorem owaAt_some {i : Nat} {ρ : List Sl} {xs : List PyData} (h : owaAt i ρ = some xs) : ρ[i]? = some (.owa xs) := by
  unfold owaAt at h
  split at h
  · rename_i e; cases h; exact e
  · cases h
def twin (s t u v : Nat) (G : DS) : DS := fun ρ => (ownAt s ρ).bind fun xs => (ownAt t ρ).bind fun ys => (G ((((ρ.set s .pin).set u (.owa xs)).set t .pin).set v (.owa ys))).bind fun r => match r with
  | .nx ρ2 => (owaAt v ρ2).bind fun q => (owaAt u ρ2).bind fun p => if pinAt t ρ2 = true ∧ pinAt s ρ2 = true then some (.nx ((((ρ2.set v .un).set t (.own q)).set u .un).set s (.own p))) else none
  | .rt d => some (.rt d)
  | _ => none
theorem twin_ok {K : PySem.W.Frag} {BV : Hp} {B : Bs} {V H : Hp} {σ : L2.St} {ρ : List Sl} {s t u v : Nat} {G : DS} {r : Fl} {D : Ends} (E : EnvD K BV B V H σ ρ) (h : twin s t u v G ρ = some r) (q : FlOk K BV B D r) (n1 : s ≠ t) (n2 : s ≠ u) (n3 : s ≠ v) (n4 : t ≠ u) (n5 : t ≠ v) (n6 : u ≠ v) :
    ∃ a b, σ[s]? = some (some (.ref a)) ∧ σ[t]? = some (some (.ref b)) ∧ sD K G D ((σ.set u (some (.ref a))).set v (some (.ref b))) H := by
  unfold twin at h
  obtain ⟨xs, h1, h⟩ := bind_some h
  obtain ⟨ys, h2, h⟩ := bind_some h
  obtain ⟨r', h3, h⟩ := bind_some h
  obtain ⟨a, ea, E1⟩ := E.move (ownAt_some h1) n2
  have e2 : ((ρ.set s .pin).set u (.owa xs))[t]? = some (.own ys) := by rw [List.getElem?_set_ne (Ne.symm n4), List.getElem?_set_ne n1]; exact ownAt_some h2
  obtain ⟨b, eb, E2⟩ := E1.move e2 n5
  rw [List.getElem?_set_ne (Ne.symm n4)] at eb
  refine ⟨a, b, ea, eb, BV, _, V, _, r', E2, h3, ?_⟩
  cases r' with
  | nx ρ2 =>
    obtain ⟨qs, h4, h⟩ := bind_some h
    obtain ⟨ps, h5, h⟩ := bind_some h
    split at h
    · rename_i hp
      cases h
      intro σ' V' H' E'
      have E3 := E'.moveBack (pinAt_some hp.1) (owaAt_some h4) n5
      exact q σ' V' H' (E3.moveBack (by rw [List.getElem?_set_ne (Ne.symm n1), List.getElem?_set_ne (Ne.symm n3)]; exact pinAt_some hp.2) (by rw [List.getElem?_set_ne n4, List.getElem?_set_ne (Ne.symm n6)]; exact owaAt_some h5) n2)
    · cases h
  | rt d => cases h; exact q
  | bk _ => cases h
  | ct _ => cases h
  | ro _ _ => cases h
def sTwin (s t u v : Nat) (c : DB) (G : DS) : DS := fun ρ => (c ρ).bind fun x => if x = true then twin s t u v G ρ else twin t s u v G ρ
theorem dss_twin {s t u v : Nat} {c : Expr} {tc : DB} {G : DS} {n1 n2 n3 n4 : Expr} {k k2 k3 : Nat} {ts : List Expr} {tp vp vp2 : Pos} (hc : X.calm = true) (ht : PT X c (tDT X.K tc)) (h1 : PE X n1 (tVar s)) (h2 : PE X n2 (tVar t)) (h3 : PE X n3 (tVar t)) (h4 : PE X n4 (tVar s)) (hg : PGs X ts (gNames [u, v])) (hr : PSs X rest (sD X.K G))
    (hne : s ≠ t ∧ s ≠ u ∧ s ≠ v ∧ t ≠ u ∧ t ≠ v ∧ u ≠ v := by decide) (hn : (assignEach ts X.env).length = 2 := by rfl) (hst : (assignEach ts X.env).findIdx? (·.1) = none := by rfl)
    (hs1 : starEach [n1, n2] X.env = (false, eval n1 X.env) :: starEach [n2] X.env := by rfl) (hs2 : starEach [n2] X.env = [(false, eval n2 X.env)] := by rfl) (hs3 : starEach [n3, n4] X.env = (false, eval n3 X.env) :: starEach [n4] X.env := by rfl) (hs4 : starEach [n4] X.env = [(false, eval n4 X.env)] := by rfl)
    (hs : swapsWithSole [.Tuple ts k tp] (.IfExp c (.Tuple [n1, n2] k2 vp) (.Tuple [n3, n4] k3 vp2) pos') pos.line X.env = pure false := by rfl) (hw : swappedStores [.Tuple ts k tp] (.IfExp c (.Tuple [n1, n2] k2 vp) (.Tuple [n3, n4] k3 vp2) pos') X.env = pure none := by rfl) (he : (assignEach [.Tuple ts k tp] X.env).map (·.2) = [assign (.Tuple ts k tp) X.env] := by rfl) :
    PSs X (.Assign [.Tuple ts k tp] (.IfExp c (.Tuple [n1, n2] k2 vp) (.Tuple [n3, n4] k3 vp2) pos') pos :: rest) (sD X.K (sTwin s t u v tc G)) :=
  pss_w (pss_cons (ps_asg (pe_ifExp ht (pe_tup (pa_cons h1 (pa_cons h2 pa_nil hs2) hs1)) (pe_tup (pa_cons h3 (pa_cons h4 pa_nil hs4) hs3))) (pg_tup hc hg hn hst) hs hw he) hr) fun D σ H ⟨BV, B, V, ρ, r, E, h, q⟩ => by
    unfold sTwin at h
    obtain ⟨x, k1, h⟩ := bind_some h
    refine ⟨BV, B, V, ρ, x, E, k1, fun V' H' g => ?_⟩
    obtain ⟨m1, m2, m3, m4, m5, m6⟩ := hne
    cases x with
    | true =>
      obtain ⟨a, b, ea, eb, _⟩ := twin_ok (E.grow g) h q m1 m2 m3 m4 m5 m6
      refine ⟨.ref a, ea, .ref b, eb, line_of (by simp), fun p np => ⟨p, _, rfl, .inl (.inl upd_same), rfl, gNames_ok rfl ?_⟩⟩
      obtain ⟨a', b', ea', eb', z⟩ := twin_ok ((E.grow g).grow (Gr.held g.sub np)) h q m1 m2 m3 m4 m5 m6
      rw [ea] at ea'; cases ea'
      rw [eb] at eb'; cases eb'
      exact z
    | false =>
      obtain ⟨a, b, ea, eb, _⟩ := twin_ok (E.grow g) h q (Ne.symm m1) m4 m5 m2 m3 m6
      refine ⟨.ref a, ea, .ref b, eb, line_of (by simp), fun p np => ⟨p, _, rfl, .inl (.inl upd_same), rfl, gNames_ok rfl ?_⟩⟩
      obtain ⟨a', b', ea', eb', z⟩ := twin_ok ((E.grow g).grow (Gr.held g.sub np)) h q (Ne.symm m1) m4 m5 m2 m3 m6
      rw [ea] at ea'; cases ea'
      rw [eb] at eb'; cases eb'
      exact z
end
end DL

namespace DL
open PySem PySem.Spec PyProof.Rows L2
/-- a method of the class at C -/
structure MtAt (K : PySem.W.Frag) (C : Addr) (m qual : Str) (st : Stmt) (ps : List Str) (f : Addr) (fd : FuncData) : Prop where
  F : Fun K m qual st f fd
  b : Binds K fd ps []
  m : Meth K C m f
/-- an own class that can be made -/
structure ClT (K : PySem.W.Frag) (mg : Str → Option Value) (c : Str) (C : Addr) : Prop extends ClO K mg c C where
  makes : PySem.W.makesIn K C = true
  kp : PySem.W.keepIn K (.ref C) = true
theorem MtAt.mk' {K : PySem.W.Frag} {mg : Str → Option Value} {c qual : Str} {C f : Addr} {st : Stmt} {ps : List Str} {fd : FuncData} (h : MtAt K C "__init__" qual st ps f fd) (k : ClT K mg c C) : Mk K C f := ⟨k.makes, h.m.at_, h.m.fn, k.kp⟩
section
variable {X : Cx} {e a b o : Expr} {es rest : List Expr} {pos pos' : Pos} {st : Stmt}
/-- return e, the slots forgotten -/
def sRetX (f : DO) : DS := fun ρ => (f ρ).bind fun x => match x.1 with
  | .d d => some (.rt d)
  | _ => none
theorem ds_retX {f : DO} (h : PE X e (tO X.K f)) : PS X (.Return (some e) pos) (sD X.K (sRetX f)) := ps_w (ps_ret h) fun D σ H ⟨BV, B, V, ρ, r, E, h, q⟩ => by
  unfold sRetX at h
  obtain ⟨⟨s, ρ1⟩, h1, h⟩ := bind_some h
  dsimp only at h
  split at h
  · cases h
    exact ⟨BV, B, V, ρ, _, ρ1, E, h1, fun v V' H' F _ E' O _ _ => q v V' H' E'.gr O.1⟩
  · cases h
def ovAnd (f g : DO) : DO := fun ρ => (oB f ρ).bind fun x => if x.1 = true then g x.2 else some (.d (.bool false), x.2)
def ovOr (f g : DO) : DO := fun ρ => (oB f ρ).bind fun x => if x.1 = true then some (.d (.bool true), x.2) else g x.2
theorem o_one {op} {f : DO} (h : PE X a (tO X.K f)) : PE X (.BoolOp op [a] pos) (tO X.K f) := pe_one h
theorem o_and {f g : DO} (ha : PE X a (tO X.K f)) (hb : PE X (.BoolOp .And (b :: rest) pos) (tO X.K g)) : PE X (.BoolOp .And (a :: b :: rest) pos) (tO X.K (ovAnd f g)) :=
  pe_w (pe_and ha hb) fun σ H Q ⟨BV, B, V, ρ, s, ρ', E, hz, q⟩ => by
    unfold ovAnd at hz
    obtain ⟨⟨x, ρ1⟩, h1, h⟩ := bind_some hz
    refine ⟨BV, B, V, ρ, _, ρ1, E, oB_some h1, fun v V' H' F x1 E1 O1 _ hF => ?_⟩
    have d := O1.1
    cases d
    refine ⟨x, rfl, ?_⟩
    cases x with
    | true => exact ⟨BV, B, V', ρ1, s, ρ', E1.env, h, fun v V2 H2 F2 x2 => q v V2 H2 F2 (x1.trans x2)⟩
    | false => cases h; exact q _ V' H' F x1 E1 O1 rfl hF
theorem o_or {f g : DO} (ha : PE X a (tO X.K f)) (hb : PE X (.BoolOp .Or (b :: rest) pos) (tO X.K g)) : PE X (.BoolOp .Or (a :: b :: rest) pos) (tO X.K (ovOr f g)) :=
  pe_w (pe_or ha hb) fun σ H Q ⟨BV, B, V, ρ, s, ρ', E, hz, q⟩ => by
    unfold ovOr at hz
    obtain ⟨⟨x, ρ1⟩, h1, h⟩ := bind_some hz
    refine ⟨BV, B, V, ρ, _, ρ1, E, oB_some h1, fun v V' H' F x1 E1 O1 _ hF => ?_⟩
    have d := O1.1
    cases d
    refine ⟨x, rfl, ?_⟩
    cases x with
    | false => exact ⟨BV, B, V', ρ1, s, ρ', E1.env, h, fun v V2 H2 F2 x2 => q v V2 H2 F2 (x1.trans x2)⟩
    | true => cases h; exact q _ V' H' F x1 E1 O1 rfl hF
end
end DL

namespace DL
open PySem L2
/-! ### reckoning with objects -/
section
variable {c m : Str} {i n N : Nat} {F : DS} {R : DX} {fs gs : DA} {ρ ρ2 : List Sl} {ds es : List PyData} {st st' : List (Str × Fv)} {an : Bool} {r : Fl} {s : Sl}
theorem obAt_of (h : ρ[i]? = some (.ob an c st)) : obAt c i ρ = some st := by unfold obAt; rw [h]; exact if_pos rfl
theorem obAn_of {j : Nat} (h : ρ[j]? = some (.ob true c st)) : obAn c j ρ = some st := by unfold obAn; rw [h]; exact if_pos rfl
theorem out_ro {j : Nat} (h2 : ρ[i]? = some (.ob an c st)) (hl : s.loose = true) (h : ρ2[j]? = some (.ob true c st')) : outO c i j ρ (.ro s ρ2) = some (s, ρ.set i (.ob an c st')) := by
  simp only [outO, hl, if_true, obAn_of h, Option.map_some, obSet_eq h2]
theorem out_nx {j : Nat} (h2 : ρ[i]? = some (.ob an c st)) (h : ρ2[j]? = some (.ob true c st')) : outO c i j ρ (.nx ρ2) = some (.d .none, ρ.set i (.ob an c st')) := by
  simp only [outO, obAn_of h, Option.map_some, obSet_eq h2]
theorem oMeth_b (h1 : fs ρ = some ds) (h2 : ρ[i]? = some (.ob an c st)) (h3 : st.lookup m = none) (h4 : ds.length + 1 = n) : oMeth c i m n N F fs ρ = (F (.ob true c st :: ds.map Sl.d ++ List.replicate (N - n) .un)).bind (outO c i 0 ρ) := by
  unfold oMeth
  rw [h1, Option.bind_some, obAt_of h2, Option.bind_some, if_pos ⟨by rw [h3]; rfl, h4⟩]
theorem oMeth_ro (h1 : fs ρ = some ds) (h2 : ρ[i]? = some (.ob an c st)) (h3 : st.lookup m = none) (h4 : ds.length + 1 = n) (h5 : F (.ob true c st :: ds.map Sl.d ++ List.replicate (N - n) .un) = some (.ro s ρ2)) (hl : s.loose = true) (h6 : ρ2[0]? = some (.ob true c st')) : oMeth c i m n N F fs ρ = some (s, ρ.set i (.ob an c st')) := by
  rw [oMeth_b h1 h2 h3 h4, h5]
  exact out_ro h2 hl h6
theorem oMeth_nx (h1 : fs ρ = some ds) (h2 : ρ[i]? = some (.ob an c st)) (h3 : st.lookup m = none) (h4 : ds.length + 1 = n) (h5 : F (.ob true c st :: ds.map Sl.d ++ List.replicate (N - n) .un) = some (.nx ρ2)) (h6 : ρ2[0]? = some (.ob true c st')) : oMeth c i m n N F fs ρ = some (.d .none, ρ.set i (.ob an c st')) := by
  rw [oMeth_b h1 h2 h3 h4, h5]
  exact out_nx h2 h6
theorem oMeth_no (h1 : fs ρ = some ds) (h2 : ρ[i]? = some (.ob an c st)) (h3 : st.lookup m = none) (h4 : ds.length + 1 = n) (h5 : F (.ob true c st :: ds.map Sl.d ++ List.replicate (N - n) .un) = none) : oMeth c i m n N F fs ρ = none := by
  rw [oMeth_b h1 h2 h3 h4, h5]
  rfl
theorem rMeth_eq {cl : Str} (h1 : fs ρ = some ds) (h2 : ρ[i]? = some (.ob an c st)) (h3 : st.lookup m = none) (h4 : ds.length + 1 = n) (h5 : R (.ob true c st :: ds.map Sl.d ++ List.replicate (N - n) .un) = some (cl, ρ2)) (h6 : ρ2[0]? = some (.ob true c st')) : rMeth c i m n N R fs ρ = some (cl, ρ.set i (.ob an c st')) := by
  unfold rMeth
  rw [h1, Option.bind_some, obAt_of h2, Option.bind_some, if_pos ⟨by rw [h3]; rfl, h4⟩, h5, Option.bind_some, obAn_of h6, Option.map_some, obSet_eq h2]
theorem oCallO_ro (h1 : fs ρ = some ds) (h1' : gs ρ = some es) (h2 : ρ[i]? = some (.ob an c st)) (h4 : ds.length + (es.length + 1) = n) (h5 : F (ds.map Sl.d ++ .ob true c st :: es.map Sl.d ++ List.replicate (N - n) .un) = some (.ro s ρ2)) (hl : s.loose = true) (h6 : ρ2[ds.length]? = some (.ob true c st')) : oCallO c i n N F fs gs ρ = some (s, ρ.set i (.ob an c st')) := by
  unfold oCallO
  rw [h1, Option.bind_some, h1', Option.bind_some, obAt_of h2, Option.bind_some, if_pos h4, h5, Option.bind_some]
  exact out_ro h2 hl h6
theorem dMake_eq (h1 : fs ρ = some ds) (h4 : ds.length + 1 = n) (h5 : F (.ob true c [] :: ds.map Sl.d ++ List.replicate (N - n) .un) = some (.nx ρ2)) (h6 : ρ2[0]? = some (.ob true c st)) : dMake c n N F fs ρ = some (.ob false c st) := by
  unfold dMake
  rw [h1, Option.bind_some, if_pos h4, h5, Option.bind_some]
  simp only [obAn_of h6, Option.map_some]
theorem tryO_F {tbl : List (Str × DS)} (h : F ρ = some r) : sTryO i F R tbl ρ = some r := by unfold sTryO; rw [h]
theorem tryO_R {tbl : List (Str × DS)} {G : DS} {cl : Str} {d : Sl} {ρ' ρ3 : List Sl} (hF : F ρ = none) (hR : R ρ = some (cl, ρ')) (hG : tbl.lookup cl = some G) (hi : i < ρ'.length) (hd : G (ρ'.set i .un) = some (.ro d ρ3)) : sTryO i F R tbl ρ = some (.ro d ρ3) := by
  unfold sTryO
  rw [hF]
  simp only [hR, Option.bind_some, hG, hi, if_true, hd]
end
def isStr (z : Str) : Option PyData → Bool
  | some (.str y) => y == z
  | _ => false
theorem of_isStr {z : Str} {x : Option PyData} (h : isStr z x = true) : x = some (.str z) := by
  unfold isStr at h
  split at h
  · rw [eq_of_beq h]
  · cases h
theorem forGo_len {g : DG} {F : DS} {P : Nat → List Sl → Prop} {m : Nat} : ∀ {ds : List PyData} {n : Nat} {ρ : List Sl}, n + ds.length ≤ m → (∀ d ∈ ds, ∀ j ρ, j < m → P j ρ → ∃ ρ1 ρ', g d ρ = some ρ1 ∧ F ρ1 = some (.nx ρ') ∧ P (j + 1) ρ') → P n ρ → ∃ ρ', forGo g F ds ρ = some (.nx ρ') ∧ P (n + ds.length) ρ'
  | [], n, ρ, _, _, p => ⟨ρ, rfl, p⟩
  | d :: ds, n, ρ, hm, h, p => by
    rw [List.length_cons] at hm
    obtain ⟨ρ1, ρ2, h1, h2, p2⟩ := h d List.mem_cons_self n ρ (by omega) p
    obtain ⟨ρ3, h3, p3⟩ := forGo_len (m := m) (ds := ds) (n := n + 1) (ρ := ρ2) (by omega) (fun d hd => h d (List.mem_cons_of_mem _ hd)) p2
    refine ⟨ρ3, by simp only [forGo, h1, h2, Option.bind_some]; exact h3, ?_⟩
    rw [List.length_cons, show n + (ds.length + 1) = n + 1 + ds.length from by omega]
    exact p3
end DL

namespace DL
open PySem PySem.Spec PyProof.Rows L2
section
variable {X : Cx} {e a b o : Expr} {es : List Expr} {pos pos' apos cpos p : Pos} {st : Stmt} {rest : List Stmt} {c m x : Str} {C f : Addr} {fd : FuncData} {ps : List Str} {k i : Nat}
/-! ### calls whose arguments change objects -/
def oCall (g : List PyData → Option PyData) (fs : DOA) : DO := fun ρ => (fs ρ).bind fun x => (g x.1).map fun d => (.d d, x.2)
theorem oCall_some {g : List PyData → Option PyData} {fs : DOA} {ρ ρ' : List Sl} {s : Sl} (h : oCall g fs ρ = some (s, ρ')) : ∃ ds d, fs ρ = some (ds, ρ') ∧ g ds = some d ∧ s = .d d := by
  unfold oCall at h
  obtain ⟨⟨ds, ρ1⟩, h1, h⟩ := bind_some h
  obtain ⟨d, h2, h3⟩ := map_some h
  cases h3
  exact ⟨ds, d, h1, h2, rfl⟩
theorem oaNil_len (ρ : List Sl) (x : List PyData × List Sl) (h : oaNil ρ = some x) : x.1.length = 0 := by cases h; rfl
theorem oaCons_len {f : DO} {r : DOA} {n : Nat} (hr : ∀ ρ x, r ρ = some x → x.1.length = n) (ρ : List Sl) (x : List PyData × List Sl) (h : oaCons f r ρ = some x) : x.1.length = n + 1 := by
  unfold oaCons at h
  obtain ⟨⟨s, ρ1⟩, h1, h⟩ := bind_some h
  dsimp only at h
  split at h
  · obtain ⟨y, h2, h3⟩ := map_some h
    cases h3
    rw [List.length_cons, hr _ _ h2]
  · cases h
theorem o_callD {g : List PyData → Option PyData} {fs : DOA} (F : FnOk X.prog X.w X.K X.mg X.base CX0 k f fd ps (spD X.K ps.length g)) (hr : Room k X.A) (hg : Gl X x) (hm : X.mg x = some (.ref f)) (hk : PySem.W.keepIn X.K (.ref f) = true) (hb : Binds X.K fd ps [])
    (hlen : (e :: es).length = ps.length) (ha : PA X (e :: es) (tOA X.K fs)) (hfs : ∀ ρ y, fs ρ = some y → y.1.length = (e :: es).length) (hdb : (x == ("__debug__" : Str)) = false := by decide)
    (he : starEach (e :: es) X.env = (false, eval e X.env) :: starEach es X.env := by rfl) (hpl : (backTo pos (starEach es X.env)).any (·.1) = false := by rfl) : PE X (.Call (.Name x p) (e :: es) [] pos) (tO X.K (oCall g fs)) :=
  pe_w (pe_call F hr hg hm hk hb .nil (E := E0) pass0 ha hdb he hpl) fun σ H Q ⟨BV, B, V, ρ, s, ρ', E, hz, q⟩ => by
    obtain ⟨ds, d, h1, h2, rfl⟩ := oCall_some hz
    exact ⟨BV, B, V, ρ, ds, ρ', E, h1, fun vs V1 H1 x1 E1 D1 => by
      show spD X.K ps.length g (vs ++ []) H1 Q E0
      rw [List.append_nil]
      exact ⟨by rw [da_len D1, hfs ρ _ h1, hlen], V1, ds, d, E1.sub, D1, h2, fun v V' H' g dd => q v V' H' _ (x1.trans g.v) (E1.grow g) (Own.dat dd) rfl fun p z => z.elim⟩⟩
theorem o_callB {id : String} {r : List V → Hp → VK → Prop} {g : List PyData → Option PyData} {fs : DOA} (hc : CallR X (.builtin id) r) (h : CallD X.K r g) (hg : Gl X x) (hm : X.mg x = none) (hv : bootBuiltins x = some (.builtin id)) (ha : PA X (e :: es) (tOA X.K fs)) (hn : x ≠ "__name__" := by decide) (hdb : (x == ("__debug__" : Str)) = false := by decide)
    (he : starEach (e :: es) X.env = (false, eval e X.env) :: starEach es X.env := by rfl) (hpl : (backTo pos (starEach es X.env)).any (·.1) = false := by rfl) : PE X (.Call (.Name x p) (e :: es) [] pos) (tO X.K (oCall g fs)) :=
  pe_w (pe_callB hc hg hm hv ha hn hdb he hpl) fun σ H Q ⟨BV, B, V, ρ, s, ρ', E, hz, q⟩ => by
    obtain ⟨ds, d, h1, h2, rfl⟩ := oCall_some hz
    exact ⟨BV, B, V, ρ, ds, ρ', E, h1, fun vs V1 H1 x1 E1 D1 => h V1 H1 vs ds d Q E1.sub D1 h2 fun v V' H' g dd => q v V' H' _ (x1.trans g.v) (E1.grow g) (Own.dat dd) rfl fun p z => z.elim⟩
/-- x.append(e), e changes objects -/
def sAppO (i : Nat) (f : DO) : DS := fun ρ => (f ρ).bind fun x => match x.1 with
  | .d d => (ownAt i x.2).bind fun xs => if xs.length < 100000 ∧ (ownAt i ρ).isSome = true then some (.nx (x.2.set i (.own (xs ++ [d])))) else none
  | _ => none
/-- a slot that is changed nowhere has the same address -/
theorem ds_appO {f : DO} (ho : PE X o (tVar i)) (he : PE X e (tO X.K f)) (hbase : attributeBase o "append" X.env (eval o X.env) = eval o X.env := by rfl)
    (hfew : ((backTo cpos (starEach [e] X.env)).all (fun x => !x.1) && (backToKw cpos (keywordEach [] X.env)).all (fun x => x.1.isSome)
      && decide (([e] : List Expr).length + ([] : List Keyword).length + (if ([] : List Keyword).isEmpty then 0 else 1) < 30)) = true := by rfl)
    (hline : (apos.endLine == cpos.line) = true := by rfl) (hs : starEach [e] X.env = [(false, eval e X.env)] := by rfl) :
    PS X (.Expr (.Call (.Attribute o "append" apos) [e] [] cpos) pos) (sD X.K (sAppO i f)) :=
  ps_w (ps_expr (pe_bm PySem.F.plainAttrs_list PySem.F.slot_list_append PySem.F.type_list_append mt_append ho (pa_cons he pa_nil hs) hbase hfew hline hs rfl)) fun D σ H ⟨BV, B, V, ρ, r, E, h, q⟩ => by
    unfold sAppO at h
    obtain ⟨⟨s, ρ1⟩, h1, h⟩ := bind_some h
    dsimp only at h
    split at h
    · obtain ⟨xs, h2, h⟩ := bind_some h
      split at h
      · rename_i hz
        cases h
        obtain ⟨ys, h3⟩ := Option.isSome_iff_exists.mp hz.2
        obtain ⟨p0, vs0, es0, k0, _, _⟩ := own_val E (ownAt_some h3)
        refine ⟨.ref p0, es0, .inl ⟨rfl, _, .inl (.inl k0)⟩, BV, B, V, ρ, _, ρ1, E, h1, fun v V' H' F x1 E1 O1 _ _ => ?_⟩
        obtain ⟨p1, vs1, es1, k1, k2, k4⟩ := own_val E1.env (ownAt_some h2)
        rw [es0] at es1
        cases es1
        refine ⟨p0, vs1, v, rfl, rfl, k1, by rw [da_len k4]; exact line_lt hz.1, ?_⟩
        exact q σ V' _ (E1.env.write (vs := vs1) (ownAt_some h2) es0 (da_app k4 (.cons O1.1 .nil)))
      · cases h
    · cases h
/-- x = [e, ..], an own list -/
def sOwnO (i : Nat) (f : DOA) : DS := fun ρ => (f ρ).bind fun x => if x.1.length ≤ 100000 then some (.nx (x.2.set i (.own x.1))) else none
theorem ds_ownO {x : Str} {f : DOA} (hN : X.N.Nodup) (hi : X.N[i]? = some x) (hx : Loc X.env.scope x) (he : PA X es (tOA X.K f)) (hs : swapsWith (.List es apos) (some (.Name x pos')) pos.line X.env = pure false := by rfl) (hf : X.fn x = true ∨ X.env.scope.names.lookup x = some .local := by first | exact .inl rfl | exact .inr rfl | assumption) :
    PS X (.Assign [.Name x pos'] (.List es apos) pos) (sD X.K (sOwnO i f)) := ps_w (ps_set hN hi hx (pe_lst he) hs hf) fun D σ H ⟨BV, B, V, ρ, r, E, h, q⟩ => by
  unfold sOwnO at h
  obtain ⟨⟨ds, ρ1⟩, h1, h⟩ := bind_some h
  dsimp only at h
  split at h
  · rename_i hz
    cases h
    exact ⟨BV, B, V, ρ, ds, ρ1, E, h1, fun vs V1 H1 x1 E1 D1 => ⟨by rw [da_len D1]; exact line_of hz, fun l nl => q _ V1 _ (E1.setNew (Gr.held E1.sub nl) (Own.lst upd_same D1) (fun r z => by rw [z]; exact ⟨nl, E1.sub.back nl⟩) i rfl)⟩⟩
  · cases h
/-! ### a slot is given away -/
theorem EnvA.give {K : PySem.W.Frag} {BV : Hp} {B : Bs} {V H : Hp} {σ : L2.St} {ρ : List Sl} {i : Nat} {s : Sl} (E : EnvD K BV B V H σ ρ) (e : ρ[i]? = some s) : ∃ o F, σ[i]? = some o ∧ SlOk K B i V H o s F ∧ EnvA K BV B V H σ (ρ.set i .un) F := by
  obtain ⟨φ, h1, h2⟩ := E.fp
  obtain ⟨o, hs, ok⟩ := h1 i s e
  refine ⟨o, φ i, hs, ok, ?_⟩
  rw [← set_at hs]
  exact mkEnv h1 h2 i (F := fun _ => False) (V' := V) (H' := H) ⟨fun _ z => z.elim, by cases o <;> exact fun _ z => z, trivial⟩ (fun _ _ _ _ _ z => z) (fun _ z => z.elim) (fun j p n hp a => ⟨rfl, a.2.1, a.2.2.1, a.2.2.2.1, fun z => h2.1 j i p n hp z⟩) (fun _ _ => rfl) .refl E.gr E.xl
/-- x, an object of this def's own -/
def oTake (c : Str) (i : Nat) : DO := fun ρ => match ρ[i]? with
  | some (.ob false c' fs) => if c' = c then some (.ob false c fs, ρ.set i .un) else none
  | _ => none
theorem o_take (h : PE X e (tVar i)) : PE X e (tO X.K (oTake c i)) := pe_w h fun σ H Q ⟨BV, B, V, ρ, s, ρ', E, hf, q⟩ => by
  unfold oTake at hf
  split at hf
  · rename_i c' fs e0
    split at hf
    · rename_i ec
      cases hf
      rw [ec] at e0
      obtain ⟨oo, F, hs, ok, E1⟩ := E.give e0
      have own := ok.own
      cases oo with
      | none => exact own.elim
      | some v => exact ⟨v, hs, q v V H F .refl E1 own rfl ok.out⟩
    · cases hf
  · cases hf
/-! ### an object that is in no slot -/
theorem EnvA.shed {K : PySem.W.Frag} {BV : Hp} {B : Bs} {V H V' H' : Hp} {σ : L2.St} {ρ : List Sl} {F S' : Addr → Prop} (E : EnvA K BV B V H σ ρ F) (hF : ∀ p, F p → V p = none ∧ B.h p = none ∧ ¬ B.ex p) (g : Gr V (minus H F) V' H') (hS : ∀ p, S' p → minus H F p = none) : EnvA K BV B V' H' σ ρ S' := by
  obtain ⟨φ, h1, h2, h3⟩ := E.fp
  have keep : ∀ p, H p ≠ none → ¬ F p → H' p = H p := fun p z n => by
    cases q : H p with
    | none => exact absurd q z
    | some u => exact g.h p u (by rw [minus_out n]; exact q)
  have live : ∀ p, H p ≠ none → ¬ F p → minus H F p ≠ none := fun p z n y => (minus_none y).elim n z
  refine ⟨⟨φ, fun j s e => ?_, h2, fun j p hp => ⟨(h3 j p hp).1, fun z => ?_⟩⟩, ⟨E.gr.v.trans g.v, fun a u z => ?_, g.sub, fun p z1 z2 => ?_, fun a o u z => E.gr.nf a o u (g.nf a o u z)⟩, fun p hp => ?_⟩
  · obtain ⟨o, q1, q2⟩ := h1 j s e
    have nF : ∀ p, φ j p → ¬ F p := fun p hp => (h3 j p hp).2
    exact ⟨o, q1, fun p hp => ⟨g.nw p (q2.out p hp).1 (live p (q2.own.live p hp) (nF p hp)), (q2.out p hp).2⟩, q2.own.frame g.v fun p hp => keep p (q2.own.live p hp) (nF p hp), q2.anc⟩
  · obtain ⟨o, _, q2⟩ := h1 j _ (List.getElem?_eq_getElem (h3 j p hp).1)
    exact live p (q2.own.live p hp) (h3 j p hp).2 (hS p z)
  · exact g.h a u (by rw [minus_out fun y => by rw [(hF a y).2.1] at z; cases z]; exact E.gr.h a u z)
  · exact g.nw p (E.gr.nw p z1 z2) (live p (fun y => z2 (E.gr.h.back y)) fun y => z2 (hF p y).2.1)
  · rw [keep p (E.xl p hp) fun y => (hF p y).2.2 hp]; exact E.xl p hp
end
end DL

namespace DL
open PySem PySem.Spec PyProof.Rows L2
/-! ### an object in no slot is handed to a def -/
def outT : Fl → Option Sl
  | .ro x _ => if x.loose = true then some x else none
  | .nx _ => some (.d .none)
  | _ => none
section
variable {K : PySem.W.Frag} {BV : Hp} {B : Bs} {V H : Hp} {σ : L2.St} {ρ : List Sl} {n N : Nat} {c : Str} {fs : List (Str × Fv)} {ws : List L2.V} {post : List PyData} {F : DS} {r : Fl} {s : Sl} {Q : VK} {F0 : Addr → Prop} {v : L2.V}
theorem Own.an {an bn : Bool} (h : Own K V H (some v) (.ob an c fs) F0) : Own K V H (some v) (.ob bn c fs) F0 := h
theorem callT (E : EnvA K BV B V H σ ρ F0) (own : Own K V H (some v) (.ob false c fs) F0) (out : ∀ p, F0 p → V p = none ∧ B.h p = none ∧ ¬ B.ex p) (d2 : DqAll K V ws post) (hn : post.length + 1 = n) (hF : F (.ob true c fs :: post.map Sl.d ++ List.replicate (N - n) .un) = some r) (ho : outT r = some s)
    (q : ∀ v V' H' F, Ex V V' → EnvA K BV B V' H' σ ρ F → Own K V' H' (some v) s F → s.loose = true → (∀ p, F p → V' p = none ∧ B.h p = none ∧ ¬ B.ex p) → Q v H') : ∃ a, v = .ref a ∧ ∀ Ex, spO K n N F (.ref a :: ws) H Q Ex := by
  obtain ⟨a, rfl⟩ : ∃ a, v = .ref a := by obtain ⟨a, C, dx, gs, G, e1, _⟩ := own; exact ⟨a, e1⟩
  have En := lent_env (us := []) (pre := []) E.sub own.an (fun p hp => (out p hp).1) .nil d2
  refine ⟨a, rfl, fun _ => ⟨by rw [List.length_cons, da_len d2]; exact hn, V, _, V, _, r, En, by simp; omega, hF, ?_⟩⟩
  have nb : ∀ p, minus H F0 p = none → B.h p = none ∧ ¬ B.ex p := fun p z => (minus_none z).elim (fun z => (out p z).2) fun z => ⟨E.gr.h.back z, fun y => E.xl p y z⟩
  cases r with
  | ro x ρ2 =>
    simp only [outT] at ho
    split at ho
    · rename_i hl
      cases ho
      intro v σ' V' H' Fp S E' O' hc
      exact q v V' H' Fp E'.gr.v (E.shed out E'.gr fun p hp => (hc p hp).2.2.1) O' hl fun p hp => ⟨(hc p hp).2.1, nb p (hc p hp).2.2.1⟩
    · cases ho
  | nx ρ2 =>
    cases ho
    intro σ' V' H' E'
    exact q .non V' H' (fun _ => False) E'.gr.v (E.shed out E'.gr fun p hp => hp.elim) (Own.dat .non) rfl fun p hp => hp.elim
  | rt d => cases ho
  | bk ρ2 => cases ho
  | ct ρ2 => cases ho
end
section
variable {X : Cx} {e a b o : Expr} {es : List Expr} {pos pos' apos cpos p : Pos} {c m x : Str} {C f : Addr} {fd : FuncData} {ps : List Str} {k i : Nat}
def obF (c : Str) : Sl → Option (List (Str × Fv))
  | .ob false c' fs => if c' = c then some fs else none
  | _ => none
theorem obF_some {s : Sl} {fs : List (Str × Fv)} (h : obF c s = some fs) : s = .ob false c fs := by
  unfold obF at h
  split at h
  · split at h
    · rename_i ec
      cases h
      rw [ec]
    · cases h
  · cases h
/-- f(x, ..), x an object in no slot -/
def oCallT (c : Str) (n N : Nat) (F : DS) (f : DO) (gs : DA) : DO := fun ρ => (f ρ).bind fun x => (obF c x.1).bind fun st => (gs x.2).bind fun ds => if ds.length + 1 = n then (F (.ob true c st :: ds.map Sl.d ++ List.replicate (N - n) .un)).bind fun r => (outT r).map fun s => (s, x.2) else none
theorem oCallT_some {n N : Nat} {F : DS} {g : DO} {gs : DA} {ρ ρ' : List Sl} {s : Sl} (h : oCallT c n N F g gs ρ = some (s, ρ')) : ∃ st ds r, g ρ = some (.ob false c st, ρ') ∧ gs ρ' = some ds ∧ ds.length + 1 = n ∧ F (.ob true c st :: ds.map Sl.d ++ List.replicate (N - n) .un) = some r ∧ outT r = some s := by
  unfold oCallT at h
  obtain ⟨⟨s1, ρ1⟩, h1, h⟩ := bind_some h
  obtain ⟨st, h2, h⟩ := bind_some h
  obtain ⟨ds, h3, h⟩ := bind_some h
  split at h
  · rename_i hl
    obtain ⟨r, h4, h⟩ := bind_some h
    obtain ⟨s2, h5, h6⟩ := map_some h
    cases h6
    have := obF_some h2
    dsimp only at this
    subst this
    exact ⟨st, ds, r, h1, h3, hl, h4, h5⟩
  · cases h
theorem o_callT {n N : Nat} {F : DS} {g : DO} {gs : DA} (Fn : FnOk X.prog X.w X.K X.mg X.base CX0 k f fd ps (spO X.K n N F)) (hr : Room k X.A) (hg : Gl X x) (hm : X.mg x = some (.ref f)) (hk : PySem.W.keepIn X.K (.ref f) = true) (hb : Binds X.K fd ps []) (h1 : PE X e (tO X.K g)) (h2 : PA X es (tDA X.K gs)) (hdb : (x == ("__debug__" : Str)) = false := by decide)
    (he : starEach (e :: es) X.env = (false, eval e X.env) :: starEach es X.env := by rfl) (hpl : (backTo pos (starEach es X.env)).any (·.1) = false := by rfl) : PE X (.Call (.Name x p) (e :: es) [] pos) (tO X.K (oCallT c n N F g gs)) :=
  pe_w (pe_call Fn hr hg hm hk hb .nil (E := E0) pass0 (pa_cons h1 h2 he) hdb he hpl) fun σ H Q ⟨BV, B, V, ρ, s, ρ', E, hf, q⟩ => by
    obtain ⟨st, ds, r, k1, k2, hn, k3, k4⟩ := oCallT_some hf
    refine ⟨BV, B, V, ρ, _, ρ', E, k1, fun v V1 H1 F1 x1 E1 O1 _ hF => ⟨BV, B, V1, ρ', ds, E1.env, k2, fun vs V2 H2 g2 d2 => ?_⟩⟩
    have live := O1.live
    obtain ⟨a, rfl, hc⟩ := callT (Q := Q) (E1.grow g2) (O1.frame g2.v fun p hp => by
      cases z : H1 p with
      | none => exact absurd z (live p hp)
      | some u => exact g2.h p u z) (fun p hp => ⟨g2.nw p (hF p hp).1 (live p hp), (hF p hp).2⟩) d2 hn k3 k4 fun v V' H' F x => q v V' H' F (x1.trans (g2.v.trans x))
    show spO X.K n N F ((.ref a :: vs) ++ []) H2 Q E0
    rw [List.append_nil]
    exact hc E0
/-- x.m(), x an object in no slot -/
def oMethT (c : Str) (m : Str) (N : Nat) (F : DS) (f : DO) : DO := fun ρ => (f ρ).bind fun x => (obF c x.1).bind fun st => if (st.lookup m).isNone = true then (F (.ob true c st :: List.replicate (N - 1) .un)).bind fun r => (outT r).map fun s => (s, x.2) else none
theorem o_methT {N : Nat} {F : DS} {g : DO} {pl : Sem Bool} (kc : ClO X.K X.mg c C) (hm : Meth X.K C m f) (Fn : FnOk X.prog X.w X.K X.mg X.base CX0 k f fd ps (spO X.K 1 N F)) (hr : Room k X.A) (hb : Binds X.K fd ps []) (ho : PE X o (tO X.K g))
    (ht : eval (.Call (.Attribute o m apos) [] [] pos) X.env = (do
      let ov ← eval o X.env
      standAt apos.atName
      let (f, first) ← holding [ov] (getMethod ov m pl)
      callWith pos f first (backTo pos (starEach [] X.env)) (backToKw pos (keywordEach [] X.env))) := by rfl) :
    PE X (.Call (.Attribute o m apos) [] [] pos) (tO X.K (oMethT c m N F g)) :=
  pe_w (pe_meth0 (E := E0) (dvs := []) ho kc.cl hm Fn hr hb .nil pass0 ht) fun σ H Q ⟨BV, B, V, ρ, s, ρ', E, hf, q⟩ => by
    unfold oMethT at hf
    obtain ⟨⟨s1, ρ1⟩, h1, h⟩ := bind_some hf
    obtain ⟨st, h2, h⟩ := bind_some h
    split at h
    · rename_i hl
      obtain ⟨r, h4, h⟩ := bind_some h
      obtain ⟨s2, h5, h6⟩ := map_some h
      cases h6
      have := obF_some h2
      dsimp only at this
      subst this
      refine ⟨BV, B, V, ρ, _, _, E, h1, fun v V1 H1 F1 x1 E1 O1 _ hF => ?_⟩
      obtain ⟨a, rfl, hc⟩ := callT (n := 1) (N := N) (ws := []) (post := []) (Q := Q) E1 O1 hF .nil rfl h4 h5 fun v V' H' F x => q v V' H' F (x1.trans x)
      obtain ⟨a', C', dx, gs, G, e1, hc', hA, hd, nad, hfs, _⟩ := O1
      cases e1
      rw [kc.ns] at hc'
      cases hc'
      exact ⟨a, dx, gs, rfl, hA, fs_none hfs (Option.isNone_iff_eq_none.mp hl), hc E0⟩
    · cases h
end
end DL

namespace DL
open PySem PySem.Spec PyProof.Rows
/-! ### != by an own == -/
section
variable {M : Model} {prog : Program} {w : World} {A : Around} {E : Value → Shared → Prop} {s : Shared} {K : PySem.W.Frag} {x y C f : Addr} {ox oy : Obj} {od od' : Option Obj}
theorem ne_entry (X : K.In s.heap) (I : PySem.W.InstAt s.heap x ox C od) (heq : PySem.W.findIn K (.ref C) "__eq__" = some (some (.ref f))) (hf : PySem.W.isFn K (.ref f) = true) (hu : A.units < cLine) {Q : Fin → Shared → Prop}
    (h : wpAny M A (call (.ref f) [.ref x, .ref y]) (fun v s' => ∃ b, v = .bool b ∧ Q (.done (.ret (.bool (!b)))) s') E s) : wpAny M A (Builtin.«object.__ne__» ⟨[.ref x, .ref y], []⟩) Q E s := by
  unfold Builtin.«object.__ne__»
  repeat (first
    | with_reducible refine wpAny_cRoomFor hu ?_
    | (refine wpAny_bind (m := callSpecialIfBound? (.ref x) (Str.ofString "__eq__") [.ref y])
        (PySem.W.ifBound_K X I heq hf (wpAny_mono h (fun r s' hr => by
          obtain ⟨b, rfl, hq⟩ := hr
          repeat (first | exact hq | exact wpAny_pure hq | exact wpAny_truthy_bool hq | (refine wpAny_bind (m := truthy (.bool _)) (wpAny_truthy_bool ?_)) | wp_step)) fun _ _ e => e)))
    | wp_step)
theorem ifBound_objNe {args : List Value} {Q : Option Value → Shared → Prop} (X : K.In s.heap) (I : PySem.W.InstAt s.heap x ox C od) (hs : PySem.W.findIn K (.ref C) "__ne__" = some (some (.builtin "object.__ne__")))
    (h : wpAny M A (call (.builtin "object.__ne__") (.ref x :: args)) (fun v => Q (some v)) E s) : wpAny M A (callSpecialIfBound? (.ref x) "__ne__" args) Q E s := by
  simp only [callSpecialIfBound?, bindSpecialIfBound?]
  refine wpAny_holding (wpAny_bind (wpAny_bind (wpAny_bind (I.type.here ((PySem.W.looks_findIn X hs).here ?_)))))
  refine wpAny_bind (wpAny_askSetting (wpAny_ite ?_))
  have fin : wpAny M A (call (.builtin "object.__ne__") ([.ref x] ++ args) >>= fun v => pure (some v)) Q E s := wpAny_bind (wpAny_mono h (fun v s' h' => wpAny_pure h') fun _ _ h' => h')
  split
  · exact wpAny_bind (wpAny_of_eq (F.cmp_object.ne.bind _) (wpAny_pure (by exact fin)))
  · exact wpAny_tryCatch (wpAny_bind (wpAny_of_eq (F.cmp_object.ne.bind _) (wpAny_pure (by exact fin))))
theorem ne_rc {Q : Value → Shared → Prop} (hu : A.units + 1 < cLine) (X : K.In s.heap) (I : PySem.W.InstAt s.heap x ox C od) (I' : PySem.W.InstAt s.heap y oy C od') (hs : PySem.W.findIn K (.ref C) "__ne__" = some (some (.builtin "object.__ne__"))) (heq : PySem.W.findIn K (.ref C) "__eq__" = some (some (.ref f))) (hf : PySem.W.isFn K (.ref f) = true) (hm : PySem.W.mroIn K C (.type "object") = some true)
    (h : wpAny (model prog w) A.in1 (call (.ref f) [.ref x, .ref y]) (fun v s' => ∃ b, v = .bool b ∧ Q (.bool (!b)) s') E s) : wpAny (model prog w) A (richCompare .NotEq (.ref x) (.ref y)) Q E s := by
  have one : wpAny (model prog w) A (tryCompare (.ref x) "__ne__" (.ref y)) (fun r s' => ∃ v, r = some v ∧ Q v s') E s := by
    unfold tryCompare
    refine wpAny_bind (ifBound_objNe X I hs (wpAny_call (codeAny_call_builtin F.cmp_object.ne.plain F.cmpEntry_ne (PySem.W.check_slot F.cmpKind_ne F.cmpSplit_ne (I.type.andThen (PySem.W.looks_mroIn X hm)) (F.cmpArgs_ne _ _) ?_))))
    refine ne_entry (A := A.in1) X I heq hf hu (wpAny_mono h (fun v s' hv => ?_) fun _ _ e => e)
    obtain ⟨b, rfl, hq⟩ := hv
    first | exact ⟨b, rfl, wpAny_pure ⟨_, rfl, hq⟩⟩ | exact ⟨b, rfl, ⟨_, rfl, hq⟩⟩
  unfold richCompare
  simp only [oneThing_ref]
  refine wpAny_holding (wpAny_bind (wpAny_cRoomFor (Nat.lt_of_succ_lt hu) ?_))
  rw [cmpInfo_NotEq]
  dsimp only
  refine wpAny_bind (I.type.here (wpAny_bind (I'.type.here ?_)))
  rw [show (Value.ref C != Value.ref C) = false from by simp]
  simp only [Bool.false_eq_true, if_false]
  refine wpAny_bind (wpAny_pure ?_)
  simp only [Bool.false_eq_true, if_false]
  refine wpAny_bind (wpAny_mono one (fun r s' z => ?_) fun _ _ e => e)
  obtain ⟨v, rfl, hq⟩ := z
  exact wpAny_pure hq
end
open L2
section
variable {X : Cx} {e a b o : Expr} {es : List Expr} {pos pos' apos cpos p : Pos} {c m x : Str} {C f : Addr} {fd : FuncData} {ps : List Str} {k i : Nat} {CX : CXT} {sp : Sp} {E : XK}
/-- the own == is called, at the place A -/
theorem run_eq {A : Around} {pins : List (Addr × Obj)} {s : Shared} {σ : L2.St} {H : Hp} {a : Addr} {y : L2.V} {u : Value} {R : Bool → Hp → Prop} {P : Value → Shared → Prop} (Fn : FnOk X.prog X.w X.K X.mg X.base CX k f fd ps sp) (hr : Room k A) (e0 : Env0 X.prog X.w X.K X.mg X.base A X.stack s H) (hb : Binds X.K fd ps []) (hx : Passes CX X E) (I : Inv X pins σ H s) (ry : L2.RelV y u)
    (h : sp [.ref a, y] H (fun v H' => ∃ bb, v = .bl bb ∧ R bb H') E) (hP : ∀ bb s' H', Inv X pins σ H' s' → R bb H' → P (.bool bb) s') : wpAny (model X.prog X.w) A (call (.ref f) [.ref a, u]) P X.xe s := by
  have hl := Fn.len _ _ _ _ h
  have r2 : Vals [V.ref a, y] [Value.ref a, u] := .cons rfl (.cons ry .nil)
  have bb := hb s [.ref a, u] I.kIn (by simpa using hl)
  rw [List.append_nil] at bb
  refine wpAny_call (codeAny_mono (Fn.run A X.stack s H ⟨[.ref a, u], []⟩ [.ref a, u] [.ref a, y] _ E hr e0 bb r2 h) fun r s' hq => ?_)
  cases r with
  | error e => exact hx pins σ H s e s' I hq
  | ok fl =>
    cases fl with
    | ret w =>
      obtain ⟨z, H', I', rz, b1, rfl, q⟩ := I.after hq
      cases rz
      exact hP b1 s' H' I' q
    | next => exact False.elim hq
    | brk => exact False.elim hq
    | cont => exact False.elim hq
/-- what an own class must have that its objects may be compared -/
structure EqC (K : PySem.W.Frag) (C f : Addr) : Prop where
  eq : PySem.W.findIn K (.ref C) "__eq__" = some (some (.ref f))
  fn : PySem.W.isFn K (.ref f) = true
  ne : PySem.W.findIn K (.ref C) "__ne__" = some (some (.builtin "object.__ne__"))
  ob : PySem.W.mroIn K C (.type "object") = some true
def rEqO (C : Addr) (sp : Sp) (E : XK) (g : Bool → Bool) : R2 := fun x y H Q => ∃ a b dx dy fs gs, x = .ref a ∧ y = .ref b ∧ H a = some (.ins C dx fs) ∧ H b = some (.ins C dy gs) ∧ sp [.ref a, .ref b] H (fun v H' => ∃ bb, v = .bl bb ∧ Q (.bl (g bb)) H') E
theorem op_eqO (Fn : FnOk X.prog X.w X.K X.mg X.base CX k f fd ps sp) (hr : Room k X.A) (h : EqC X.K C f) (hb : Binds X.K fd ps []) (hx : Passes CX X E) : OpR X (compareOp .Eq) (rEqO C sp E id) := by
  intro pins s σ H x y v u Q I rx ry ⟨a, b, dx, dy, fs, gs, ex, ey, ha, hb', hsp⟩
  subst ex ey
  cases rx
  cases ry
  obtain ⟨mA, J, _⟩ := ins_get I.hok ha
  obtain ⟨mB, J', _⟩ := ins_get I.hok hb'
  obtain ⟨od, J, _⟩ := J.look
  obtain ⟨od', J', _⟩ := J'.look
  obtain ⟨m, hF⟩ := I.fr
  refine PySem.W.cmp_K (op := .Eq) (tb := .ref C) hr.units0 hF I.ok.mod.kin J J'.type (by simp [PySem.W.notFirst]) h.eq h.fn ?_
  exact run_eq (R := fun bb H' => Q (.bl bb) H') Fn hr I.env0 hb hx I (show L2.RelV (.ref b) (.ref b) from rfl) hsp fun bb s' H' I' q => ⟨.bl bb, H', I', rfl, q⟩
theorem op_neO (Fn : FnOk X.prog X.w X.K X.mg X.base CX k f fd ps sp) (hr : Room (k + 1) X.A) (h : EqC X.K C f) (hb : Binds X.K fd ps []) (hx : Passes CX X E) : OpR X (compareOp .NotEq) (rEqO C sp E Bool.not) := by
  intro pins s σ H x y v u Q I rx ry ⟨a, b, dx, dy, fs, gs, ex, ey, ha, hb', hsp⟩
  subst ex ey
  cases rx
  cases ry
  obtain ⟨mA, J, _⟩ := ins_get I.hok ha
  obtain ⟨mB, J', _⟩ := ins_get I.hok hb'
  obtain ⟨od, J, _⟩ := J.look
  obtain ⟨od', J', _⟩ := J'.look
  refine ne_rc (hu_of hr) I.kIn J J' h.ne h.eq h.fn h.ob ?_
  exact run_eq (R := fun bb H' => Q (.bl (Bool.not bb)) H') Fn hr.in1 I.env0.in1 hb hx I (show L2.RelV (.ref b) (.ref b) from rfl) hsp fun bb s' H' I' q => ⟨bb, rfl, ⟨.bl (Bool.not bb), H', I', rfl, q⟩⟩
/-- an object against a text -/
def rEqS (C : Addr) (sp : Sp) (E : XK) : R2 := fun x y H Q => ∃ a dx fs z, x = .ref a ∧ y = .str z ∧ H a = some (.ins C dx fs) ∧ sp [.ref a, .str z] H (fun v H' => ∃ bb, v = .bl bb ∧ Q (.bl bb) H') E
theorem sub_str {K : PySem.W.Frag} {C : Addr} : PySem.W.subIn K (.type "str") (.ref C) = some false := by
  have e : fastBuiltinMro "str" = some [.type "str", .type "object"] := by decide +kernel
  show (fastBuiltinMro "str").map (·.contains (.ref C)) = some false
  rw [e]
  first
    | rfl
    | simp
theorem op_eqS (Fn : FnOk X.prog X.w X.K X.mg X.base CX k f fd ps sp) (hr : Room k X.A) (h : EqC X.K C f) (hb : Binds X.K fd ps []) (hx : Passes CX X E) : OpR X (compareOp .Eq) (rEqS C sp E) := by
  intro pins s σ H x y v u Q I rx ry ⟨a, dx, fs, z, ex, ey, ha, hsp⟩
  subst ex ey
  cases rx
  obtain ⟨t, rfl⟩ := (show ∃ t, u = Value.str z t from ry)
  obtain ⟨mA, J, _⟩ := ins_get I.hok ha
  obtain ⟨od, J, _⟩ := J.look
  obtain ⟨m, hF⟩ := I.fr
  refine PySem.W.cmp_K (op := .Eq) (tb := .type "str") hr.units0 hF I.ok.mod.kin J (PySem.W.Looks.of_pure rfl) (by rw [PySem.W.notFirst, sub_str]; rfl) h.eq h.fn ?_
  exact run_eq (R := fun bb H' => Q (.bl bb) H') Fn hr I.env0 hb hx I ry hsp fun bb s' H' I' q => ⟨.bl bb, H', I', rfl, q⟩
/-! ### an own == of two fields that are texts -/
def dStr : Option Fv → Option Str
  | some (.d (.str z)) => some z
  | _ => none
/-- what == says, by the fields -/
def eqFs (f g : Str) (xs ys : List (Str × Fv)) : Option Bool := (dStr (xs.lookup f)).bind fun a => (dStr (ys.lookup f)).bind fun b => match eqP (.str a) (.str b) with
  | some (.bool true) => (dStr (xs.lookup g)).bind fun a => (dStr (ys.lookup g)).bind fun b => match eqP (.str a) (.str b) with
    | some (.bool x) => some x
    | _ => none
  | some (.bool false) => some false
  | _ => none
/-- a field that is a text -/
def FStr (gs : List (Str × L2.V)) (f : Str) (z : Str) : Prop := gs.lookup f = some (.str z)
def spEq2 (K : PySem.W.Frag) (C : Addr) (f g : Str) : Sp := fun vs H Q _ => ∃ a y dx gs, vs = [.ref a, y] ∧ H a = some (.ins C dx gs) ∧
  ((∃ z, y = .str z ∧ ∀ H', Ex H H' → Q (.bl false) H') ∨ ∃ b dy hs bb, y = .ref b ∧ H b = some (.ins C dy hs) ∧ (∀ H', Ex H H' → Q (.bl bb) H') ∧ ∃ u1 u2, FStr gs f u1 ∧ FStr hs f u2 ∧ ((eqP (.str u1) (.str u2) = some (.bool false) ∧ bb = false) ∨ (eqP (.str u1) (.str u2) = some (.bool true) ∧ ∃ p1 p2, FStr gs g p1 ∧ FStr hs g p2 ∧ eqP (.str p1) (.str p2) = some (.bool bb))))
end
end DL

namespace DL
open PySem PySem.Spec PyProof.Rows L2
section
variable {X : Cx} {e a b o : Expr} {es : List Expr} {pos pos' apos cpos p : Pos} {c m x : Str} {C : Addr} {fd : FuncData} {ps : List Str} {k i j : Nat}
/-! ### the own == -/
structure EqI (K : PySem.W.Frag) (C : Addr) : Prop where
  cl : Cls K C
  ha : PySem.W.findIn K (.ref C) "__class__" = some (some (.builtin "object.__class__"))
  hn : PySem.W.specialIn K (.builtin "object.__class__") "__get__" = some (some (.builtin "getset_descriptor.__get__"))
  htk : PySem.W.takesIn K (.builtin "object.__class__") = some true
  hm : PySem.W.mroIn K C (.type "object") = some true
  me : PySem.W.kitOne K (.ref C) (.ref C) = some true
  str : PySem.W.kitOne K (.type "str") (.ref C) = some false
def rIsO (C : Addr) : List V → Hp → VK → Prop := fun xs H Q => ∃ y v, xs = [y, v] ∧ (∀ u, L2.RelV v u → u = .ref C) ∧ ((∃ b dx fs, y = .ref b ∧ H b = some (.ins C dx fs) ∧ Q (.bl true) H) ∨ ∃ z, y = .str z ∧ Q (.bl false) H)
theorem call_isO (h : EqI X.K C) : CallR X (.builtin "isinstance") (rIsO C) := by
  intro pins s σ H xs us Q I r q
  obtain ⟨y, v, rfl, hv, q⟩ := q
  obtain ⟨u, w', rfl, ru, rw'⟩ := vals2 r
  cases hv _ rw'
  rcases q with ⟨b, dx, fs, rfl, hb, q⟩ | ⟨z, rfl, q⟩
  · exact isinst_ok I ru (TyOf.ins hb h.cl h.ha h.hn h.htk h.hm) h.me fun tk => ⟨.bl true, H, I.tok _, rfl, q⟩
  · exact isinst_ok I ru (TyOf.str z) h.str fun tk => ⟨.bl false, H, I.tok _, rfl, q⟩
def tEq2 (C : Addr) (f g : Str) : TS := fun D σ H => ∃ a y dx gs, σ = [some (.ref a), some y] ∧ H a = some (.ins C dx gs) ∧
  ((∃ z, y = .str z ∧ ∀ H', Ex H H' → D.rt (.bl false) H') ∨ ∃ b dy hs bb, y = .ref b ∧ H b = some (.ins C dy hs) ∧ (∀ H', Ex H H' → D.rt (.bl bb) H') ∧ ∃ u1 u2, FStr gs f u1 ∧ FStr hs f u2 ∧ ((eqP (.str u1) (.str u2) = some (.bool false) ∧ bb = false) ∨ (eqP (.str u1) (.str u2) = some (.bool true) ∧ ∃ p1 p2, FStr gs g p1 ∧ FStr hs g p2 ∧ eqP (.str p1) (.str p2) = some (.bool bb))))
def V0 : Hp := fun _ => none
theorem V0_ex {H : Hp} : Ex V0 H := fun _ _ h => by cases h
theorem ps_eq2 {f g : Str} {s1 s2 s3 s4 : Expr} {p1 p2 p3 p4 : Pos} {nI nC : Expr} {pI pI' : Pos} (hu : X.A.units + 64 < cLine) (hq : EqI X.K C) (nf : NoAttr X.K C f) (ng : NoAttr X.K C g) (hg : Gl X "isinstance") (hm : X.mg "isinstance" = none)
    (hI : PE X nI (tVar 1)) (hC : PE X nC (fun σ H Q => ∀ v, (∀ u, L2.RelV v u → u = .ref C) → Q v H)) (h1 : PE X s1 (tVar 0)) (h2 : PE X s2 (tVar 1)) (h3 : PE X s3 (tVar 0)) (h4 : PE X s4 (tVar 1))
    (b1 : attributeBase s1 f X.env (eval s1 X.env) = eval s1 X.env := by rfl) (b2 : attributeBase s2 f X.env (eval s2 X.env) = eval s2 X.env := by rfl) (b3 : attributeBase s3 g X.env (eval s3 X.env) = eval s3 X.env := by rfl) (b4 : attributeBase s4 g X.env (eval s4 X.env) = eval s4 X.env := by rfl)
    (hs1 : starEach [nI, nC] X.env = (false, eval nI X.env) :: starEach [nC] X.env := by rfl) (hs2 : starEach [nC] X.env = [(false, eval nC X.env)] := by rfl) (hpl : (backTo pI' (starEach [nC] X.env)).any (·.1) = false := by rfl)
    (m1 : behindInMarks .Eq (.Attribute s2 f p2) = false := by exact nomark _) (m2 : behindInMarks .Eq (.Attribute s4 g p4) = false := by exact nomark _) {q1 q2 q3 : Pos} :
    PS X (.Return (some (.BoolOp .And [.Call (.Name "isinstance" pI) [nI, nC] [] pI', .Compare (.Attribute s1 f p1) [.Eq] [.Attribute s2 f p2] q1, .Compare (.Attribute s3 g p3) [.Eq] [.Attribute s4 g p4] q2] q3)) pos) (tEq2 C f g) :=
  ps_w (ps_ret (pe_and (pe_callB (call_isO hq) hg hm (by decide +kernel) (pa_cons hI (pa_cons hC pa_nil hs2) hs1) (by decide) (by decide) hs1 hpl) (pe_and (pe_cmpR (op_eqD hu) (pe_fld h1 b1) (pe_fld h2 b2) m1) (pe_one (pe_cmpR (op_eqD hu) (pe_fld h3 b3) (pe_fld h4 b4) m2))))) fun D σ H ⟨a, y, dx, gs, es, ha, h⟩ => by
    subst es
    rcases h with ⟨z, rfl, q⟩ | ⟨b, dy, hs, bb, rfl, hb, q, u1, u2, f1, f2, h⟩
    · exact ⟨_, rfl, fun v hv => ⟨_, v, rfl, hv, .inr ⟨z, rfl, false, rfl, q H .refl⟩⟩⟩
    · refine ⟨_, rfl, fun v hv => ⟨_, v, rfl, hv, .inl ⟨b, dy, hs, rfl, hb, true, rfl, ?_⟩⟩⟩
      rcases h with ⟨e1, rfl⟩ | ⟨e1, w1, w2, g1, g2, e2⟩
      · refine ⟨_, rfl, a, C, dx, gs, _, rfl, ha, hq.cl, nf, f1, _, rfl, b, C, dy, hs, _, rfl, hb, hq.cl, nf, f2, ?_⟩
        refine od_eq V0 H _ _ _ _ _ _ V0_ex (.str u1) (.str u2) e1 fun v V' H' g d => ?_
        cases d
        exact ⟨false, rfl, q H' g.h⟩
      · refine ⟨_, rfl, a, C, dx, gs, _, rfl, ha, hq.cl, nf, f1, _, rfl, b, C, dy, hs, _, rfl, hb, hq.cl, nf, f2, ?_⟩
        refine od_eq V0 H _ _ _ _ _ _ V0_ex (.str u1) (.str u2) e1 fun v V' H' g d => ?_
        cases d
        refine ⟨true, rfl, _, rfl, a, C, dx, gs, _, rfl, g.h _ _ ha, hq.cl, ng, g1, _, rfl, b, C, dy, hs, _, rfl, g.h _ _ hb, hq.cl, ng, g2, ?_⟩
        refine od_eq V0 H' _ _ _ _ _ _ V0_ex (.str w1) (.str w2) e2 fun v V2 H2 g2 d => ?_
        cases d
        exact q H2 (g.h.trans g2.h)
end
end DL

namespace DL
open PySem PySem.Spec PyProof.Rows L2
theorem fnEq {P : Program} {w : World} {K : PySem.W.Frag} {mg : Str → Option Value} {base : Heap} {qual : Str} {st : Stmt} {fa C : Addr} {fd : FuncData} {k : Nat} {f g : Str} (Fu : Fun K "__eq__" qual st fa fd) (S : FnScope ["self", "other"] ["self", "other"] (defScope st))
    (hb : ∀ (cdv : Value) (A : Around) (outer : List Env) (s : Shared) (H : Hp) (E : XK), Room k (A.deeper (envOfC qual (defScope st) s.heap.objs.size fa cdv)) → PSs (cxOf CX0 P w K mg base ["self", "other"] qual (defScope st) fa cdv A outer s H E).nox (defBody st) (tEq2 C f g)) :
    FnOk P w K mg base CX0 (k + 1) fa fd ["self", "other"] (spEq2 K C f g) := by
  refine Fu.ok S (fun vs H Q E h => ?_) fun cdv A outer s H vs Q E hr h => ⟨_, hb cdv A outer s H E hr, ?_⟩
  · obtain ⟨a, y, dx, gs, rfl, _⟩ := h
    rfl
  · obtain ⟨a, y, dx, gs, rfl, h⟩ := h
    exact ⟨a, y, dx, gs, rfl, h⟩
section
variable {X : Cx} {e a b o : Expr} {es : List Expr} {pos pos' apos cpos p : Pos} {c m x : Str} {C fa : Addr} {fd : FuncData} {ps : List Str} {k i j : Nat} {f g : Str}
abbrev DF := List Sl → Option (List (Str × Fv))
/-- an object is looked at -/
def tOb (K : PySem.W.Frag) (c : Str) (f : DF) : TE := fun σ H Q => ∃ BV B V ρ fs, EnvD K BV B V H σ ρ ∧ f ρ = some fs ∧ ∀ a C dx gs G V' H', Gr V H V' H' → PySem.W.nsIn K mainGlobals c = some (some (.ref C)) → H' a = some (.ins C dx gs) → FsOk K V' H' gs fs G → Q (.ref a) H'
theorem ob_name (h : PE X e (tVar i)) : PE X e (tOb X.K c (obAt c i)) := pe_w h fun σ H Q ⟨BV, B, V, ρ, fs, E, hf, q⟩ => by
  obtain ⟨an, e0⟩ := obAt_some hf
  obtain ⟨a, C, dx, gs, G, hs, hc, ha, _, _, hfs, _⟩ := E.obj e0
  exact ⟨.ref a, hs, q a C dx gs G V H (.refl E.sub) hc ha hfs⟩
def fNew (c : Str) (g : DSl) : DF := fun ρ => (g ρ).bind (obF c)
theorem ob_new {g : DSl} (h : PE X e (tSl X.K g)) : PE X e (tOb X.K c (fNew c g)) := pe_w h fun σ H Q ⟨BV, B, V, ρ, fs, E, hf, q⟩ => by
  obtain ⟨s, h1, h2⟩ := bind_some hf
  have := obF_some h2
  subst this
  refine ⟨BV, B, V, ρ, _, E, h1, fun v V' H' F g O _ _ => ?_⟩
  obtain ⟨a, C, dx, gs, G, rfl, hc, ha, _, _, hfs, _⟩ := O
  exact q a C dx gs G V' H' g hc ha hfs
theorem dStr_some {o : Option Fv} {z : Str} (h : dStr o = some z) : o = some (.d (.str z)) := by
  unfold dStr at h
  split at h
  · cases h; rfl
  · cases h
theorem fs_str {K : PySem.W.Frag} {V H : Hp} {gs : List (Str × L2.V)} {fs : List (Str × Fv)} {G : Addr → Prop} {z : Str} (h : FsOk K V H gs fs G) (e : dStr (fs.lookup f) = some z) : FStr gs f z := by
  obtain ⟨v, h1, h2⟩ := fs_d h (dStr_some e)
  cases h2
  exact h1
def dEqO (n : Bool → Bool) (f g : Str) (u v : DF) : DE := fun ρ => (u ρ).bind fun xs => (v ρ).bind fun ys => (eqFs f g xs ys).map fun b => .bool (n b)
theorem eqFs_sp {K : PySem.W.Frag} {V H : Hp} {a b dx dy : Addr} {gs hs : List (Str × L2.V)} {xs ys : List (Str × Fv)} {G G' : Addr → Prop} {bb : Bool} {Q : VK} {E : XK} (h : eqFs f g xs ys = some bb) (h1 : FsOk K V H gs xs G) (h2 : FsOk K V H hs ys G') (ha : H a = some (.ins C dx gs)) (hb : H b = some (.ins C dy hs)) (q : ∀ H', Ex H H' → Q (.bl bb) H') : spEq2 K C f g [.ref a, .ref b] H Q E := by
  unfold eqFs at h
  obtain ⟨u1, k1, h⟩ := bind_some h
  obtain ⟨u2, k2, h⟩ := bind_some h
  refine ⟨a, .ref b, dx, gs, rfl, ha, .inr ⟨b, dy, hs, bb, rfl, hb, q, u1, u2, fs_str h1 k1, fs_str h2 k2, ?_⟩⟩
  split at h
  · rename_i e
    obtain ⟨p1, k3, h⟩ := bind_some h
    obtain ⟨p2, k4, h⟩ := bind_some h
    split at h
    · rename_i x e2
      cases h
      exact .inr ⟨e, p1, p2, fs_str h1 k3, fs_str h2 k4, e2⟩
    · cases h
  · rename_i e
    cases h
    exact .inl ⟨e, rfl⟩
  · cases h
theorem tOp_eqO {K : PySem.W.Frag} {n : Bool → Bool} {u v : DF} (hn : PySem.W.nsIn K mainGlobals c = some (some (.ref C))) (σ : L2.St) (H : Hp) (Q : VK) (t : tD K (dEqO n f g u v) σ H Q) : tOp (rEqO C (spEq2 K C f g) E0 n) (tOb K c u) (tOb K c v) σ H Q := by
  obtain ⟨BV, B, V, ρ, d, E, hf, q⟩ := t
  unfold dEqO at hf
  obtain ⟨xs, k1, hf⟩ := bind_some hf
  obtain ⟨ys, k2, hf⟩ := bind_some hf
  obtain ⟨bb, k3, k4⟩ := map_some hf
  cases k4
  refine ⟨BV, B, V, ρ, xs, E, k1, fun a C1 dx gs G V1 H1 g1 hc1 ha1 f1 => ⟨BV, B, V1, ρ, ys, E.grow g1, k2, fun b C2 dy hs G' V2 H2 g2 hc2 hb2 f2 => ?_⟩⟩
  rw [hn] at hc1 hc2
  cases hc1
  cases hc2
  have f1' : FsOk K V2 H2 gs xs G := f1.frame g2.v fun p hp => by
    cases z : H1 p with
    | none => exact absurd z (f1.live p hp)
    | some w => exact g2.h p w z
  exact ⟨a, b, dx, dy, gs, hs, rfl, rfl, g2.h _ _ ha1, hb2, eqFs_sp k3 f1' f2 (g2.h _ _ ha1) hb2 fun H' hx => ⟨bb, rfl, q _ V2 H' ((g1.trans g2).trans (Gr.same g2.sub hx)) (.bl _)⟩⟩
theorem de_eqO {u v : DF} (kc : ClO X.K X.mg c C) (Fn : FnOk X.prog X.w X.K X.mg X.base CX0 k fa fd ps (spEq2 X.K C f g)) (hr : Room k X.A) (h : EqC X.K C fa) (hb : Binds X.K fd ps []) (h1 : PE X a (tOb X.K c u)) (h2 : PE X b (tOb X.K c v)) (hm : behindInMarks .Eq b = false) : PE X (.Compare a [.Eq] [b] pos) (tD X.K (dEqO id f g u v)) :=
  pe_w (pe_cmpR (op_eqO Fn hr h hb pass0) h1 h2 hm) (tOp_eqO kc.ns)
theorem dt_eqO {u v : DF} (kc : ClO X.K X.mg c C) (Fn : FnOk X.prog X.w X.K X.mg X.base CX0 k fa fd ps (spEq2 X.K C f g)) (hr : Room k X.A) (h : EqC X.K C fa) (hb : Binds X.K fd ps []) (h1 : PE X a (tOb X.K c u)) (h2 : PE X b (tOb X.K c v)) (hm : behindInMarks .Eq b = false) : PT X (.Compare a [.Eq] [b] pos) (tDT X.K (bOf (dEqO id f g u v))) :=
  pt_w (pt_cmpR (op_eqO Fn hr h hb pass0) h1 h2 hm) fun σ H Q ⟨BV, B, V, ρ, bb, E, hf, q⟩ => tOp_eqO kc.ns σ H _ ⟨BV, B, V, ρ, _, E, bOf_some hf, fun v V' H' g d => by
    cases d
    exact ⟨bb, rfl, q V' H' g⟩⟩
theorem dt_neO {u v : DF} (kc : ClO X.K X.mg c C) (Fn : FnOk X.prog X.w X.K X.mg X.base CX0 k fa fd ps (spEq2 X.K C f g)) (hr : Room (k + 1) X.A) (h : EqC X.K C fa) (hb : Binds X.K fd ps []) (h1 : PE X a (tOb X.K c u)) (h2 : PE X b (tOb X.K c v)) (hm : behindInMarks .NotEq b = false) : PT X (.Compare a [.NotEq] [b] pos) (tDT X.K (bOf (dEqO Bool.not f g u v))) :=
  pt_w (pt_cmpR (op_neO Fn hr h hb pass0) h1 h2 hm) fun σ H Q ⟨BV, B, V, ρ, bb, E, hf, q⟩ => tOp_eqO kc.ns σ H _ ⟨BV, B, V, ρ, _, E, bOf_some hf, fun v V' H' g d => by
    cases d
    exact ⟨bb, rfl, q V' H' g⟩⟩
/-- an object against a text: False -/
def dEqS (u : DF) (w : DE) : DE := fun ρ => (u ρ).bind fun _ => match w ρ with
  | some (.str _) => some (.bool false)
  | _ => none
theorem dt_eqS {u : DF} {w : DE} (kc : ClO X.K X.mg c C) (Fn : FnOk X.prog X.w X.K X.mg X.base CX0 k fa fd ps (spEq2 X.K C f g)) (hr : Room k X.A) (h : EqC X.K C fa) (hb : Binds X.K fd ps []) (h1 : PE X a (tOb X.K c u)) (h2 : PE X b (tD X.K w)) (hm : behindInMarks .Eq b = false) : PT X (.Compare a [.Eq] [b] pos) (tDT X.K (bOf (dEqS u w))) :=
  pt_w (pt_cmpR (op_eqS Fn hr h hb pass0) h1 h2 hm) fun σ H Q ⟨BV, B, V, ρ, bb, E, hf, q⟩ => by
    have hf := bOf_some hf
    unfold dEqS at hf
    obtain ⟨xs, k1, hf⟩ := bind_some hf
    split at hf
    · rename_i z k2
      cases hf
      refine ⟨BV, B, V, ρ, xs, E, k1, fun a C1 dx gs G V1 H1 g1 hc1 ha1 f1 => ⟨BV, B, V1, ρ, _, E.grow g1, k2, fun v V2 H2 g2 d2 => ?_⟩⟩
      rw [kc.ns] at hc1
      cases hc1
      cases d2
      exact ⟨a, dx, gs, z, rfl, rfl, g2.h _ _ ha1, a, .str z, dx, gs, rfl, g2.h _ _ ha1, .inl ⟨z, rfl, fun H' hx => ⟨false, rfl, false, rfl, q V2 H' ((g1.trans g2).trans (Gr.same g2.sub hx))⟩⟩⟩
    · cases hf
end
end DL

namespace DL
open PySem PySem.Spec PyProof.Rows L2
section
variable {X : Cx} {e a b o : Expr} {es : List Expr} {pos pos' apos cpos p : Pos} {c m x y : Str} {C fa : Addr} {k i j : Nat}
/-- x, y = (d, e), e changes objects -/
def sPairO (i j : Nat) (f : DE) (g : DO) : DS := fun ρ => (f ρ).bind fun d => (g ρ).map fun x => .nx ((x.2.set i (.d d)).set j x.1)
theorem ds_pairO {f : DE} {g : DO} {px py pt : Pos} {kt k2 pt2} (hc : X.calm = true) (hN : X.N.Nodup) (hi : X.N[i]? = some x) (hj : X.N[j]? = some y) (hij : i ≠ j) (hx : X.env.scope.names.lookup x = some .local) (hy : X.env.scope.names.lookup y = some .local) (h1 : PE X a (tD X.K f)) (h2 : PE X b (tO X.K g))
    (hw : swappedStores [.Tuple [.Name x px, .Name y py] kt pt] (.Tuple [a, b] k2 pt2) X.env = pure (some [x, y])) (hs : swapsWithSole [.Tuple [.Name x px, .Name y py] kt pt] (.Tuple [a, b] k2 pt2) pos.line X.env = pure false := by rfl)
    (hs1 : starEach [a, b] X.env = (false, eval a X.env) :: starEach [b] X.env := by rfl) (hs2 : starEach [b] X.env = [(false, eval b X.env)] := by rfl) :
    PS X (.Assign [.Tuple [.Name x px, .Name y py] kt pt] (.Tuple [a, b] k2 pt2) pos) (sD X.K (sPairO i j f g)) :=
  ps_w (ps_par hc hN hi hj hij hx hy (pa_cons h1 (pa_cons h2 pa_nil hs2) hs1) hw hs) fun D σ H ⟨BV, B, V, ρ, r, E, h, q⟩ => by
    unfold sPairO at h
    obtain ⟨d, k1, h⟩ := bind_some h
    obtain ⟨⟨s, ρ1⟩, k2, h3⟩ := map_some h
    cases h3
    exact ⟨BV, B, V, ρ, d, E, k1, fun v V1 H1 g1 d1 => ⟨BV, B, V1, ρ, s, ρ1, E.grow g1, k2, fun w V2 H2 F x2 E2 O2 l hF => ⟨v, w, rfl, q _ V2 H2 ((E2.set (dp_mono x2 d1) i).take O2 (fun p hp => ⟨hp, hF p hp⟩) j l).env⟩⟩⟩
/-! ### fields as targets -/
def gAttr (K : PySem.W.Frag) (f : Str) (t : TE) : TG := fun v σ H Q => t σ H fun x H1 => ∃ a C dx fs, x = .ref a ∧ H1 a = some (.ins C dx fs) ∧ Cls K C ∧ NoAttr K C f ∧ fs.length < 1000 ∧ Q σ (upd H1 a (.ins C dx (putF f v fs)))
theorem pg_attr {f : Str} {t : TE} (h : PE X o t) : PG X (.Attribute o f pos) (gAttr X.K f t) := ⟨fun pins s σ H v u Q I r hw =>
  PySem.W.kas_attr (thn (h.run pins s σ H _ I hw) fun ov s1 ⟨x, H1, I1, rx, a, C, dx, fs, ex, ea, c, n, l, q⟩ => by
    subst ex
    obtain rfl : ov = Value.ref a := rx
    exact setattr_ok I1 ea c n l r fun s3 I3 => ⟨σ, _, I3, q⟩)⟩
/-- x.f, x.g, x.h = (d, new list, new list) -/
def sAttr3 (c : Str) (i : Nat) (f g h : Str) (u : DE) (v w : DA) : DS := fun ρ => (u ρ).bind fun d => (v ρ).bind fun xs => (w ρ).bind fun ys => (obAt c i ρ).bind fun fs => if fs.length < 100 then some (.nx (obSet i (putFv h (.own ys) (putFv g (.own xs) (putFv f (.d d) fs))) ρ)) else none
theorem putF_len (f : Str) (v : L2.V) : ∀ fs : List (Str × L2.V), (putF f v fs).length ≤ fs.length + 1
  | [] => by simp [putF]
  | (k, x) :: r => by
    have ih := putF_len f v r
    unfold putF
    split <;> simp <;> omega
theorem ds_attr3 {f g h : Str} {u : DE} {v w : DA} {o1 o2 o3 e1 e2 e3 : Expr} {p1 p2 p3 tp vp : Pos} {kt k2 : Nat} (hcalm : X.calm = true) (k : ClO X.K X.mg c C) (n1 : NoAttr X.K C f) (n2 : NoAttr X.K C g) (n3 : NoAttr X.K C h) (h1 : PE X o1 (tVar i)) (h2 : PE X o2 (tVar i)) (h3 : PE X o3 (tVar i)) (a1 : PE X e1 (tD X.K u)) (a2 : PE X e2 (tN X.K v)) (a3 : PE X e3 (tN X.K w))
    (hn : (assignEach [.Attribute o1 f p1, .Attribute o2 g p2, .Attribute o3 h p3] X.env).length = 3 := by rfl) (hst : (assignEach [.Attribute o1 f p1, .Attribute o2 g p2, .Attribute o3 h p3] X.env).findIdx? (·.1) = none := by rfl)
    (t1 : (assignEach [.Attribute o1 f p1, .Attribute o2 g p2, .Attribute o3 h p3] X.env).map (·.2) = assign (.Attribute o1 f p1) X.env :: (assignEach [.Attribute o2 g p2, .Attribute o3 h p3] X.env).map (·.2) := by rfl) (t2 : (assignEach [.Attribute o2 g p2, .Attribute o3 h p3] X.env).map (·.2) = assign (.Attribute o2 g p2) X.env :: (assignEach [.Attribute o3 h p3] X.env).map (·.2) := by rfl) (t3 : (assignEach [.Attribute o3 h p3] X.env).map (·.2) = assign (.Attribute o3 h p3) X.env :: (assignEach [] X.env).map (·.2) := by rfl)
    (s1 : starEach [e1, e2, e3] X.env = (false, eval e1 X.env) :: starEach [e2, e3] X.env := by rfl) (s2 : starEach [e2, e3] X.env = (false, eval e2 X.env) :: starEach [e3] X.env := by rfl) (s3 : starEach [e3] X.env = [(false, eval e3 X.env)] := by rfl)
    (hs : swapsWithSole [.Tuple [.Attribute o1 f p1, .Attribute o2 g p2, .Attribute o3 h p3] kt tp] (.Tuple [e1, e2, e3] k2 vp) pos.line X.env = pure false := by rfl) (hw : swappedStores [.Tuple [.Attribute o1 f p1, .Attribute o2 g p2, .Attribute o3 h p3] kt tp] (.Tuple [e1, e2, e3] k2 vp) X.env = pure none := by rfl) (he : (assignEach [.Tuple [.Attribute o1 f p1, .Attribute o2 g p2, .Attribute o3 h p3] kt tp] X.env).map (·.2) = [assign (.Tuple [.Attribute o1 f p1, .Attribute o2 g p2, .Attribute o3 h p3] kt tp) X.env] := by rfl) :
    PS X (.Assign [.Tuple [.Attribute o1 f p1, .Attribute o2 g p2, .Attribute o3 h p3] kt tp] (.Tuple [e1, e2, e3] k2 vp) pos) (sD X.K (sAttr3 c i f g h u v w)) :=
  ps_w (ps_asg (pe_tup (pa_cons a1 (pa_cons a2 (pa_cons a3 pa_nil s3) s2) s1)) (pg_tup hcalm (pgs_cons (pg_attr h1) (pgs_cons (pg_attr h2) (pgs_cons (pg_attr h3) pgs_nil t3) t2) t1) hn hst) hs hw he) fun D σ H ⟨BV, B, V, ρ, r, E, hh, q⟩ => by
    unfold sAttr3 at hh
    obtain ⟨d, k1, hh⟩ := bind_some hh
    obtain ⟨xs, k2, hh⟩ := bind_some hh
    obtain ⟨ys, k3, hh⟩ := bind_some hh
    obtain ⟨fs, k4, hh⟩ := bind_some hh
    split at hh
    · rename_i hl
      cases hh
      obtain ⟨an, e0⟩ := obAt_some k4
      refine ⟨BV, B, V, ρ, d, E, k1, fun v1 V1 H1 g1 d1 => ⟨BV, B, V1, ρ, xs, E.grow g1, k2, fun p2 vs2 V2 H2 g2 np2 vp2 hp2 d2 => ⟨BV, B, V2, ρ, ys, (E.grow g1).grow g2, k3, fun p3 vs3 V3 H3 g3 np3 vp3 hp3 d3 => ⟨line_of (by simp), fun pt npt => ⟨pt, _, rfl, .inl (.inl upd_same), rfl, ?_⟩⟩⟩⟩⟩
      have g4 : Gr V3 H3 V3 (upd H3 pt (.tup [v1, .ref p2, .ref p3])) := Gr.held g3.sub npt
      generalize hH4 : upd H3 pt (HO.tup [v1, L2.V.ref p2, L2.V.ref p3]) = H4 at g4 ⊢
      have nn2 : H p2 = none := g1.h.back np2
      have nn3 : H p3 = none := g1.h.back (g2.h.back np3)
      have E4 := (((((E.fresh (S' := fun q => q = p2 ∨ q = p3) fun q z => z.elim (fun z => by rw [z]; exact nn2) fun z => by rw [z]; exact nn3).grow g1).grow g2).grow g3).grow g4)
      obtain ⟨a, C', dx, gs, G, hs, hc, hA, hd, nad, hfs, ga, gd, nS, ch⟩ := E4.objS e0
      rw [k.ns] at hc
      cases hc
      have hp2' := g4.h _ _ (g3.h _ _ hp2)
      have hp3' := g4.h _ _ hp3
      have na2 : p2 ≠ a := fun z => by rw [z, hA] at hp2'; cases hp2'
      have nd2 : p2 ≠ dx := fun z => by rw [z, hd] at hp2'; cases hp2'
      have na3 : p3 ≠ a := fun z => by rw [z, hA] at hp3'; cases hp3'
      have nd3 : p3 ≠ dx := fun z => by rw [z, hd] at hp3'; cases hp3'
      have n23 : p3 ≠ p2 := fun z => by rw [z, hp2] at np3; cases np3
      have l0 := fs_len hfs
      have l1 := putF_len f v1 gs
      have l2 := putF_len g (.ref p2) (putF f v1 gs)
      have q3 := g3.v
      obtain ⟨G1, w1, x1⟩ := fs_putd (f := f) (dp_mono ((g2.v.trans g3.v)) d1) hfs
      obtain ⟨G2, w2, x2⟩ := fs_puto (f := g) hp2' (da_mono g3.v d2) w1 (fun z => nS p2 (x1 _ z) (.inl rfl))
      obtain ⟨G3, w3, x3⟩ := fs_puto (f := h) hp3' d3 w2 (fun z => (x2 _ z).elim (fun z => nS p3 (x1 _ z) (.inr rfl)) n23)
      have inG : ∀ r, G3 r → G r ∨ r = p2 ∨ r = p3 := fun r hr => (x3 r hr).elim (fun z => (x2 r z).elim (fun z => .inl (x1 r z)) fun z => .inr (.inl z)) fun z => .inr (.inr z)
      have nA : ∀ r, G3 r → r ≠ a := fun r hr => (inG r hr).elim (fun z y => ga (by rw [← y]; exact z)) fun z => z.elim (fun z y => na2 (z.symm.trans y)) fun z y => na3 (z.symm.trans y)
      refine ⟨_, _, rfl, .ref a, hs, a, C, dx, gs, rfl, hA, k.cl, n1, by omega, _, _, rfl, .ref a, hs, a, C, dx, _, rfl, upd_same, k.cl, n2, by omega, _, _, rfl, .ref a, hs, a, C, dx, _, rfl, upd_same, k.cl, n3, by omega, rfl, ?_⟩
      rw [obSet_eq e0] at q
      refine q σ V3 _ (ch _ _ _ G3 (fun r hr _ _ => by rw [upd_ne hr, upd_ne hr, upd_ne hr]) upd_same (w3.frame .refl fun r hr => by rw [upd_ne (nA r hr), upd_ne (nA r hr), upd_ne (nA r hr)]) fun r hr => ⟨nA r hr, ?_, ?_⟩)
      · exact (inG r hr).elim (fun z y => gd (by rw [← y]; exact z)) fun z => z.elim (fun z y => nd2 (z.symm.trans y)) fun z y => nd3 (z.symm.trans y)
      · rcases inG r hr with z | z | z
        · exact .inl z
        · exact .inr (.inr ⟨.inl z, by rw [z]; exact g3.nw p2 vp2 (by rw [hp2]; simp), by rw [z]; exact E.new nn2⟩)
        · exact .inr (.inr ⟨.inr z, by rw [z]; exact vp3, by rw [z]; exact E.new nn3⟩)
    · cases hh
/-! ### freezing in the suite of an except clause -/
theorem hs_fr (l : Nat) {z : Addr} {F : DS} {st : Stmt} (h : PS X st (sH X.K i z F)) : PS X st (sH X.K i z (sFr l F)) := ps_w h fun D σ H ⟨h0, BV, B, V, ρ, r, E, hh, q⟩ => by
  obtain ⟨V', E'⟩ := E.freeze l
  exact ⟨h0, BV, B, V', _, r, E', hh, q⟩
end
end DL

namespace DL
open PySem PySem.Spec PyProof.Rows L2
/-! ### lists that a def gives out, changed by the caller -/
section
variable {X : Cx} {e a b : Expr} {es : List Expr} {pos : Pos} {st : Stmt} {rest : List Stmt}
/-- + of lists: a new one, owned -/
def oAddN (f g : DO) : DO := fun ρ => (f ρ).bind fun x => (g x.2).bind fun y => match x.1, y.1 with
  | .d (.list u), .d (.list v) => if u.length + v.length ≤ 100000 then some (.own (u ++ v), y.2) else none
  | _, _ => none
theorem o_addN {f g : DO} (ha : PE X a (tO X.K f)) (hb : PE X b (tO X.K g)) : PE X (.BinOp a .Add b pos) (tO X.K (oAddN f g)) := pe_w (pe_op op_catR ha hb) fun σ H Q ⟨BV, B, V, ρ, s, ρ', E, hf, q⟩ => by
  unfold oAddN at hf
  obtain ⟨⟨s1, ρ1⟩, h1, hf⟩ := bind_some hf
  obtain ⟨⟨s2, ρ2⟩, h2, hf⟩ := bind_some hf
  dsimp only at hf h2
  split at hf
  · rename_i u v
    split at hf
    · rename_i hl
      cases hf
      refine ⟨BV, B, V, ρ, _, ρ1, E, h1, fun x V1 H1 F1 x1 E1 O1 _ _ => ⟨BV, B, V1, ρ1, _, ρ', E1.env, h2, fun y V2 H2 F2 x2 E2 O2 _ _ => ?_⟩⟩
      have d1 := dp_mono x2 O1.1
      have d2 := O2.1
      cases d1 with
      | lst r1 a1 =>
        cases d2 with
        | lst r2 a2 =>
          refine ⟨_, _, _, _, rfl, rfl, E2.sub.rd r1, E2.sub.rd r2, by rw [da_len a1, da_len a2]; exact line_of hl, fun p n => ?_⟩
          exact q (.ref p) V2 _ (fun z => z = p) (x1.trans x2) ((E2.env.fresh (S' := fun z => z = p) fun z h => by rw [h]; exact n).grow (Gr.held E2.sub n)) (Own.lst upd_same (da_app a1 a2)) rfl fun z h => by
            rw [h]
            exact ⟨E2.sub.back n, E2.env.new n⟩
    · cases hf
  · cases hf
/-- a def of data that gives out a list of its own -/
def spN (K : PySem.W.Frag) (n N : Nat) (F : DS) : Sp := fun vs H Q _ => vs.length = n ∧ ∃ V ds xs ρ', Ex V H ∧ DqAll K V vs ds ∧ F (startD N ds) = some (.ro (.own xs) ρ') ∧ ∀ p us V' H', Gr V H V' H' → H p = none → V' p = none → H' p = some (.lst us) → DqAll K V' us xs → Q (.ref p) H'
theorem fnN {P : Program} {w : World} {K : PySem.W.Frag} {mg : Str → Option Value} {base : Heap} {x qual : Str} {st : Stmt} {f : Addr} {fd : FuncData} {N ps : List Str} {k : Nat} {F : DS} (Fu : Fun K x qual st f fd) (S : FnScope N ps (defScope st))
    (hb : ∀ (cdv : Value) (A : Around) (outer : List Env) (s : Shared) (H : Hp) (E : XK), Room k (A.deeper (envOfC qual (defScope st) s.heap.objs.size f cdv)) → PSs (cxOf CX0 P w K mg base N qual (defScope st) f cdv A outer s H E).nox (defBody st) (sD K F)) :
    FnOk P w K mg base CX0 (k + 1) f fd ps (spN K ps.length N.length F) := by
  refine Fu.ok S (fun vs H Q E h => h.1) fun cdv A outer s H vs Q E hr h => ⟨_, hb cdv A outer s H E hr, ?_⟩
  obtain ⟨_, V, ds, xs, ρ', s', da, hg, q⟩ := h
  refine ⟨V, Bs.of H, V, _, _, start_ok (N := N) s' da, hg, fun v σ' V' H' F S E' O hF => ?_⟩
  obtain ⟨p, us, rfl, h1, h2, h3⟩ := O
  have hp := hF p ((h3 p).2 rfl)
  exact q p us V' H' E'.gr hp.2.2.1 hp.2.1 h1 h2
/-- its call, read as data -/
def dCallN (N : Nat) (F : DS) (fs : DA) : DE := fun ρ => (fs ρ).bind fun ds => match F (startD N ds) with
  | some (.ro (.own xs) _) => some (.list xs)
  | _ => none
theorem dCallN_some {N : Nat} {F : DS} {fs : DA} {ρ : List Sl} {d : PyData} (h : dCallN N F fs ρ = some d) : ∃ ds xs ρ', fs ρ = some ds ∧ F (startD N ds) = some (.ro (.own xs) ρ') ∧ d = .list xs := by
  unfold dCallN at h
  obtain ⟨ds, h1, h⟩ := bind_some h
  split at h
  · rename_i xs ρ' e
    cases h
    exact ⟨ds, xs, ρ', h1, e, rfl⟩
  · cases h
theorem de_callN {k N : Nat} {f : Addr} {fd : FuncData} {ps : List Str} {x : Str} {p : Pos} {F : DS} {fs : DA} (Fn : FnOk X.prog X.w X.K X.mg X.base CX0 k f fd ps (spN X.K ps.length N F)) (hr : Room k X.A) (hg : Gl X x) (hm : X.mg x = some (.ref f)) (hk : PySem.W.keepIn X.K (.ref f) = true) (hb : Binds X.K fd ps [])
    (hlen : (e :: es).length = ps.length) (ha : PA X (e :: es) (tDA X.K fs)) (hfs : ∀ ρ ds, fs ρ = some ds → ds.length = (e :: es).length) (hdb : (x == ("__debug__" : Str)) = false := by decide)
    (he : starEach (e :: es) X.env = (false, eval e X.env) :: starEach es X.env := by rfl) (hpl : (backTo pos (starEach es X.env)).any (·.1) = false := by rfl) : PE X (.Call (.Name x p) (e :: es) [] pos) (tD X.K (dCallN N F fs)) :=
  pe_w (pe_call Fn hr hg hm hk hb .nil (E := E0) pass0 ha hdb he hpl) fun σ H Q ⟨BV, B, V, ρ, z, E, hz, q⟩ => by
    obtain ⟨ds, xs, ρ', h1, h2, rfl⟩ := dCallN_some hz
    exact ⟨BV, B, V, ρ, ds, E, h1, fun vs V1 H1 G1 D1 => by
      show spN X.K ps.length N F (vs ++ []) H1 Q E0
      rw [List.append_nil]
      exact ⟨by rw [da_len D1, hfs ρ ds h1, hlen], V1, ds, xs, ρ', G1.sub, D1, h2, fun p us V' H' g n vn hp da => q _ _ _ (G1.trans (g.freeze n hp vn)) (.lst (.inl upd_same) (da_mono (Ex.new vn) da))⟩⟩
end
/-! ### a narrow view: what is new -/
section
variable {K : PySem.W.Frag} {V H V' H' : Hp} {qs : List Str}
/-- texts, and lists of the texts qs -/
def flat (qs : List Str) : List PyData → Prop
  | [] => True
  | .str _ :: r => flat qs r
  | .list xs :: r => xs = qs.map PyData.str ∧ flat qs r
  | _ => False
def isQ (V : Hp) (qs : List Str) (p : Addr) : Prop := V p = some (.lst (qs.map L2.V.str)) ∨ ∃ o, V p = some (.frz o (.lst (qs.map L2.V.str)))
open Classical in
noncomputable def nar (V : Hp) (qs : List Str) : Hp := fun p => if isQ V qs p then V p else none
theorem nar_in {p : Addr} (h : isQ V qs p) : nar V qs p = V p := if_pos h
theorem nar_ex : Ex (nar V qs) V := fun p o h => by
  unfold nar at h
  split at h
  · exact h
  · cases h
theorem nar_isQ {p : Addr} {o : HO} (h : nar V qs p = some o) : isQ V qs p := by
  unfold nar at h
  split at h
  · assumption
  · cases h
theorem da_strs_eq : ∀ {ys : List Str} {ds : List PyData}, DqAll K V (ys.map L2.V.str) ds → ds = ys.map PyData.str
  | [], _, .nil => rfl
  | y :: ys, _, .cons a b => by
    cases a
    rw [List.map_cons, da_strs_eq b]
theorem da_strs_v : ∀ {vs : List L2.V} {ys : List Str}, DqAll K V vs (ys.map PyData.str) → vs = ys.map L2.V.str
  | _, [], h => by cases h; rfl
  | _, y :: ys, h => by
    cases h with
    | cons a b =>
      cases a
      rw [List.map_cons, da_strs_v b]
theorem nar_da : ∀ {vs : List L2.V} {ds : List PyData}, DqAll K V vs ds → flat qs ds → DqAll K (nar V qs) vs ds
  | _, _, .nil, _ => .nil
  | _, _, .cons (d := d) a b, h => by
    cases a with
    | str x => exact .cons (.str x) (nar_da b h)
    | lst r c =>
      obtain ⟨h1, h2⟩ := h
      subst h1
      have e := da_strs_v c
      subst e
      refine .cons (.lst ?_ (da_strs qs)) (nar_da b h2)
      rcases r with r | ⟨o, r⟩
      · exact .inl (by rw [nar_in (.inl r)]; exact r)
      · exact .inr ⟨o, by rw [nar_in (.inr ⟨o, r⟩)]; exact r⟩
    | _ => exact h.elim
/-- a list that is none of the old ones is new, and may be changed -/
theorem new_of {a : Addr} {us : List L2.V} {xs : List PyData} (g : Gr (nar V qs) H V' H') (r : Rd V' a (.lst us)) (d : DqAll K V' us xs) (n : xs ≠ qs.map PyData.str) : H a = none ∧ V' a = some (.lst us) := by
  have no : nar V qs a = none := by
    cases k : nar V qs a with
    | none => rfl
    | some o =>
      exfalso
      have hv := g.v a o k
      have hq := nar_isQ k
      have : us = qs.map L2.V.str := by
        rw [nar_in hq] at k
        rcases hq with q | ⟨ob, q⟩
        · rw [q] at k; cases k
          rcases r with r | ⟨o', r⟩
          · rw [hv] at r; cases r; rfl
          · rw [hv] at r; cases r
        · rw [q] at k; cases k
          rcases r with r | ⟨o', r⟩
          · rw [hv] at r; cases r
          · rw [hv] at r; cases r; rfl
      subst this
      exact n (da_strs_eq d)
  have some_ : V' a ≠ none := by rcases r with r | ⟨o, r⟩ <;> rw [r] <;> simp
  refine ⟨?_, ?_⟩
  · cases k : H a with
    | none => rfl
    | some o => exact absurd (g.nw a no (by rw [k]; simp)) some_
  · rcases r with r | ⟨o, r⟩
    · exact r
    · have := g.nf a o _ r
      rw [no] at this
      cases this
end
/-! ### a def that changes lists -/
def Lsts (H : Hp) (ps : List Addr) (n : Nat) : Prop := ∀ a ∈ ps, ∃ us, H a = some (.lst us) ∧ us.length ≤ n
def spChg : Sp := fun vs H Q _ => vs.length = 1 ∧ ∃ p ps, vs = [.ref p] ∧ H p = some (.lst (ps.map L2.V.ref)) ∧ p ∉ ps ∧ ps.length ≤ 100 ∧ Lsts H ps 1000 ∧ ∀ H', (∀ a, a ∉ ps → H' a = H a) → Q (.bl true) H'
theorem Lsts.put {H : Hp} {ps : List Addr} {n : Nat} {a : Addr} {us : List L2.V} (h : Lsts H ps n) (hl : us.length ≤ n + 2) : Lsts (upd H a (.lst us)) ps (n + 2) := fun b hb => by
  by_cases k : b = a
  · subst k; exact ⟨us, upd_same, hl⟩
  · obtain ⟨us', h1, h2⟩ := h b hb
    exact ⟨us', by rw [upd_ne k]; exact h1, by omega⟩
theorem chg_go {K : PySem.W.Frag} {D : Ends} {σ : L2.St} {H : Hp} {p : Addr} {ps : List Addr} {tA : TS} (hσ : σ[0]? = some (some (.ref p))) (hl : σ.length = 2) (hp : H p = some (.lst (ps.map L2.V.ref))) (np : p ∉ ps) (hn : ps.length ≤ 100) (hL : Lsts H ps 1000)
    (hb : ∀ (D : Ends) (σ : L2.St) (H : Hp) (a : Addr) (us : List L2.V), σ[1]? = some (some (.ref a)) → H a = some (.lst us) → us.length ≤ 2000 → (∀ ws, ws.length = us.length + 2 → D.nx σ (upd H a (.lst ws))) → tA D σ H)
    (q : ∀ σ' H', (∀ a, a ∉ ps → H' a = H a) → D.nx σ' H') : tFor (iList K (tVar 0)) (gName 1) tA D σ H := by
  refine ⟨.ref p, hσ, p, rfl, ⟨_, .inl (.inl hp)⟩, fun i m σ' H' => m + i = ps.length ∧ σ'[0]? = some (some (.ref p)) ∧ σ'.length = 2 ∧ H' p = some (.lst (ps.map L2.V.ref)) ∧ (∀ a, a ∉ ps → H' a = H a) ∧ Lsts H' ps (1000 + 2 * i), ⟨ps.length, by omega, hσ, hl, hp, fun _ _ => rfl, hL⟩, ?_⟩
  rintro i m σ' H' ⟨e1, e2, e3, e4, e5, e6⟩
  have one : ∀ xs, SqL K H' p xs → SqL K H' p (ps.map L2.V.ref) := fun _ _ => .inl (.inl e4)
  rcases Nat.lt_or_ge i ps.length with hi | hi
  · refine .inr ⟨⟨_, .ref ps[i], .inl (.inl e4), by simp [hi]⟩, fun σ'' H'' => ∃ m', m' < m ∧ (m' + (i + 1) = ps.length ∧ σ''[0]? = some (some (.ref p)) ∧ σ''.length = 2 ∧ H'' p = some (.lst (ps.map L2.V.ref)) ∧ (∀ a, a ∉ ps → H'' a = H a) ∧ Lsts H'' ps (1000 + 2 * (i + 1))), fun σ'' H'' h => h, ?_⟩
    rintro x H'' ⟨rfl, hx⟩
    have ex := hx _ (.inl (.inl e4))
    rw [List.getElem?_map, List.getElem?_eq_getElem hi] at ex
    cases ex
    have hm : ps[i] ∈ ps := List.getElem_mem hi
    obtain ⟨us, h1, h2⟩ := e6 _ hm
    refine hb _ _ _ ps[i] us (by rw [List.getElem?_set_self (by omega)]) h1 (by omega) fun ws hw => ⟨m - 1, by omega, by omega, ?_, by simp [e3], ?_, fun a ha => ?_, ?_⟩
    · rw [List.getElem?_set_ne (by decide)]; exact e2
    · rw [upd_ne fun z => np (by rw [z]; exact hm)]; exact e4
    · rw [upd_ne fun z => ha (by rw [z]; exact hm)]; exact e5 a ha
    · exact e6.put (by omega)
  · exact .inl ⟨⟨_, .inl (.inl e4), by rw [List.length_map]; exact hi⟩, q σ' H' e5⟩
/-- the body of such a def -/
theorem fnChg {P : Program} {w : World} {K : PySem.W.Frag} {mg : Str → Option Value} {base : Heap} {x qual : Str} {st : Stmt} {f : Addr} {fd : FuncData} {k : Nat} {tA : TS} (Fu : Fun K x qual st f fd) (S : FnScope ["rows", "some"] ["rows"] (defScope st))
    (hb : ∀ (cdv : Value) (A : Around) (outer : List Env) (s : Shared) (H : Hp) (E : XK), Room k (A.deeper (envOfC qual (defScope st) s.heap.objs.size f cdv)) → PSs (cxOf CX0 P w K mg base ["rows", "some"] qual (defScope st) f cdv A outer s H E).nox (defBody st) (tSeq (tFor (iList K (tVar 0)) (gName 1) tA) (tRet (tC (.bl true)))))
    (ha : ∀ (D : Ends) (σ : L2.St) (H : Hp) (a : Addr) (us : List L2.V), σ[1]? = some (some (.ref a)) → H a = some (.lst us) → us.length ≤ 2000 → (∀ ws, ws.length = us.length + 2 → D.nx σ (upd H a (.lst ws))) → tA D σ H) :
    FnOk P w K mg base CX0 (k + 1) f fd ["rows"] spChg := by
  refine Fu.ok S (fun vs H Q E h => h.1) fun cdv A outer s H vs Q E hr h => ⟨_, hb cdv A outer s H E hr, ?_⟩
  obtain ⟨_, p, ps, rfl, h1, h2, h3, h4, q⟩ := h
  exact chg_go (p := p) (ps := ps) rfl rfl h1 h2 h3 h4 ha fun σ' H' h => q H' h
/-- what its turns do -/
abbrev tTurn (K : PySem.W.Frag) : TS := tSeq (tIfS (tNot (tB (tCB (rIsi K) (tCons (tVar 1) (tCons (tC (.ty "list")) tNil))))) (tRet (tC (.bl false))) tNext) (tSeq (tDrop (tBM K "list" rAppend (tVar 1) (tCons (tC .non) tNil)))
  (tDrop (tBM K "list" (fun x vs H Q => ∃ (l : Addr) (xs : List V) (i : Int) (y : V), x = .ref l ∧ vs = [.int i, y] ∧ H l = some (.lst xs) ∧ xs.length < sizeLine ∧ 0 ≤ i ∧ i < 2 ^ 63 ∧ Q .non (upd H l (.lst (xs.take i.toNat ++ [y] ++ xs.drop i.toNat)))) (tVar 1) (tCons (tC (.int 0)) (tCons (tC (.int 7)) tNil)))))
theorem turn_ok {K : PySem.W.Frag} (D : Ends) (σ : L2.St) (H : Hp) (a : Addr) (us : List L2.V) (h1 : σ[1]? = some (some (.ref a))) (h2 : H a = some (.lst us)) (h3 : us.length ≤ 2000) (q : ∀ ws, ws.length = us.length + 2 → D.nx σ (upd H a (.lst ws))) : tTurn K D σ H := by
  have ln : ∀ n, n < 100000 → n < sizeLine := fun n h => line_lt h
  refine ⟨.ref a, h1, .ref a, .ty "list", .type "list", .type "list", true, rfl, .ty "list", .base (.lst h2), kit_ty (by decide +kernel), true, rfl, ?_⟩
  show (if (!true) = true then _ else _)
  rw [if_neg (by decide)]
  refine ⟨.ref a, h1, .inl ⟨rfl, _, .inl (.inl h2)⟩, a, us, .non, rfl, rfl, h2, ln _ (by omega), ?_⟩
  have e : upd H a (.lst (us ++ [.non])) a = some (.lst (us ++ [.non])) := upd_same
  refine ⟨.ref a, h1, .inl ⟨rfl, _, .inl (.inl e)⟩, a, us ++ [.non], 0, .int 7, rfl, rfl, e, ln _ (by simp; omega), by decide, by decide, ?_⟩
  have := q ((us ++ [L2.V.non]).take (0 : Int).toNat ++ [.int 7] ++ (us ++ [L2.V.non]).drop (0 : Int).toNat) (by simp)
  have u : upd (upd H a (.lst (us ++ [.non]))) a (.lst ((us ++ [L2.V.non]).take (0 : Int).toNat ++ [.int 7] ++ (us ++ [L2.V.non]).drop (0 : Int).toNat)) = upd H a (.lst ((us ++ [L2.V.non]).take (0 : Int).toNat ++ [.int 7] ++ (us ++ [L2.V.non]).drop (0 : Int).toNat)) := by
    funext z
    by_cases k : z = a
    · subst k; rw [upd_same, upd_same]
    · rw [upd_ne k, upd_ne k, upd_ne k]
  rw [u]
  exact this
end DL

namespace DL
open PySem PySem.Spec PyProof.Rows L2
/-! ### new rows handed to a def that changes them -/
def rowOk (qs : List Str) (r : PyData) : Prop := ∃ es, r = .list es ∧ es ≠ qs.map PyData.str ∧ es.length ≤ 1000
def rowsOk (ds xs : List PyData) : Prop := ∃ qs, flat qs ds ∧ xs.length ≤ 100 ∧ ∀ r ∈ xs, rowOk qs r
open Classical in
noncomputable def dChg (N : Nat) (F : DS) (fs : DA) : DE := fun ρ => (fs ρ).bind fun ds => match F (startD N ds) with
  | some (.ro (.own xs) _) => if rowsOk ds xs then some (.bool true) else none
  | _ => none
theorem dChg_some {N : Nat} {F : DS} {fs : DA} {ρ : List Sl} {d : PyData} (h : dChg N F fs ρ = some d) : ∃ ds xs ρ', fs ρ = some ds ∧ F (startD N ds) = some (.ro (.own xs) ρ') ∧ rowsOk ds xs ∧ d = .bool true := by
  unfold dChg at h
  obtain ⟨ds, h1, h⟩ := bind_some h
  split at h
  · rename_i xs ρ' e
    split at h
    · rename_i hk
      cases h
      exact ⟨ds, xs, ρ', h1, e, hk, rfl⟩
    · cases h
  · cases h
theorem dChg_ok {N : Nat} {F : DS} {fs : DA} {ρ : List Sl} {ds xs : List PyData} {ρ' : List Sl} (h1 : fs ρ = some ds) (h2 : F (startD N ds) = some (.ro (.own xs) ρ')) (h3 : rowsOk ds xs) : dChg N F fs ρ = some (.bool true) := by
  unfold dChg
  rw [h1, Option.bind_some, h2]
  exact if_pos h3
theorem rows_new {K : PySem.W.Frag} {V H V' H' : Hp} {qs : List Str} (g : Gr (nar V qs) H V' H') : ∀ {us : List L2.V} {xs : List PyData}, DqAll K V' us xs → (∀ r ∈ xs, rowOk qs r) → ∃ ps : List Addr, us = ps.map L2.V.ref ∧ ps.length = xs.length ∧ ∀ a ∈ ps, H a = none ∧ V' a ≠ none ∧ ∃ ws, H' a = some (.lst ws) ∧ ws.length ≤ 1000
  | _, _, .nil, _ => ⟨[], rfl, rfl, fun a h => by cases h⟩
  | _, _, .cons (d := d) (ds := ds) x r, h => by
    obtain ⟨ps, e1, e2, e3⟩ := rows_new g r fun y hy => h y (List.mem_cons_of_mem _ hy)
    obtain ⟨es, k1, k2, k3⟩ := h d List.mem_cons_self
    subst k1
    cases x with
    | lst rd da =>
      rename_i a ws
      have n := new_of g rd da k2
      refine ⟨a :: ps, by rw [e1]; rfl, by simp [e2], fun b hb => ?_⟩
      rcases List.mem_cons.mp hb with z | z
      · subst z
        exact ⟨n.1, by rw [n.2]; simp, ws, g.sub _ _ n.2, by rw [da_len da]; exact k3⟩
      · exact e3 b z
section
variable {X : Cx} {e a b : Expr} {es : List Expr} {pos : Pos} {st : Stmt} {rest : List Stmt}
theorem de_chg {k k' N : Nat} {f f' : Addr} {fd fd' : FuncData} {ps : List Str} {x y : Str} {p p' pos' : Pos} {F : DS} {fs : DA}
    (Fc : FnOk X.prog X.w X.K X.mg X.base CX0 k' f' fd' ["rows"] spChg) (hr' : Room k' X.A) (hg' : Gl X y) (hm' : X.mg y = some (.ref f')) (hk' : PySem.W.keepIn X.K (.ref f') = true) (hb' : Binds X.K fd' ["rows"] [])
    (Fn : FnOk X.prog X.w X.K X.mg X.base CX0 k f fd ps (spN X.K ps.length N F)) (hr : Room k X.A) (hg : Gl X x) (hm : X.mg x = some (.ref f)) (hk : PySem.W.keepIn X.K (.ref f) = true) (hb : Binds X.K fd ps [])
    (hlen : (e :: es).length = ps.length) (ha : PA X (e :: es) (tDA X.K fs)) (hfs : ∀ ρ ds, fs ρ = some ds → ds.length = (e :: es).length) (hdb : (x == ("__debug__" : Str)) = false := by decide) (hdb' : (y == ("__debug__" : Str)) = false := by decide)
    (he : starEach (e :: es) X.env = (false, eval e X.env) :: starEach es X.env := by rfl) (hpl : (backTo pos (starEach es X.env)).any (·.1) = false := by rfl)
    (hs : starEach [Expr.Call (.Name x p) (e :: es) [] pos] X.env = (false, eval (.Call (.Name x p) (e :: es) [] pos) X.env) :: starEach [] X.env := by rfl) (hpl' : (backTo pos' (starEach [] X.env)).any (·.1) = false := by rfl) :
    PE X (.Call (.Name y p') [.Call (.Name x p) (e :: es) [] pos] [] pos') (tD X.K (dChg N F fs)) :=
  pe_w (pe_call Fc hr' hg' hm' hk' hb' .nil (E := E0) pass0 (pa_cons (pe_call Fn hr hg hm hk hb .nil (E := E0) pass0 ha hdb he hpl) pa_nil hs) hdb' hs hpl') fun σ H Q ⟨BV, B, V, ρ, z, E, hz, q⟩ => by
    obtain ⟨ds, xs, ρ', h1, h2, ⟨qs, h3, h4, h5⟩, rfl⟩ := dChg_some hz
    exact ⟨BV, B, V, ρ, ds, E, h1, fun vs V1 H1 G1 D1 => by
      show spN X.K ps.length N F (vs ++ []) H1 (fun v H2 => spChg [v] H2 Q E0) E0
      rw [List.append_nil]
      refine ⟨by rw [da_len D1, hfs ρ ds h1, hlen], nar V1 qs, ds, xs, ρ', nar_ex.trans G1.sub, nar_da D1 h3, h2, fun p us V' H' g n vn hp da => ?_⟩
      obtain ⟨ps, rfl, e2, e3⟩ := rows_new g da h5
      refine ⟨rfl, p, ps, rfl, hp, fun z => (e3 p z).2.1 vn, by omega, fun a ha => (e3 a ha).2.2, fun H'' kp => ?_⟩
      refine q (.bl true) V1 H'' (G1.trans (Gr.same G1.sub fun a o h => ?_)) (.bl true)
      have na : a ∉ ps := fun z => by rw [(e3 a z).1] at h; cases h
      rw [kp a na]
      exact g.h a o h⟩
end
/-! ### x = f(..); x[0].append(9) -/
def inL (ms : List Int) : PyData := .list (ms.map PyData.int)
def altD (m0 : List Int) (rest : List (List Int)) (d : PyData) : Prop := ∃ rest', d = .list (inL (m0 ++ [9]) :: rest') ∧ rest'.length = rest.length ∧ ∀ x ∈ rest', x ∈ rest.map inL ∨ x = inL (m0 ++ [9])
def toldOk (g : List PyData → Option PyData) (fs : DA) (i : Nat) (r : Fl) (G : DS) (ρ : List Sl) : Prop := ∃ ds qs m0 rest, fs ρ = some ds ∧ i < ρ.length ∧ flat qs ds ∧ qs ≠ [] ∧ g ds = some (.list (inL m0 :: rest.map inL)) ∧ m0.length ≤ 1000 ∧ ∀ d, altD m0 rest d → G (ρ.set i (.d d)) = some r
open Classical in
noncomputable def sTold (g : List PyData → Option PyData) (fs : DA) (i : Nat) (r : Fl) (G : DS) : DS := fun ρ => if toldOk g fs i r G ρ then some r else none
theorem ints_v {K : PySem.W.Frag} {V V' : Hp} : ∀ {us : List L2.V} {ms : List Int}, DqAll K V us (ms.map PyData.int) → us = ms.map L2.V.int
  | _, [], h => by cases h; rfl
  | _, m :: ms, h => by
    cases h with
    | cons a b =>
      cases a
      rw [List.map_cons, ints_v (V' := V') b]
theorem ints_ne {qs : List Str} {ms : List Int} (h : qs ≠ []) : ms.map PyData.int ≠ qs.map PyData.str := by
  cases qs with
  | nil => exact absurd rfl h
  | cons q qs =>
    cases ms with
    | nil => intro z; cases z
    | cons m ms => intro z; cases z
/-- the view behind the change -/
noncomputable def V3 (V1 V' : Hp) (p0 : Addr) (us : List L2.V) : Hp := fun a => match V1 a with
  | some o => some o
  | none => if a = p0 then some (.lst us) else V' a
theorem told_rest {K : PySem.W.Frag} {V1 H1 V' H' : Hp} {qs : List Str} {p0 : Addr} {m0 : List Int} (hq : qs ≠ []) (s : Ex V1 H1) (g : Gr (nar V1 qs) H1 V' H') : ∀ {us : List L2.V} {rest : List (List Int)}, DqAll K V' us (rest.map inL) →
    ∃ rest', DqAll K (V3 V1 V' p0 ((m0 ++ [9]).map L2.V.int)) us rest' ∧ rest'.length = rest.length ∧ ∀ x ∈ rest', x ∈ rest.map inL ∨ x = inL (m0 ++ [9])
  | _, [], h => by
    cases h
    exact ⟨[], .nil, rfl, fun x h => by cases h⟩
  | _, m :: rest, h => by
    cases h with
    | cons a b =>
      obtain ⟨rest', e1, e2, e3⟩ := told_rest (p0 := p0) (m0 := m0) hq s g b
      cases a with
      | lst rd da =>
        rename_i vr pj uj
        have n := new_of g rd da (ints_ne hq)
        have v1 : V1 pj = none := s.back n.1
        have eu := ints_v (V' := V') da
        by_cases k : pj = p0
        · refine ⟨inL (m0 ++ [9]) :: rest', .cons (.lst (.inl ?_) (da_ints _)) e1, by simp [e2], fun x hx => ?_⟩
          · unfold V3
            rw [v1]
            exact if_pos k
          · rcases List.mem_cons.mp hx with z | z
            · exact .inr z
            · exact (e3 x z).imp (fun h => List.mem_cons_of_mem _ h) id
        · refine ⟨inL m :: rest', .cons (.lst (xs := uj) (.inl ?_) (by rw [eu]; exact da_ints _)) e1, by simp [e2], fun x hx => ?_⟩
          · unfold V3
            rw [v1]
            show (if pj = p0 then _ else V' pj) = _
            rw [if_neg k]
            exact n.2
          · rcases List.mem_cons.mp hx with z | z
            · exact .inl (by rw [z]; exact List.mem_cons_self)
            · exact (e3 x z).imp (fun h => List.mem_cons_of_mem _ h) id
section
variable {X : Cx} {e a b : Expr} {es : List Expr} {pos : Pos} {st : Stmt} {rest : List Stmt}
theorem dss_told {k i : Nat} {f : Addr} {fd : FuncData} {ps : List Str} {x y : Str} {p p1 p2 p3 p4 p5 p6 p7 p8 pos' : Pos} {j1 j2 : Nat} {g : List PyData → Option PyData} {fs : DA} {r : Fl} {G : DS}
    (Fn : FnOk X.prog X.w X.K X.mg X.base CX0 k f fd ps (spD X.K ps.length g)) (hr : Room k X.A) (hg : Gl X x) (hm : X.mg x = some (.ref f)) (hk : PySem.W.keepIn X.K (.ref f) = true) (hb : Binds X.K fd ps [])
    (hlen : (e :: es).length = ps.length) (ha : PA X (e :: es) (tDA X.K fs)) (hfs : ∀ ρ ds, fs ρ = some ds → ds.length = (e :: es).length)
    (hN : X.N.Nodup) (hi : X.N[i]? = some y) (hy : Loc X.env.scope y) (hrest : PSs X rest (sD X.K G)) (hv : PE X (.Name y p2) (tVar i))
    (hdb : (x == ("__debug__" : Str)) = false := by decide)
    (he : starEach (e :: es) X.env = (false, eval e X.env) :: starEach es X.env := by rfl) (hpl : (backTo pos (starEach es X.env)).any (·.1) = false := by rfl)
    (hs : swapsWith (.Call (.Name x p) (e :: es) [] pos) (some (.Name y p1)) pos'.line X.env = pure false := by rfl) (hf : X.fn y = true ∨ X.env.scope.names.lookup y = some .local := by first | exact .inl rfl | exact .inr rfl | assumption)
    (hsub : PlainIx (.Constant (.int 0) j1 p3) := by exact fun _ _ => rfl)
    (hbase : attributeBase (.Subscript (.Name y p2) (.Constant (.int 0) j1 p3) p4) "append" X.env (eval (.Subscript (.Name y p2) (.Constant (.int 0) j1 p3) p4) X.env) = eval (.Subscript (.Name y p2) (.Constant (.int 0) j1 p3) p4) X.env := by rfl)
    (hfew : ((backTo p7 (starEach [.Constant (.int 9) j2 p6] X.env)).all (fun x => !x.1) && (backToKw p7 (keywordEach [] X.env)).all (fun x => x.1.isSome)
      && decide (([.Constant (.int 9) j2 p6] : List Expr).length + ([] : List Keyword).length + (if ([] : List Keyword).isEmpty then 0 else 1) < 30)) = true := by rfl)
    (hline : (p5.endLine == p7.line) = true := by rfl) (hs2 : starEach [.Constant (.int 9) j2 p6] X.env = [(false, eval (.Constant (.int 9) j2 p6) X.env)] := by rfl) :
    PSs X (.Assign [.Name y p1] (.Call (.Name x p) (e :: es) [] pos) pos' :: .Expr (.Call (.Attribute (.Subscript (.Name y p2) (.Constant (.int 0) j1 p3) p4) "append" p5) [.Constant (.int 9) j2 p6] [] p7) p8 :: rest) (sD X.K (sTold g fs i r G)) :=
  pss_w (pss_cons (ps_set hN hi hy (pe_call Fn hr hg hm hk hb .nil (E := E0) pass0 ha hdb he hpl) hs hf)
    (pss_cons (ps_expr (pe_bm PySem.F.plainAttrs_list PySem.F.slot_list_append PySem.F.type_list_append mt_append (pe_ix ix_seq hv pe_int hsub) (pa_cons pe_int pa_nil hs2) hbase hfew hline hs2 rfl)) hrest)) fun D σ H ⟨BV, B, V, ρ, r', E, h, q⟩ => by
    unfold sTold at h
    split at h
    · rename_i ok
      cases h
      obtain ⟨ds, qs, m0, rs, h1, hl, h2, h3, h4, h5, h6⟩ := ok
      refine ⟨BV, B, V, ρ, ds, E, h1, fun vs V1 H1 G1 D1 => ?_⟩
      show spD X.K ps.length g (vs ++ []) H1 _ E0
      rw [List.append_nil]
      refine ⟨by rw [da_len D1, hfs ρ ds h1, hlen], nar V1 qs, ds, _, nar_ex.trans G1.sub, nar_da D1 h2, h4, fun v V' H' g dq => ?_⟩
      cases dq with
      | lst rd da =>
        rename_i pa vs'
        cases da with
        | cons d0 dr =>
          rename_i v0 vr
          cases d0 with
          | lst rd0 da0 =>
            rename_i p0 us
            have na := new_of g rd (DqAll.cons (.lst rd0 da0) dr) (by
              cases qs with
              | nil => exact absurd rfl h3
              | cons q qs => intro z; cases z)
            have n0 := new_of g rd0 da0 (ints_ne h3)
            have eu := ints_v (V' := V') da0
            have ne : pa ≠ p0 := fun z => by
              have a1 := na.2
              rw [z, n0.2] at a1
              cases a1
              cases m0 with
              | nil => cases eu
              | cons m m0 => cases eu
            have hp0 : H' p0 = some (.lst us) := g.sub _ _ n0.2
            have hpa : H' pa = some (.lst (.ref p0 :: vr)) := g.sub _ _ na.2
            have E1 := E.grow G1
            have at0 : atI (L2.V.ref p0 :: vr) 0 = some (L2.V.ref p0) := by
              unfold atI ixN
              rw [if_pos (by decide), if_pos (by rw [List.length_cons]; omega)]
              rfl
            have sl : (σ.set i (some (L2.V.ref pa)))[i]? = some (some (.ref pa)) := List.getElem?_set_self (E.lt hl)
            refine ⟨.ref pa, sl, .inl ⟨pa, _, 0, .ref p0, rfl, rfl, .inl (.inl hpa), at0, ?_⟩⟩
            refine ⟨.inl ⟨rfl, _, .inl (.inl hp0)⟩, p0, us, .int 9, rfl, rfl, hp0, line_lt (by rw [eu, List.length_map]; omega), ?_⟩
            obtain ⟨rest', e1, e2, e3⟩ := told_rest (p0 := p0) (m0 := m0) h3 G1.sub g dr
            have v1a : V1 pa = none := G1.sub.back na.1
            have v10 : V1 p0 = none := G1.sub.back n0.1
            have ew : us ++ [L2.V.int 9] = (m0 ++ [9]).map L2.V.int := by rw [eu]; simp
            have gr : Gr V1 H1 (V3 V1 V' p0 ((m0 ++ [9]).map L2.V.int)) (upd H' p0 (.lst (us ++ [.int 9]))) := by
              refine ⟨fun a o z => by unfold V3; rw [z], fun a o z => ?_, fun a o z => ?_, fun a z1 z2 => ?_, fun a o u z => ?_⟩
              · rw [upd_ne (ne_of_none z n0.1)]
                exact g.h a o z
              · unfold V3 at z
                split at z
                · rename_i o' hz
                  cases z
                  have hh := G1.sub a o hz
                  rw [upd_ne (ne_of_none hh n0.1)]
                  exact g.h a o hh
                · split at z
                  · rename_i k
                    cases z
                    rw [k, upd_same, ew]
                  · rename_i k
                    rw [upd_ne k]
                    exact g.sub a o z
              · unfold V3
                rw [z1]
                show (if a = p0 then _ else V' a) = none
                rw [if_neg fun k => z2 (by rw [k]; exact n0.1)]
                refine g.nw a ?_ z2
                cases k : nar V1 qs a with
                | none => rfl
                | some o => rw [nar_ex a o k] at z1; cases z1
              · unfold V3 at z
                split at z
                · rename_i o' hz
                  cases z
                  exact hz
                · rename_i hz
                  split at z
                  · cases z
                  · exact nar_ex a _ (g.nf a o u z)
            have dq' : Dq X.K (V3 V1 V' p0 ((m0 ++ [9]).map L2.V.int)) (.ref pa) (.list (inL (m0 ++ [9]) :: rest')) := by
              refine .lst (xs := .ref p0 :: vr) (.inl ?_) (.cons (.lst (xs := (m0 ++ [9]).map L2.V.int) (.inl ?_) (da_ints _)) e1)
              · unfold V3
                rw [v1a]
                show (if pa = p0 then _ else V' pa) = _
                rw [if_neg ne]
                exact na.2
              · unfold V3
                rw [v10]
                exact if_pos rfl
            exact ⟨BV, B, _, _, r, (E1.grow gr).set dq' i, h6 _ ⟨rest', rfl, e2, e3⟩, q⟩
    · cases h
end
end DL

namespace DL
open PySem PySem.Spec PyProof.Rows L2 LamX NdefX
/-! ### lambdas as objects -/
/-- the object at f is the lambda F, its body b -/
def LamO (f : Addr) (F : NF) (b : Expr) : HO := .ext fun h => ∃ pm ctv : Value, h.get? f = some (PySem.W.kla_obj F.name F.qual F.params b F.scope F.cl pm F.c ctv)
theorem lamO_at {P : Program} {w : World} {H : Hp} {h : Heap} {f : Addr} {F : NF} {b : Expr} (hok : HOk P w H h) (e : H f = some (LamO f F b)) : ∃ pm ctv : Value, h.get? f = some (PySem.W.kla_obj F.name F.qual F.params b F.scope F.cl pm F.c ctv) := (hok f _ e).1
theorem lamO_ne {f : Addr} {F : NF} {b : Expr} (ps : Array Value) : LamO f F b ≠ .tbl ps := fun z => by unfold LamO at z; cases z
section
variable {X : Cx} {pins : List (Addr × Obj)} {σ : L2.St} {H : Hp} {s : Shared}
theorem inv_lam {F : NF} {b : Expr} {t' : Nat} {pm ctv : Value} (I : Inv X pins σ H s) :
    Inv X pins σ (upd H s.heap.objs.size (LamO s.heap.objs.size F b)) { s with heap := s.heap.push (PySem.W.kla_obj F.name F.qual F.params b F.scope F.cl pm F.c ctv), toks := t' } := by
  have g : (s.heap.push (PySem.W.kla_obj F.name F.qual F.params b F.scope F.cl pm F.c ctv)).get? s.heap.objs.size = some (PySem.W.kla_obj F.name F.qual F.params b F.scope F.cl pm F.c ctv) := Heap.get?_push_size _ rfl
  exact I.laid (a := s.heap.objs.size) (fun _ _ z => Heap.get?_push_of_some _ z) (Nat.le_refl _) ⟨⟨pm, ctv, g⟩, ⟨_, g⟩, fun _ _ ⟨p, t, z⟩ st => ⟨p, t, st _ z⟩⟩
/-- the words of a lambda that X makes -/
def lamF (X : Cx) (params : Arguments) (scope : Scope) (c : Addr) : NF := ⟨"<lambda>", X.env.qual ++ "<lambda>", params, [], scope, cloFrom X.env.cells scope.names [], c⟩
/-- a lambda is made -/
theorem lam_mk {T : List NTab} {nm : Nat → Nat → Str} {c P : Addr} {ar : Arguments} {b : Expr} {sc : Scope} {pos : Pos} {E Q : Value → Shared → Prop} (I : Inv X pins σ H s) (TB : TabB X.base X.mg c P) (hcode : X.env.code = .ref c)
    (hm : (P, nm) ∈ T) (hn : nm pos.line pos.col = X.env.qual ++ "<lambda>") (hu : ∀ p ∈ T, p.1 = P → p.2 = nm) (hT : TabsN T H) (hdef : defaultsOf ar X.env = ([], [])) (hfree : ∀ y ∈ sc.names, y.2 = .free → ∃ c, X.env.cells.lookup y.1 = some c)
    (q : ∀ (f c' : Addr) (H1 : Hp) (s' : Shared), Inv X pins σ H1 s' → ExtN H H1 → (∀ a, H1 a = none → H a = none) → TabsN T H1 → H f = none → H1 f = some (LamO f (lamF X ar sc c') b) → H1 c' = some (CodeO c' (X.env.qual ++ "<lambda>")) → Q (.ref f) s') :
    wpAny (model X.prog X.w) X.A (eval (.Lambda ar b sc pos) X.env) Q E s := by
  obtain ⟨ts, tP, tOk, tAll⟩ := (show TabN H P nm from hT _ hm)
  have gP : s.heap.get? P = some { cls := .none, data := .fields ts } := I.hok P _ tP
  have built : s.heap.BuiltinsAt X.mg P := TB.bm.keeps I.bk
  refine PySem.W.kla_eval hdef ?_
  cases look : codeAmong pos ts.toList with
  | some cv =>
    obtain ⟨c', rfl, known⟩ := tAll pos cv look
    rw [hn] at known
    refine PySem.W.kla_makeFunctionHit (mg := X.mg) (ps := ts) (closure_ok hfree) I.ok.glob (I.mod.glob.keeps I.bk) hcode (TB.code.keeps I.bk) gP tOk look built fun ctv h' tk old _ => ?_
    have J : Inv X pins σ H { s with heap := h', toks := tk } := I.kept old
    have fr : H h'.objs.size = none := J.hok.fresh (Nat.le_refl _)
    have keep : ∀ a o, H a = some o → upd H h'.objs.size (LamO h'.objs.size (lamF X ar sc c') b) a = some o := fun a o z => (upd_ne (ne_of_none z fr)).trans z
    exact q h'.objs.size c' _ _ (inv_lam (F := lamF X ar sc c') (b := b) (t' := tk) (pm := (X.mg "__name__").getD .none) (ctv := ctv) J) (fun a o z _ => keep a o z) (fun a z => upd_none z) (hT.ext keep) fr upd_same (keep _ _ known)
  | none =>
    refine PySem.W.kla_makeFunction (mg := X.mg) (ps := ts) (closure_ok hfree) I.ok.glob (I.mod.glob.keeps I.bk) hcode (TB.code.keeps I.bk) gP tOk look TB.gP built fun c' ctv h' tk old low high rec_ tab => ?_
    obtain ⟨c2, oc, vs, t, z, r1, r2, r3⟩ := rec_
    cases z
    have cN : H c' = none := I.hok.fresh low
    have J := inv_table (t' := tk) (more := #[rawInt pos.line, rawInt pos.col, .ref c']) (h' := h') I tP (fun a o na z => old a o na z) tab low ⟨oc, vs, t, r1, r2, r3⟩
    generalize hHc : upd (upd H P (.tbl (ts ++ #[rawInt pos.line, rawInt pos.col, .ref c']))) c' (CodeO c' (X.env.qual ++ "<lambda>")) = H2 at J
    have at2 : ∀ a, a ≠ c' → a ≠ P → H2 a = H a := fun a n1 n2 => by rw [← hHc, upd_ne n1, upd_ne n2]
    have atC : H2 c' = some (CodeO c' (X.env.qual ++ "<lambda>")) := by rw [← hHc]; exact upd_same
    have atP : H2 P = some (.tbl (ts ++ #[rawInt pos.line, rawInt pos.col, .ref c'])) := by rw [← hHc, upd_ne (ne_of_none tP cN)]; exact upd_same
    have ext : ExtN H H2 := fun a o z n => by
      rw [at2 a (ne_of_none z cN) fun k => n ts (Option.some.inj (z.symm.trans (by rw [k]; exact tP)))]
      exact z
    have gone : ∀ a, H2 a = none → H a = none := fun a z => by
      rw [← hHc] at z
      exact upd_none (upd_none z)
    have lst : (ts ++ #[rawInt pos.line, rawInt pos.col, .ref c']).toList = ts.toList ++ [rawInt pos.line, rawInt pos.col, .ref c'] := by simp
    have tabs : TabsN T H2 := fun p hp => by
      by_cases k : p.1 = P
      · rw [hu p hp k, k]
        refine ⟨_, atP, by rw [lst]; exact PySem.TriplesOk_snoc _ _ _ _ tOk, fun p' cv z => ?_⟩
        rw [lst] at z
        rcases among_app2 _ tOk z with y | ⟨y, y1, y2⟩
        · obtain ⟨c0, e1, e2⟩ := tAll p' cv y
          exact ⟨c0, e1, ext _ _ e2 codeO_ne⟩
        · exact ⟨c', y, by rw [← y1, ← y2, hn]; exact atC⟩
      · obtain ⟨ts', a1, a2, a3⟩ := hT p hp
        refine ⟨ts', by rw [at2 _ (ne_of_none a1 cN) k]; exact a1, a2, fun p' cv z => ?_⟩
        obtain ⟨c0, e1, e2⟩ := a3 p' cv z
        exact ⟨c0, e1, ext _ _ e2 codeO_ne⟩
    have fr : H2 h'.objs.size = none := J.hok.fresh (Nat.le_refl _)
    have keep : ∀ a o, H2 a = some o → upd H2 h'.objs.size (LamO h'.objs.size (lamF X ar sc c') b) a = some o := fun a o z => (upd_ne (ne_of_none z fr)).trans z
    exact q h'.objs.size c' _ _ (inv_lam (F := lamF X ar sc c') (b := b) (t' := tk) (pm := (X.mg "__name__").getD .none) (ctv := ctv) J) (fun a o z n => keep a o (ext a o z n)) (fun a z => gone a (upd_none z)) (tabs.ext keep) (gone _ fr) upd_same (keep _ _ atC)
/-- its reading -/
def tLm (T : List NTab) (mk : Addr → NF) (b : Expr) : TE := fun σ H Q => TabsN T H ∧ ∀ (f c' : Addr) (H1 : Hp), ExtN H H1 → (∀ a, H1 a = none → H a = none) → TabsN T H1 → H f = none → H1 f = some (LamO f (mk c') b) → H1 c' = some (CodeO c' (mk c').qual) → Q (.ref f) H1
theorem pe_lm {T : List NTab} {nm : Nat → Nat → Str} {c P : Addr} {ar : Arguments} {b : Expr} {sc : Scope} {pos : Pos} (TB : TabB X.base X.mg c P) (hcode : X.env.code = .ref c)
    (hm : (P, nm) ∈ T) (hn : nm pos.line pos.col = X.env.qual ++ "<lambda>") (hu : ∀ p ∈ T, p.1 = P → p.2 = nm) (hdef : defaultsOf ar X.env = ([], [])) (hfree : ∀ y ∈ sc.names, y.2 = .free → X.env.scope.names.lookup y.1 = some .cell ∨ X.env.scope.names.lookup y.1 = some .free) :
    PE X (.Lambda ar b sc pos) (tLm T (lamF X ar sc) b) :=
  ⟨fun pins s σ H Q I ⟨hT, q⟩ => lam_mk I TB hcode hm hn hu hT hdef (fun y hy e => (hfree y hy e).elim (fun z => I.ok.has _ (.inl z)) fun z => I.ok.has _ (.inr z)) fun f c' H1 s' J x g t fr h1 h2 => ⟨.ref f, H1, J, rfl, q f c' H1 x g t fr h1 h2⟩⟩
end
/-! ### their call -/
theorem lam_run {P : Program} {w : World} {K : PySem.W.Frag} {mg : Str → Option Value} {base : Heap} {k : Nat} {f : Addr} {F : NF} {b : Expr} {fr : List Str} {ws : List (Option V)} {A : Around} {outer : List Env} {s : Shared} {H : Hp} {Q : VK} {E : XK} {tb : TE}
    (S : NScope fr [] fr F.scope) (hbind : ∀ pm ctv : Value, bindArgs (PySem.W.kla_fn F.name F.qual F.params b F.scope F.cl pm (.ref F.c) ctv) ⟨[], []⟩ = pure []) (hr : Room (k + 1) A) (e0 : Env0 P w K mg base A outer s H) (hf : H f = some (LamO f F b)) (hc : H F.c = some (CodeO F.c F.qual)) (C : CellsAt F.cl fr ws s.heap H)
    (hb : Room k (A.deeper (envF F f s.heap.objs.size)) → PE (ncx (L2.CX P w) P w K mg base fr F f A outer s H E) b tb) (hq : tb (startF fr [] ws) H Q) :
    codeAny (model P w) A (.call (.ref f) ⟨[], []⟩) (CR (L2.CX P w) outer P w H s Q E) s := by
  have lim : s.heap.NoLimit := e0.mod.nolimit.keeps fun a o z => (e0.bs a o z).1
  obtain ⟨pm, ctv, ho⟩ := lamO_at e0.hok hf
  refine PySem.W.kla_callFunE hr.depth ho rfl S.co S.gen rfl (codeO_at e0.hok hc) ?_
  rw [hbind pm ctv]
  refine wpAny_pure (wpAny_newFunctionEnv S.nocell (fun y hy => absurd hy (by simp)) (fun h₁ ns sb => ⟨lim.fresh _ sb, ?_⟩) S.kind)
  show codeAny _ _ (.expr b (envF F f s.heap.objs.size)) _ _
  have kp : ∀ a o, s.heap.get? a = some o → h₁.get? a = some o := fun a o z => sb.extBut a o (Nat.ne_of_lt (Heap.lt_size z)) (Heap.get?_push_of_some _ z)
  have J : Inv (ncx (L2.CX P w) P w K mg base fr F f A outer s H E) [] (startF fr [] ws) H { s with heap := h₁, toks := s.toks + ([] : List (Str × Value)).length } := inv_startN (us := []) (vs := []) S hr.hd e0 rfl .nil C ns kp
  refine PySem.W.kla_codeExpr (wpAny_mono ((hb (hr.deeper _)).run [] _ _ H Q J hq) (fun v s' z => ?_) fun e s' z => z)
  obtain ⟨v', H', J', rv, q⟩ := z
  exact ⟨v', H', J'.os, J'.bare, J'.base, J'.hok, rv, q⟩
end DL

namespace DL
open PySem PySem.Spec PyProof.Rows L2 LamX NdefX
/-! ### cells that are known: told as frozen, untold within the lambda's own frame -/
def cellZ (o : Obj) : HO := .frz o (.ext fun _ => True)
open Classical in
noncomputable def plus (H' H : Hp) (S : Addr → Prop) : Hp := fun a => if S a then H a else H' a
theorem plus_in {H' H : Hp} {S : Addr → Prop} {a : Addr} (h : S a) : plus H' H S a = H a := if_pos h
theorem plus_out {H' H : Hp} {S : Addr → Prop} {a : Addr} (h : ¬ S a) : plus H' H S a = H' a := if_neg h
/-- all of S are such cells -/
def Zs (H : Hp) (S : Addr → Prop) : Prop := ∀ a, S a → ∃ o, H a = some (cellZ o)
theorem Zs.no {H : Hp} {S : Addr → Prop} (z : Zs H S) {a : Addr} {u : HO} (e : H a = some u) (n : ∀ o, u ≠ cellZ o) : ¬ S a := fun h => by
  obtain ⟨o, k⟩ := z a h
  rw [k] at e
  exact n o (Option.some.inj e).symm
section
variable {P : Program} {w : World} {K : PySem.W.Frag} {mg : Str → Option Value} {base : Heap} {A : Around} {outer : List Env} {s s' : Shared} {H H' : Hp} {S : Addr → Prop} {h h' B : Heap} {fs : List Addr}
theorem Zs.get (z : Zs H S) (k : HOk P w H h) {a : Addr} (ha : S a) : ∃ o, H a = some (cellZ o) ∧ h.get? a = some o := by
  obtain ⟨o, e⟩ := z a ha
  exact ⟨o, e, (k a _ e).1⟩
theorem hok_minus (z : Zs H S) (k : HOk P w H h) : HOk P w (minus H S) h := fun a o e => by
  have e' := minus_ex a o e
  refine (k a o e').stay (fun _ _ _ y => y) (fun b y => ?_) fun b xs y => ?_
  · rw [minus_out (z.no y fun _ q => by cases q)]; exact y
  · rw [minus_out (z.no y fun _ q => by cases q)]; exact y
theorem minus_no {b : Addr} (n : H b = none) : minus H S b = none := by
  cases q : minus H S b with
  | none => rfl
  | some u =>
    rw [minus_ex b u q] at n
    cases n
theorem env0_minus (z : Zs H S) (e0 : Env0 P w K mg base A outer s H) : Env0 P w K mg base A outer s (minus H S) :=
  ⟨e0.frames, e0.mod, fun b o e => ⟨(e0.bs b o e).1, minus_no (e0.bs b o e).2⟩, e0.bsz, e0.funs, fun b hb => minus_no (e0.frf b hb), hok_minus z e0.hok, e0.bare⟩
theorem hok_plus (k : HOk P w H' h) (n : ∀ a, S a → H' a = none) (z : ∀ a, S a → ∃ o, H a = some (cellZ o) ∧ h.get? a = some o) : HOk P w (plus H' H S) h := fun a o e => by
  by_cases ha : S a
  · rw [plus_in ha] at e
    obtain ⟨o', e1, e2⟩ := z a ha
    rw [e1] at e
    cases e
    exact ⟨e2, trivial, ⟨_, e2⟩, fun _ _ _ _ => trivial⟩
  · rw [plus_out ha] at e
    have out : ∀ b u, H' b = some u → plus H' H S b = some u := fun b u y => by
      rw [plus_out fun hb => by rw [n b hb] at y; cases y]
      exact y
    exact (k a o e).stay (fun _ _ _ y => y) (fun b y => out b _ y) fun b xs y => out b _ y
theorem un_plus (z : Zs H S) (u : Un fs [] (minus H S) H' h h') : Un fs [] H (plus H' H S) h h' where
  keep := fun b o e n hb hx => u.keep b o e (by rw [minus_out fun hs => by obtain ⟨o', k⟩ := z b hs; rw [k] at n; cases n]; exact n) hb hx
  slot := fun b o e n hb hx => u.slot b o e (by rw [minus_out fun hs => by obtain ⟨o', k⟩ := z b hs; rw [k] at n; cases n]; exact n) hb hx
  free := fun b o e n hx => by
    have ns : ¬ S b := fun hs => by obtain ⟨o', k⟩ := z b hs; rw [k] at n; cases n
    rw [plus_out ns]
    exact u.free b o e (by rw [minus_out ns]; exact n) hx
  there := u.there
  tups := fun b xs e => by
    have ns := z.no e fun _ q => by cases q
    rw [plus_out ns]
    exact u.tups b xs (by rw [minus_out ns]; exact e)
  frzs := fun b o v e => by
    by_cases ns : S b
    · rw [plus_in ns]; exact e
    · rw [plus_out ns]
      exact u.frzs b o v (by rw [minus_out ns]; exact e)
  tbls := fun b ps e => by
    have ns := z.no e fun _ q => by cases q
    rw [plus_out ns]
    exact u.tbls b ps (by rw [minus_out ns]; exact e)
theorem ub_plus (z : Zs H S) (u : UB fs (minus H S) H' h B h') : UB fs H (plus H' H S) h B h' where
  keep := fun b o e n hb => u.keep b o e (by rw [minus_out fun hs => by obtain ⟨o', k⟩ := z b hs; rw [k] at n; cases n]; exact n) hb
  slot := u.slot
  free := fun b o e n => by
    have ns : ¬ S b := fun hs => by obtain ⟨o', k⟩ := z b hs; rw [k] at n; cases n
    rw [plus_out ns]
    exact u.free b o e (by rw [minus_out ns]; exact n)
  there := u.there
  tups := fun b xs e => by
    have ns := z.no e fun _ q => by cases q
    rw [plus_out ns]
    exact u.tups b xs (by rw [minus_out ns]; exact e)
  frzs := fun b o v e => by
    by_cases ns : S b
    · rw [plus_in ns]; exact e
    · rw [plus_out ns]
      exact u.frzs b o v (by rw [minus_out ns]; exact e)
  tbls := fun b ps e => by
    have ns := z.no e fun _ q => by cases q
    rw [plus_out ns]
    exact u.tbls b ps (by rw [minus_out ns]; exact e)
theorem cr_plus {Q : VK} {E : XK} {r : Result} (z : Zs H S) (e0 : Env0 P w K mg base A outer s H) (c : CR (L2.CX P w) outer P w (minus H S) s (fun v H' => Q v (plus H' H S)) (fun cls d H' => E cls d (plus H' H S)) r s') : CR (L2.CX P w) outer P w H s Q E r s' := by
  have nf : ∀ a, S a → a ∉ frs outer := fun a ha hb => by
    obtain ⟨o, k⟩ := z a ha
    rw [e0.frf a hb] at k
    cases k
  cases r with
  | ok fl =>
    cases fl with
    | ret u =>
      obtain ⟨v, H', os, bare, un, hok, rv, q⟩ := c
      refine ⟨v, plus H' H S, os, bare, un_plus z un, hok_plus hok (fun a ha => ?_) (fun a ha => ?_), rv, q⟩
      · obtain ⟨o, k1, k2⟩ := z.get e0.hok ha
        exact un.free a o k2 (minus_in ha) (by simp)
      · obtain ⟨o, k1, k2⟩ := z.get e0.hok ha
        exact ⟨o, k1, un.keep a o k2 (minus_in ha) (nf a ha) (by simp)⟩
    | next => exact c
    | brk => exact c
    | cont => exact c
  | error e =>
    obtain ⟨a, B, H', cls, d, rfl, fl, hok, ub, na, os, ag, hE⟩ := c
    have inB : ∀ b, S b → ∃ o, H b = some (cellZ o) ∧ B.get? b = some o := fun b hb => by
      obtain ⟨o, k1, k2⟩ := z.get e0.hok hb
      exact ⟨o, k1, ub.keep b o k2 (minus_in hb) (nf b hb)⟩
    refine ⟨a, B, plus H' H S, cls, d, rfl, fl, hok_plus hok (fun b hb => ?_) inB, ub_plus z ub, ?_, os, ag, hE⟩
    · obtain ⟨o, k1, k2⟩ := z.get e0.hok hb
      exact ub.free b o k2 (minus_in hb)
    · rw [plus_out fun ha => by
        obtain ⟨o, _, k⟩ := inB a ha
        rw [fl.2.1] at k
        cases k]
      exact na
end
/-- the captured cells, told in H -/
structure CellsT (cl : List (Str × Addr)) (fr : List Str) (ws : List (Option V)) (H : Hp) : Prop where
  len : ws.length = fr.length
  all : ∀ y c, cl.lookup y = some c → ∃ o v, H c = some (cellZ o) ∧ o.data = .cell v
  inj : ∀ x y c, cl.lookup x = some c → cl.lookup y = some c → x = y
  has : ∀ (i : Nat) (y : Str), fr[i]? = some y → ∃ c, cl.lookup y = some c ∧ ∀ v, ws[i]? = some (some v) → ∃ u o, L2.RelV v u ∧ H c = some (cellZ o) ∧ o.data = .cell (some u)
theorem CellsT.ex {cl : List (Str × Addr)} {fr : List Str} {ws : List (Option V)} {H H' : Hp} (c : CellsT cl fr ws H) (e : ∀ a o, H a = some (cellZ o) → H' a = some (cellZ o)) : CellsT cl fr ws H' :=
  ⟨c.len, fun y a h => let ⟨o, v, h1, h2⟩ := c.all y a h; ⟨o, v, e _ _ h1, h2⟩, c.inj, fun i y h => let ⟨a, h1, h2⟩ := c.has i y h; ⟨a, h1, fun v hv => let ⟨u, o, r, k1, k2⟩ := h2 v hv; ⟨u, o, r, e _ _ k1, k2⟩⟩⟩
def clS (cl : List (Str × Addr)) : Addr → Prop := fun a => ∃ y, cl.lookup y = some a
theorem CellsT.zs {cl : List (Str × Addr)} {fr : List Str} {ws : List (Option V)} {H : Hp} (c : CellsT cl fr ws H) : Zs H (clS cl) := fun a ⟨y, h⟩ => let ⟨o, _, h1, _⟩ := c.all y a h; ⟨o, h1⟩
theorem CellsT.at_ {P : Program} {w : World} {cl : List (Str × Addr)} {fr : List Str} {ws : List (Option V)} {H : Hp} {h : Heap} (c : CellsT cl fr ws H) (k : HOk P w H h) : CellsAt cl fr ws h (minus H (clS cl)) := by
  refine ⟨c.len, fun y a e => ⟨minus_in ⟨y, e⟩, ?_⟩, c.inj, fun i y e => ?_⟩
  · obtain ⟨o, v, h1, h2⟩ := c.all y a e
    exact ⟨v, o, (k a _ h1).1, h2⟩
  · obtain ⟨a, h1, h2⟩ := c.has i y e
    refine ⟨a, h1, fun v hv => ?_⟩
    obtain ⟨u, o, r, k1, k2⟩ := h2 v hv
    exact ⟨u, r, o, (k a _ k1).1, k2⟩
/-- a lambda's call, its cells told -/
theorem lam_runT {P : Program} {w : World} {K : PySem.W.Frag} {mg : Str → Option Value} {base : Heap} {k : Nat} {f : Addr} {F : NF} {b : Expr} {fr : List Str} {ws : List (Option V)} {A : Around} {outer : List Env} {s : Shared} {H : Hp} {Q : VK} {E : XK} {tb : TE}
    (S : NScope fr [] fr F.scope) (hbind : ∀ pm ctv : Value, bindArgs (PySem.W.kla_fn F.name F.qual F.params b F.scope F.cl pm (.ref F.c) ctv) ⟨[], []⟩ = pure []) (hr : Room (k + 1) A) (e0 : Env0 P w K mg base A outer s H) (hf : H f = some (LamO f F b)) (hc : H F.c = some (CodeO F.c F.qual)) (C : CellsT F.cl fr ws H)
    (hb : Room k (A.deeper (envF F f s.heap.objs.size)) → PE (ncx (L2.CX P w) P w K mg base fr F f A outer s (minus H (clS F.cl)) (fun cls d H' => E cls d (plus H' H (clS F.cl)))) b tb) (hq : tb (startF fr [] ws) (minus H (clS F.cl)) fun v H' => Q v (plus H' H (clS F.cl))) :
    codeAny (model P w) A (.call (.ref f) ⟨[], []⟩) (CR (L2.CX P w) outer P w H s Q E) s := by
  have z := C.zs
  have f' : minus H (clS F.cl) f = some (LamO f F b) := by rw [minus_out (z.no hf fun _ q => by unfold LamO at q; cases q)]; exact hf
  have c' : minus H (clS F.cl) F.c = some (CodeO F.c F.qual) := by rw [minus_out (z.no hc fun _ q => by unfold CodeO at q; cases q)]; exact hc
  exact codeAny_mono (lam_run S hbind hr (env0_minus z e0) f' c' (C.at_ e0.hok) hb hq) fun r s' h => cr_plus z e0 h
end DL

namespace DL
open PySem PySem.Spec PyProof.Rows L2 LamX NdefX
open L2H (RoomH PinOk cxH inv_startH)
/-! ### a lambda that raises -/
/-- f holds a lambda that raises cl -/
def LamR (P : Program) (w : World) (K : PySem.W.Frag) (mg : Str → Option Value) (base : Heap) (k : Nat) (f : Addr) (cl : Str) (H : Hp) : Prop :=
  ∃ (F : NF) (b : Expr) (fr : List Str) (ws : List V) (ds : List PyData) (Vw : Hp) (R : DX) (ρ' : List Sl), NScope fr [] fr F.scope ∧ (∀ pm ctv : Value, bindArgs (PySem.W.kla_fn F.name F.qual F.params b F.scope F.cl pm (.ref F.c) ctv) ⟨[], []⟩ = pure []) ∧
    H f = some (LamO f F b) ∧ H F.c = some (CodeO F.c F.qual) ∧ CellsT F.cl fr (ws.map some) H ∧
    (∀ (A : Around) (outer : List Env) (s : Shared) (H' : Hp) (E : XK) (f' : Addr), Room k (A.deeper (envF F f' s.heap.objs.size)) → PE (ncx (L2.CX P w) P w K mg base fr F f' A outer s H' E) b (eR K mg (fun cls d _ H => E cls d H) R)) ∧
    DqAll K Vw ws ds ∧ Ex Vw H ∧ (∀ a o, Vw a ≠ some (cellZ o)) ∧ R (ds.map Sl.d) = some (cl, ρ')
section
variable {P : Program} {w : World} {K : PySem.W.Frag} {mg : Str → Option Value} {base : Heap} {k : Nat} {f : Addr} {cl : Str} {H H' : Hp}
theorem LamR.ex (l : LamR P w K mg base k f cl H) (e : Ex H H') : LamR P w K mg base k f cl H' := by
  obtain ⟨F, b, fr, ws, ds, Vw, R, ρ', h1, h2, h3, h4, h5, h6, h7, h8, h9, h10⟩ := l
  exact ⟨F, b, fr, ws, ds, Vw, R, ρ', h1, h2, e _ _ h3, e _ _ h4, h5.ex fun a o z => e _ _ z, h6, h7, h8.trans e, h9, h10⟩
theorem LamR.mono {j : Nat} (l : LamR P w K mg base j f cl H) (h : j ≤ k) : LamR P w K mg base k f cl H := by
  obtain ⟨F, b, fr, ws, ds, Vw, R, ρ', h1, h2, h3, h4, h5, h6, h7⟩ := l
  exact ⟨F, b, fr, ws, ds, Vw, R, ρ', h1, h2, h3, h4, h5, fun A outer s H' E f' hr => h6 A outer s H' E f' (hr.mono h), h7⟩
theorem start_lam {V H : Hp} {fr : List Str} {ws : List L2.V} {ds : List PyData} (hl : ws.length = fr.length) (s : Ex V H) (da : DqAll K V ws ds) : EnvD K V (Bs.of H) V H (startF fr [] (ws.map some)) (ds.map Sl.d) := by
  have h := start_ok (N := fr) s da
  have e1 : L2.start fr ws = startF fr [] (ws.map some) := by
    unfold L2.start startF
    simp [hl]
  have e2 : startD fr.length ds = ds.map Sl.d := by
    unfold startD
    have := da_len da
    simp [← this, hl]
  rw [e1, e2] at h
  exact h
theorem lamR_call {A : Around} {outer : List Env} {s : Shared} {Q : VK} {E : XK} (l : LamR P w K mg base k f cl H) (hr : Room (k + 1) A) (e0 : Env0 P w K mg base A outer s H) (q : ∀ H', Ex H H' → E (clsOf mg cl) none H') :
    codeAny (model P w) A (.call (.ref f) ⟨[], []⟩) (CR (L2.CX P w) outer P w H s Q E) s := by
  obtain ⟨F, b, fr, ws, ds, Vw, R, ρ', h1, h2, h3, h4, h5, h6, h7, h8, h9, h10⟩ := l
  have z := h5.zs
  have hl : ws.length = fr.length := by have := h5.len; rwa [List.length_map] at this
  have vx : Ex Vw (minus H (clS F.cl)) := fun a o e => by
    rw [minus_out fun hs => by
      obtain ⟨o', k'⟩ := z a hs
      have := h8 a o e
      rw [k'] at this
      cases this
      exact h9 a o' e]
    exact h8 a o e
  refine lam_runT h1 h2 hr e0 h3 h4 h5 (h6 A outer s _ _ f) ⟨Vw, Bs.of (minus H (clS F.cl)), Vw, ds.map Sl.d, cl, ρ', start_lam hl vx h7, h10, fun σ' V' H' Ev => ?_⟩
  refine q _ fun a o e => ?_
  by_cases ha : clS F.cl a
  · rw [plus_in ha]; exact e
  · rw [plus_out ha]
    exact Ev.gr.h a o (show minus H (clS F.cl) a = some o by rw [minus_out ha]; exact e)
end
theorem lam_fnAt {X : Cx} {pins : List (Addr × Obj)} {σ : L2.St} {H : Hp} {s : Shared} {f : Addr} {cl : Str} {k : Nat} (I : Inv X pins σ H s) (l : LamR X.prog X.w X.K X.mg X.base k f cl H) : PySem.W.FnAt f s.heap := by
  obtain ⟨F, b, fr, ws, ds, Vw, R, ρ', h1, h2, h3, _⟩ := l
  obtain ⟨pm, ctv, ho⟩ := lamO_at I.hok h3
  exact ⟨_, _, _, _, ho⟩
/-- x(), x holding such a lambda -/
theorem pe_lamR {X : Cx} {W : WX} {i k : Nat} {x : Str} {p pos : Pos} {cl : Str} (tk : Takes X W) (hr : Room (k + 1) X.A) (hN : X.N[i]? = some x) (hv : Vis X.env.scope x) (hd : (x == ("__debug__" : Str)) = false := by decide) (hcd : (x == ("__classdict__" : Str)) = false := by decide) :
    PE X (.Call (.Name x p) [] [] pos) (fun σ H Q => ∃ f, σ[i]? = some (some (.ref f)) ∧ LamR X.prog X.w X.K X.mg X.base k f cl H ∧ ∀ H', Ex H H' → W (clsOf X.mg cl) none σ H') := by
  refine ⟨fun pins s σ H Q I ⟨f, hs, l, q⟩ => ?_⟩
  refine wpAny_Call_Name_kw (thn ((pe_var (pos := p) hN hv hd hcd).run pins s σ H (fun v H1 => v = .ref f ∧ H1 = H) I ⟨.ref f, hs, rfl, rfl⟩) fun u s1 ⟨v, H1, I1, r1, z1, z2⟩ => ?_)
  subst z1
  rw [z2] at I1
  obtain rfl : u = Value.ref f := r1
  refine PySem.W.callWith_F0 (first := []) (lam_fnAt I1 l) ?_
  show wpAny _ _ (call (.ref f) []) _ _ _
  refine wpAny_call (codeAny_mono (lamR_call (Q := Q) (E := WE W σ) l hr I1.env0 q) fun r s' hq => ?_)
  cases r with
  | error e => exact passAt tk σ pins H s1 e s' I1 hq
  | ok fl =>
    cases fl with
    | ret u => exact I1.after hq
    | next => exact False.elim hq
    | brk => exact False.elim hq
    | cont => exact False.elim hq
/-! ### a def to which the handled exception is handed -/
structure FnHE (P : Program) (w : World) (K : PySem.W.Frag) (mg : Str → Option Value) (base : Heap) (k : Nat) (f : Addr) (fd : FuncData) (ps : List Str) (sp : Addr × Obj → Sp) : Prop where
  len : ∀ p vs H Q E, sp p vs H Q E → vs.length = ps.length
  run : ∀ (A : Around) (outer : List Env) (s : Shared) (H : Hp) (args : Args) (us : List Value) (vs : List V) (Q : VK) (E : XK) (p : Addr × Obj), RoomH k A → PinOk outer H s p → Env0 P w K mg base A outer s H → BindsTo s fd args (ps.zip us) → Vals vs us → sp p vs H Q E →
    codeAny (model P w) A (.call (.ref f) args) (CR CX0 outer P w H s Q E) s
theorem fnHE {P : Program} {w : World} {K : PySem.W.Frag} {mg : Str → Option Value} {base : Heap} {x qual : Str} {st : Stmt} {f : Addr} {fd : FuncData} {N ps : List Str} {k : Nat} {sp : Addr × Obj → Sp} (Fu : Fun K x qual st f fd) (S : FnScope N ps (defScope st))
    (len : ∀ p vs H Q E, sp p vs H Q E → vs.length = ps.length)
    (hb : ∀ (cdv : Value) (A : Around) (outer : List Env) (s : Shared) (H : Hp) (vs : List V) (Q : VK) (E : XK) (p : Addr × Obj), RoomH k (A.deeper (envOfC qual (defScope st) s.heap.objs.size f cdv)) → sp p vs H Q E →
      ∃ t, PSs (cxH CX0 P w K mg base N qual (defScope st) f cdv A outer s H E p) (defBody st) t ∧ t { nx := fun _ H' => Q .non H', rt := Q } (L2.start N vs) H) :
    FnHE P w K mg base (k + 1) f fd ps sp := by
  obtain ⟨oc, od, kV, doc, pm, an, cdv, ct, osl, rfl, lk, hcd⟩ := Fu.ex
  refine ⟨len, fun A outer s H args us vs Q E p hr pin e0 bind rel hsp => ?_⟩
  have kin : K.In s.heap := e0.mod.kin.keeps fun a o z => (e0.bs a o z).1
  have lim : s.heap.NoLimit := e0.mod.nolimit.keeps fun a o z => (e0.bs a o z).1
  refine codeAny_call_function hr.depth (kin _ _ lk) rfl S.co S.gen rfl (PySem.W.codeRec_of kin hcd) (bind _ _ _ _ ?_)
  refine wpAny_newFunctionEnv_cells S.kind (fun ⟨n, v⟩ hy => (S.par n (List.of_mem_zip hy).1).elim .inl fun q => .inr ⟨q, PySem.W.cellsFrom_some _ _ _ (.inl q)⟩) fun env he s1 x => ?_
  subst he
  refine ⟨lim.keeps x.toInCall.keep, codeAny_func ?_⟩
  obtain ⟨t, ht, hq⟩ := hb cdv A outer s H vs Q E p (hr.deeper _) hsp
  refine wpAny_mono (ht.run [] s1 (L2.start N vs) H _ (inv_startH S pin e0 (len _ _ _ _ _ hsp) rel x) hq) (fun fl s' hs => ?_) fun e s' hs => hs
  cases fl with
  | ret u =>
    obtain ⟨v, σ', H', J, rv, q⟩ := hs
    exact ⟨v, H', J.os, J.bare, J.base, J.hok, rv, q⟩
  | next =>
    obtain ⟨σ', H', J, q⟩ := hs
    exact ⟨V.non, H', J.os, J.bare, J.base, J.hok, rfl, q⟩
  | brk =>
    obtain ⟨_, _, _, q⟩ := hs
    exact False.elim q
  | cont =>
    obtain ⟨_, _, _, q⟩ := hs
    exact False.elim q
/-- its call, in the suite that holds the exception -/
theorem pe_callHE {X : Cx} {k : Nat} {f : Addr} {fd : FuncData} {ps : List Str} {sp : Addr × Obj → Sp} {x : Str} {q pos : Pos} {e : Expr} {es : List Expr} {t : TA} {pp : Addr × Obj} (F : FnHE X.prog X.w X.K X.mg X.base k f fd ps sp) (hr : RoomH k X.A) (hp : pp ∈ X.pn) (hg : Gl X x) (hm : X.mg x = some (.ref f)) (hk : PySem.W.keepIn X.K (.ref f) = true) (hb : Binds X.K fd ps [])
    (ha : PA X (e :: es) t) (hdb : (x == ("__debug__" : Str)) = false := by decide) (he : starEach (e :: es) X.env = (false, eval e X.env) :: starEach es X.env := by rfl) (hpl : (backTo pos (starEach es X.env)).any (·.1) = false := by rfl) :
    PE X (.Call (.Name x q) (e :: es) [] pos) (fun σ H Q => t σ H fun vs H1 => sp pp vs H1 Q E0) := by
  refine ⟨fun pins s σ H Q I h => ?_⟩
  refine wpAny_Call_Name_kw (ld_glob I hg hm ?_ hdb)
  refine PySem.W.callWith_K (h₀ := X.base) I.ok.mod.kin hk (thn (ha.run pos pins s σ H _ I h) fun us s1 ⟨vs, H1, I1, r, hq⟩ => ⟨I1.kIn, ?_⟩) he hpl
  have hl : us.length = ps.length := by rw [← r.length]; exact F.len _ _ _ _ _ hq
  have b := hb s1 us I1.kIn (by rw [List.append_nil]; exact hl)
  rw [List.append_nil] at b
  have P1 := I1.pin pp (List.mem_append_left _ hp)
  have pin : PinOk X.stack H1 s1 pp := ⟨P1.1, P1.2.1, fun hm => (List.mem_cons.mp (I1.stkSub pp.1 hm)).elim P1.2.2.1 P1.2.2.2.1, P1.2.2.2.2⟩
  refine wpAny_call (codeAny_mono (F.run X.A X.stack s1 H1 ⟨us, []⟩ us vs Q E0 pp hr pin I1.env0 b r hq) fun r' s' hc => ?_)
  cases r' with
  | error e => exact hc.elim
  | ok fl =>
    cases fl with
    | ret u => exact I1.after hc
    | next => exact False.elim hc
    | brk => exact False.elim hc
    | cont => exact False.elim hc
/-- isinstance(e, c), e pinned -/
theorem call_isP {X : Cx} {a D : Addr} {oe : Obj} (hp : (a, oe) ∈ X.pn) (C : ExcC X.K D) (hz : Zc (.ref D) none oe) (hf : ∃ vs, oe.data = .fields vs) : CallR X (.builtin "isinstance") (rIsE X.K D a) := by
  intro pins s σ H xs us Q I r h
  obtain ⟨c, cv, b, rfl, one, k, q⟩ := h
  obtain ⟨u1, u2, rfl, r1, r2⟩ := r.two
  cases r1
  obtain rfl := one _ r2
  obtain ⟨vs, hv⟩ := hf
  have g := (I.pin (a, oe) (List.mem_append_left _ hp)).1
  have at_ : PySem.W.InstAt s.heap a oe D none := by
    obtain ⟨oc, od, oda, osl⟩ := oe
    obtain ⟨h1, h2⟩ := hz
    dsimp only at h1 h2 hv
    subst h1 h2 hv
    exact ⟨g, rfl, rfl, trivial⟩
  exact PySem.W.kia_one (PySem.W.handS_kitx_exc C.hg C.hk C.hs C.hd C.ha C.hn C.ht C.hm) I.kIn at_ k (fun z => nomatch z) fun tk => ⟨.bl b, H, I.kept (t' := tk) fun _ _ z => z, rfl, q⟩
end DL

namespace DL
open PySem PySem.Spec PyProof.Rows L2 LamX NdefX
open L2H (RoomH PinOk cxH inv_startH)
/-! ### statements beside an exception in slot i -/
section
variable {X : Cx} {e a b : Expr} {es : List Expr} {pos pos' apos : Pos} {i : Nat} {z : Addr} {st : Stmt} {rest : List Stmt}
theorem ht_not {f : DB} (h : PT X a (tHT X.K i z f)) : PT X (.UnaryOp .Not a pos) (tHT X.K i z (bNot f)) := pt_w (pt_not h) fun σ H Q ⟨h0, BV, B, V, ρ, b, E, hb, q⟩ => by
  unfold bNot at hb
  obtain ⟨x, h1, h2⟩ := map_some hb
  cases h2
  exact ⟨h0, BV, B, V, ρ, x, E, h1, q⟩
theorem ht_or {f g : DB} (ha : PT X a (tHT X.K i z f)) (hb : PT X b (tHT X.K i z g)) : PT X (.BoolOp .Or [a, b] pos) (tHT X.K i z (bOr f g)) := PW.pt (pw_w (pw_or ha (pw_or1 hb)) fun σ H Q ⟨h0, BV, B, V, ρ, x, E, hx, q⟩ => by
  unfold bOr at hx
  obtain ⟨y, h1, h2⟩ := bind_some hx
  refine ⟨h0, BV, B, V, ρ, y, E, h1, fun V' H' g1 => ?_⟩
  cases y with
  | true => cases h2; exact q V' H' g1
  | false => exact ⟨h0, BV, B, V', ρ, x, E.grow g1, h2, fun V2 H2 g2 => q V2 H2 (g1.trans g2)⟩)
theorem hs_own {j : Nat} {y : Str} {f : DA} (hij : j ≠ i) (hN : X.N.Nodup) (hi : X.N[j]? = some y) (hx : Loc X.env.scope y) (he : PA X es (tHA X.K i z f)) (hs : swapsWith (.List es apos) (some (.Name y pos')) pos.line X.env = pure false := by rfl) (hf : X.fn y = true ∨ X.env.scope.names.lookup y = some .local := by first | exact .inl rfl | exact .inr rfl | assumption) :
    PS X (.Assign [.Name y pos'] (.List es apos) pos) (sH X.K i z (sOwn j (aSmall f))) := ps_w (ps_set hN hi hx (pe_lst he) hs hf) fun D σ H ⟨h0, BV, B, V, ρ, r, E, h, q⟩ => by
  obtain ⟨ds, h1, h2⟩ := map_some h
  cases h2
  obtain ⟨h1, hl⟩ := aSmall_some h1
  exact ⟨h0, BV, B, V, ρ, ds, E, h1, fun vs V1 H1 G1 D1 => ⟨by rw [da_len D1]; exact line_of hl, fun l nl => q _ V1 _ ((E.grow G1).setNew (Gr.held G1.sub nl) (Own.lst upd_same D1) (fun r z => by rw [z]; exact ⟨nl, G1.sub.back nl⟩) j rfl) (by rw [List.getElem?_set_ne hij]; exact h0)⟩⟩
theorem hs_ext {j : Nat} {f : DE} {o : Expr} {cpos : Pos} (ho : PE X o (tVar j)) (he : PE X e (tHD X.K i z f)) (hbase : attributeBase o "extend" X.env (eval o X.env) = eval o X.env := by rfl)
    (hfew : ((backTo cpos (starEach [e] X.env)).all (fun x => !x.1) && (backToKw cpos (keywordEach [] X.env)).all (fun x => x.1.isSome)
      && decide (([e] : List Expr).length + ([] : List Keyword).length + (if ([] : List Keyword).isEmpty then 0 else 1) < 30)) = true := by rfl)
    (hline : (apos.endLine == cpos.line) = true := by rfl) (hs : starEach [e] X.env = [(false, eval e X.env)] := by rfl) :
    PS X (.Expr (.Call (.Attribute o "extend" apos) [e] [] cpos) pos) (sH X.K i z (sExt j f)) :=
  ps_w (ps_expr (pe_bm PySem.F.plainAttrs_list PySem.F.slot_list_extend PySem.F.type_list_extend mt_extR ho (pa_cons he pa_nil hs) hbase hfew hline hs rfl)) fun D σ H ⟨h0, BV, B, V, ρ, r, E, h, q⟩ => by
    unfold sExt at h
    obtain ⟨xs, h1, h⟩ := bind_some h
    obtain ⟨d, h2, h⟩ := bind_some h
    cases d with
    | list ds =>
      simp only at h
      split at h
      · rename_i hz
        cases h
        obtain ⟨p, vs, es, k1, k2, k4⟩ := own_val E (ownAt_some h1)
        refine ⟨.ref p, es, .inl ⟨rfl, _, .inl (.inl k1)⟩, h0, BV, B, V, ρ, _, E, h2, fun v V' H' g dd => ?_⟩
        cases dd with
        | lst r1 d1 =>
          have k1' := g.h _ _ k1
          refine ⟨p, _, vs, _, rfl, rfl, k1', g.sub.rd r1, by rw [da_len k4, da_len d1]; exact line_of hz, ?_⟩
          exact q σ V' _ ((E.grow g).write (vs := vs) (ownAt_some h1) es (da_app (da_mono g.v k4) d1)) h0
      · cases h
    | _ => cases h
theorem hs_if {t : DB} {F G : DS} {st1 st2 : List Stmt} (ht : PT X e (tHT X.K i z t)) (h1 : PSs X st1 (sH X.K i z F)) (h2 : PSs X st2 (sH X.K i z G)) : PS X (.If e st1 st2 pos) (sH X.K i z (sIf t F G)) := ps_w (ps_if ht h1 h2) fun D σ H ⟨h0, BV, B, V, ρ, r, E, h, q⟩ => by
  unfold sIf at h
  obtain ⟨x, k1, h⟩ := bind_some h
  refine ⟨h0, BV, B, V, ρ, x, E, k1, fun V' H' g => ?_⟩
  cases x with
  | true => exact ⟨h0, BV, B, V', ρ, r, E.grow g, h, q⟩
  | false => exact ⟨h0, BV, B, V', ρ, r, E.grow g, h, q⟩
theorem hs_nil : PSs X [] (sH X.K i z sSkip) := pss_w pss_nil fun D σ H ⟨h0, BV, B, V, ρ, r, E, h, q⟩ => by
  cases h
  exact q σ V H E h0
theorem hd_isP {D : Addr} {oe : Obj} {y n : Str} {C : Value} {b : Bool} {p p1 p2 pos : Pos} (hp : (z, oe) ∈ X.pn) (E : ExcC X.K D) (hz : Zc (.ref D) none oe) (hf : ∃ vs, oe.data = .fields vs) (hk : PySem.W.kitOne X.K (.ref D) C = some b) (hg : Gl X "isinstance") (hm : X.mg "isinstance" = none) (he : PE X (.Name n p1) (tVar i)) (hc : PE X (.Name y p2) (fun σ H Q => ∀ v, (∀ u, L2.RelV v u → u = C) → Q v H))
    (hs : starEach [.Name n p1, .Name y p2] X.env = (false, eval (.Name n p1) X.env) :: starEach [.Name y p2] X.env := by rfl) (hs2 : starEach [.Name y p2] X.env = [(false, eval (.Name y p2) X.env)] := by rfl) (hpl : (backTo pos (starEach [.Name y p2] X.env)).any (·.1) = false := by rfl) :
    PE X (.Call (.Name "isinstance" p) [.Name n p1, .Name y p2] [] pos) (tHD X.K i z (dC (.bool b))) :=
  pe_w (pe_callB (call_isP hp E hz hf) hg hm (by decide +kernel) (pa_cons he (pa_cons hc pa_nil hs2) hs) (by decide) (by decide) hs hpl) fun σ H Q ⟨h0, BV, B, V, ρ, d, E', h, q⟩ => by
    cases h
    exact ⟨_, h0, fun v hv => ⟨v, C, b, rfl, hv, hk, q _ V H (.refl E'.sub) (.bl b)⟩⟩
theorem pe_btype {y : Str} {T : String} {p : Pos} (hg : Gl X y) (hm : X.mg y = none) (hv : bootBuiltins y = some (.type T)) (hn : y ≠ "__name__" := by decide) (hd : (y == ("__debug__" : Str)) = false := by decide) : PE X (.Name y p) (fun σ H Q => ∀ v, (∀ u, L2.RelV v u → u = .type T) → Q v H) := pe_w (pe_bltn (v := .ty T) hg hm hv rfl hn hd) fun σ H Q h => h _ fun u r => by cases r; rfl
end
/-! ### telling the class -/
/-- the promise: the exception's class by its name -/
def spCls (K : PySem.W.Frag) (mg : Str → Option Value) (names : List Str) : Addr × Obj → Sp := fun p vs H Q _ => vs.length = 1 ∧ vs = [.ref p.1] ∧ ∃ cl D V, cl ∈ names ∧ mg cl = some (.ref D) ∧ Zc (.ref D) none p.2 ∧ (∃ fs, p.2.data = .fields fs) ∧ Ex V H ∧ ∀ V' H', Gr V H V' H' → Q (.str cl) H'
theorem fnCls {P : Program} {w : World} {K : PySem.W.Frag} {mg : Str → Option Value} {base : Heap} {x qual : Str} {st : Stmt} {f : Addr} {fd : FuncData} {N : List Str} {p0 : Str} {k : Nat} {names : List Str} (Fu : Fun K x qual st f fd) (S : FnScope N [p0] (defScope st)) (hN : 0 < N.length)
    (hb : ∀ (cdv : Value) (A : Around) (outer : List Env) (s : Shared) (H : Hp) (E : XK) (p : Addr × Obj), RoomH k (A.deeper (envOfC qual (defScope st) s.heap.objs.size f cdv)) → ∀ cl D, cl ∈ names → mg cl = some (.ref D) → Zc (.ref D) none p.2 → (∃ fs, p.2.data = .fields fs) →
      ∃ F ρ, PSs (cxH CX0 P w K mg base N qual (defScope st) f cdv A outer s H E p) (defBody st) (sH K 0 p.1 F) ∧ F (List.replicate N.length .un) = some (.ro (.d (.str cl)) ρ)) :
    FnHE P w K mg base (k + 1) f fd [p0] (spCls K mg names) := by
  refine fnHE Fu S (fun p vs H Q E h => h.1) fun cdv A outer s H vs Q E p hr h => ?_
  obtain ⟨_, rfl, cl, D, V, h1, h2, h3, h4, h5, q⟩ := h
  obtain ⟨F, ρ, h6, h7⟩ := hb cdv A outer s H E p hr cl D h1 h2 h3 h4
  refine ⟨_, h6, by unfold L2.start; rfl, V, Bs.of H, V, _, _, ?_, h7, fun v σ' V' H' Fp S' Ev O _ => ?_⟩
  · refine ⟨⟨fun _ _ => False, fun i t e => ?_, fun _ _ _ _ z => z.elim, fun _ _ z => z.elim⟩, .refl h5, fun _ z => z.elim⟩
    rw [List.getElem?_replicate] at e
    split at e
    · rename_i hi
      cases e
      have hl : (L2.start N [L2.V.ref p.1]).length = N.length := by
        unfold L2.start
        simp
        omega
      refine ⟨_, List.getElem?_eq_getElem (by rw [hl]; exact hi), fun _ z => z.elim, ?_, trivial⟩
      generalize (L2.start N [L2.V.ref p.1])[i]'(by rw [hl]; exact hi) = o
      cases o <;> exact fun _ z => z
    · cases e
  · obtain ⟨dq, _⟩ := O
    cases dq
    exact q V' H' Ev.gr
/-! ### the result of a call -/
def spRes (P : Program) (w : World) (K : PySem.W.Frag) (mg : Str → Option Value) (base : Heap) (k : Nat) (names : List Str) : Sp := fun vs H Q _ => vs.length = 1 ∧ ∃ f cl V, vs = [.ref f] ∧ cl ∈ names ∧ LamR P w K mg base k f cl H ∧ Ex V H ∧ ∀ v V' H', Gr V H V' H' → Dq K V' v (.tuple [.str "error", .str cl]) → Q v H'
theorem ps_res {X : Cx} {k kc : Nat} {C fc : Addr} {fdc : FuncData} {names : List Str} {x n y c : Str} {j : Nat} {p1 p2 p3 p4 p5 p6 p7 p8 p9 p10 p11 pos : Pos} {kt} {Wout : WX} (hs : X.stack = X.env :: X.outer) (hf : X.env.frame = some X.env.locals) (hN : X.N.Nodup) (hi : X.N[1]? = some n) (hi0 : X.N[0]? = some c) (hv0 : Vis X.env.scope c) (hln : X.env.kindOf n = some .local) (hc : Names X x (.ref C)) (tk : Takes X Wout) (hr : Room (k + 1) X.A)
    (hcl : ∀ cl ∈ names, ∃ D, X.mg cl = some (.ref D) ∧ PySem.W.exmOne X.K (.ref D) (.ref C) = some true)
    (Fc : FnHE X.prog X.w X.K X.mg X.base kc fc fdc ["error"] (spCls X.K X.mg names)) (hrc : ∀ a, RoomH kc (X.A.mark (some (.ref a)))) (hg : Gl X y) (hm : X.mg y = some (.ref fc)) (hk : PySem.W.keepIn X.K (.ref fc) = true) (hb : Binds X.K fdc ["error"] [])
    (hvn : Vis X.env.scope n) (hcd : (c == ("__debug__" : Str)) = false) (hcd2 : (c == ("__classdict__" : Str)) = false) (hnd : (n == ("__debug__" : Str)) = false) (hnd2 : (n == ("__classdict__" : Str)) = false) (hyd : (y == ("__debug__" : Str)) = false) :
    PS X (.Try [.Return (some (.Call (.Name c p1) [] [] p2)) p3] [.ExceptHandler (some (.Name x p4)) (some n) [.Return (some (.Tuple [.Constant (.str "error") j p5, .Call (.Name y p6) [.Name n p7] [] p8] kt p9)) p10] p11] [] [] pos)
      (fun D σ H => ∃ f cl V, σ[0]? = some (some (.ref f)) ∧ σ.length = X.N.length ∧ cl ∈ names ∧ LamR X.prog X.w X.K X.mg X.base k f cl H ∧ Ex V H ∧ ∀ v V' H', Gr V H V' H' → Dq X.K V' v (.tuple [.str "error", .str cl]) → D.rt v H') :=
  ps_w (ps_try_as (tb := fun W D σ H => ∃ f cl, cl ∈ names ∧ σ[0]? = some (some (.ref f)) ∧ LamR X.prog X.w X.K X.mg X.base k f cl H ∧ ∀ H', Ex H H' → W (clsOf X.mg cl) none σ H')
      (ts := fun a cls d D σ H => ∃ cl D' V, cl ∈ names ∧ X.mg cl = some (.ref D') ∧ cls = .ref D' ∧ d = none ∧ σ[1]? = some (some (.ref a)) ∧ Ex V H ∧ ∀ v V' H', Gr V H V' H' → Dq X.K V' v (.tuple [.str "error", .str cl]) → D.rt v H') hs hf hN hi hln hc tk
      (fun W pn xe t _ => ⟨fun pins s σ H D I ⟨f, cl, h1, h2, h3, h4⟩ => (pss_one (ps_ret (pos := p3) (pe_lamR (p := p1) (pos := p2) (cl := cl) t hr hi0 hv0 hcd hcd2))).run pins s σ H D I ⟨f, h2, h3, h4⟩⟩)
      (fun a oe cls d pn hz hfs => ⟨fun pins s σ H D I ⟨cl, D', V, h1, h2, h3, h4, h5, h6, q⟩ => by
        subst h3 h4
        refine (pss_one (ps_ret (pos := p10) (pe_tup (X := X.suite a ((a, oe) :: pn)) (pa_cons (pe_str (x := "error") (j := j) (pos := p5)) (pa_cons (pe_callHE (X := X.suite a ((a, oe) :: pn)) (pp := (a, oe)) Fc (hrc a) List.mem_cons_self hg hm hk hb (pa_cons (pe_var (pos := p7) (i := 1) hi hvn hnd hnd2) pa_nil) hyd) pa_nil))))).run pins s σ H D I ?_
        refine ⟨.ref a, h5, rfl, rfl, cl, D', V, h1, h2, hz, hfs, h6, fun V' H' g => ⟨line_of (by simp), fun p np => ?_⟩⟩
        exact newT g.sub (fun v V2 H2 g2 d2 => q v V2 H2 (g.trans g2) d2) (.cons (.str _) (.cons (.str _) .nil)) np⟩)) fun D σ H ⟨f, cl, V, h1, hl, h2, h3, h4, q⟩ => by
    refine ⟨f, cl, h2, h1, h3, fun H' ex => ?_⟩
    obtain ⟨D', m1, m2⟩ := hcl cl h2
    have ec : clsOf X.mg cl = .ref D' := by unfold clsOf; rw [m1]; rfl
    rw [ec]
    have l1 : 1 < σ.length := by rw [hl]; exact (List.getElem?_eq_some_iff.mp hi).1
    exact ⟨true, m2, fun _ a ha => ⟨cl, D', V, h2, m1, rfl, rfl, List.getElem?_set_self l1, h4.trans ex, fun v V' H2 g d => q v V' H2 ((Gr.same h4 ex).trans g) d⟩, fun z => by cases z⟩
theorem fnRes {P : Program} {w : World} {K : PySem.W.Frag} {mg : Str → Option Value} {base : Heap} {x qual : Str} {st : Stmt} {f : Addr} {fd : FuncData} {k j : Nat} {names : List Str} (Fu : Fun K x qual st f fd) (S : FnScope ["call", "error"] ["call"] (defScope st))
    (hb : ∀ (cdv : Value) (A : Around) (outer : List Env) (s : Shared) (H : Hp) (E : XK), Room k (A.deeper (envOfC qual (defScope st) s.heap.objs.size f cdv)) → PSs (cxOf CX0 P w K mg base ["call", "error"] qual (defScope st) f cdv A outer s H E).nox (defBody st)
      (fun D σ H => ∃ f cl V, σ[0]? = some (some (.ref f)) ∧ σ.length = 2 ∧ cl ∈ names ∧ LamR P w K mg base j f cl H ∧ Ex V H ∧ ∀ v V' H', Gr V H V' H' → Dq K V' v (.tuple [.str "error", .str cl]) → D.rt v H')) :
    FnOk P w K mg base CX0 (k + 1) f fd ["call"] (spRes P w K mg base j names) := by
  refine Fu.ok S (fun vs H Q E h => h.1) fun cdv A outer s H vs Q E hr h => ⟨_, hb cdv A outer s H E hr, ?_⟩
  obtain ⟨_, f', cl, V, rfl, h1, h2, h3, q⟩ := h
  exact ⟨f', cl, V, rfl, rfl, h1, h2, h3, q⟩
end DL

namespace DL
open PySem PySem.Spec PyProof.Rows L2 LamX NdefX
/-! ### all calls raise -/
section
variable {X : Cx} {k kr : Nat} {fr : Addr} {fdr : FuncData} {names : List Str}
/-- _law_result(call) == ("error", name) -/
def tEl (P : Program) (w : World) (K : PySem.W.Frag) (mg : Str → Option Value) (base : Heap) (k : Nat) (names : List Str) : TE := fun σ H Q => ∃ f cl, σ[2]? = some (some (.ref f)) ∧ σ[1]? = some (some (.str cl)) ∧ cl ∈ names ∧ LamR P w K mg base k f cl H ∧ ∀ H', Ex H H' → Q (.bl true) H'
theorem pe_el {x c n : Str} {j : Nat} {kt} {p1 p2 p3 p4 p5 p6 pos : Pos} (Fr : FnOk X.prog X.w X.K X.mg X.base CX0 kr fr fdr ["call"] (spRes X.prog X.w X.K X.mg X.base k names)) (hr : Room kr X.A) (hg : Gl X x) (hm : X.mg x = some (.ref fr)) (hk : PySem.W.keepIn X.K (.ref fr) = true) (hb : Binds X.K fdr ["call"] [])
    (hsh : ∀ cl ∈ names, SeqAt.shaped (.tuple [.str "error", .str cl]) = true) (hc : PE X (.Name c p2) (tVar 2)) (hn : PE X (.Name n p5) (tVar 1)) (hmk : behindInMarks .Eq (.Tuple [.Constant (.str "error") j p4, .Name n p5] kt p6) = false)
    (hdb : (x == ("__debug__" : Str)) = false := by decide) (he : starEach [.Name c p2] X.env = (false, eval (.Name c p2) X.env) :: starEach [] X.env := by rfl) (hpl : (backTo p3 (starEach [] X.env)).any (·.1) = false := by rfl)
    (hs1 : starEach [.Constant (.str "error") j p4, .Name n p5] X.env = (false, eval (.Constant (.str "error") j p4) X.env) :: starEach [.Name n p5] X.env := by rfl) (hs2 : starEach [.Name n p5] X.env = (false, eval (.Name n p5) X.env) :: starEach [] X.env := by rfl) :
    PE X (.Compare (.Call (.Name x p1) [.Name c p2] [] p3) [.Eq] [.Tuple [.Constant (.str "error") j p4, .Name n p5] kt p6] pos) (tEl X.prog X.w X.K X.mg X.base k names) :=
  pe_w (pe_cmpR (op_eqD hr.units) (pe_call Fr hr hg hm hk hb .nil (E := E0) pass0 (pa_cons hc pa_nil he) hdb he hpl) (pe_tup (pa_cons pe_str (pa_cons hn pa_nil hs2) hs1)) hmk) fun σ H Q ⟨f, cl, h1, h2, h3, h4, q⟩ => by
    refine ⟨.ref f, h1, rfl, f, cl, V0, rfl, h3, h4, V0_ex, fun v V' H' g dq => ?_⟩
    refine ⟨.str cl, h2, line_of (by simp), fun p np => ?_⟩
    refine newT (K := X.K) (Q := fun y H2 => rEqD X.K v y H2 Q) g.sub (fun y V2 H2 g2 d2 => ?_) (.cons (.str "error") (.cons (.str cl) .nil)) np
    exact od_eq V2 H2 v y _ _ _ Q g2.sub (dp_mono g2.v dq) d2 (eqP_self (hsh cl h3)) fun u V3 H3 g3 d3 => by
      cases d3
      exact q H3 ((g.h.trans g2.h).trans g3.h)
def tAllE (P : Program) (w : World) (K : PySem.W.Frag) (mg : Str → Option Value) (base : Heap) (k : Nat) (names : List Str) : TE := fun σ H Q => ∃ (L : Addr) (fs : List Addr) (cl : Str), σ[0]? = some (some (.ref L)) ∧ σ[1]? = some (some (.str cl)) ∧ σ.length = 3 ∧ H L = some (.lst (fs.map L2.V.ref)) ∧ fs.length ≤ 1000 ∧ cl ∈ names ∧ (∀ f ∈ fs, LamR P w K mg base k f cl H) ∧ ∀ H', Ex H H' → Q (.bl true) H'
theorem all_lc {P : Program} {w : World} {K : PySem.W.Frag} {mg : Str → Option Value} {base : Heap} {σ : L2.St} {H : Hp} {Q : VK} {L : Addr} {fs : List Addr} {cl : Str} (h0 : σ[0]? = some (some (.ref L))) (h1 : σ[1]? = some (some (.str cl))) (hl : σ.length = 3) (hL : H L = some (.lst (fs.map L2.V.ref))) (hn : fs.length ≤ 1000) (hc : cl ∈ names) (hf : ∀ f ∈ fs, LamR P w K mg base k f cl H)
    (q : ∀ D H', Ex H H' → H D = none → H' D = some (.lst (List.replicate fs.length (.bl true))) → Q (.ref D) H') : tLc (iList K (tVar 0)) (gName 2) tYes (tEl P w K mg base k names) [2] σ H Q := by
  refine ⟨.ref L, h0, L, rfl, ⟨_, .inl (.inl hL)⟩, fun D hD => ?_⟩
  have nLD : L ≠ D := fun z => by rw [z, hD] at hL; cases hL
  refine ⟨fun i m H' => m + i = fs.length ∧ Ex H H' ∧ H' D = some (.lst (List.replicate i (.bl true))), ⟨fs.length, rfl, fun a o z => by rw [upd_ne (ne_of_none z hD)]; exact z, upd_same⟩, ?_⟩
  rintro i m H' ⟨e1, e2, e3⟩
  have hL' := e2 _ _ hL
  rcases Nat.lt_or_ge i fs.length with hi | hi
  · refine .inr ⟨⟨_, .ref fs[i], .inl (.inl hL'), by simp [hi]⟩, fun H'' => ∃ m', m' < m ∧ (m' + (i + 1) = fs.length ∧ Ex H H'' ∧ H'' D = some (.lst (List.replicate (i + 1) (.bl true)))), fun _ z => z, ?_⟩
    rintro x H'' ⟨rfl, hx⟩
    have ex := hx _ (.inl (.inl hL'))
    rw [List.getElem?_map, List.getElem?_eq_getElem hi] at ex
    cases ex
    refine ⟨by simp [L2.wipe], ?_⟩
    show tYes _ _ _
    unfold tYes
    dsimp only
    rw [if_pos rfl]
    refine ⟨fs[i], cl, ?_, ?_, hc, (hf _ (List.getElem_mem hi)).ex e2, fun H4 g => ⟨_, g _ _ e3, line_lt (by rw [List.length_replicate]; omega), m - 1, by omega, by omega, fun a o z => ?_, ?_⟩⟩
    · simp [L2.wipe, hl]
    · simp [L2.wipe]
      exact h1
    · rw [upd_ne (ne_of_none z hD)]
      exact g _ _ (e2 _ _ z)
    · rw [upd_same, List.replicate_succ']
  · have e : i = fs.length := by omega
    subst e
    exact .inl ⟨⟨_, .inl (.inl hL'), by rw [List.length_map]; exact Nat.le_refl _⟩, q D H' e2 hD e3⟩
theorem da_trues {K : PySem.W.Frag} {V : Hp} : ∀ n, DqAll K V (List.replicate n (.bl true)) (List.replicate n (.bool true))
  | 0 => .nil
  | n + 1 => .cons (.bl true) (da_trues n)
theorem as_trues : ∀ n, asBools (List.replicate n (.bool true)) = some (List.replicate n true)
  | 0 => rfl
  | n + 1 => by rw [List.replicate_succ, asBools, as_trues n]; rfl
theorem pe_all {elt tg iter : Expr} {scope : Scope} {p1 p2 p3 pos : Pos} (h : PE X (.ListComp elt [⟨tg, iter, [], 0⟩] scope p1) (tLc (iList X.K (tVar 0)) (gName 2) tYes (tEl X.prog X.w X.K X.mg X.base k names) [2])) (hca : CallR X (.builtin "all") (rAll X.K)) (hg : Gl X "all") (hm : X.mg "all" = none) (hv : bootBuiltins "all" = some (.builtin "all"))
    (he : starEach [Expr.ListComp elt [⟨tg, iter, [], 0⟩] scope p1] X.env = (false, eval (.ListComp elt [⟨tg, iter, [], 0⟩] scope p1) X.env) :: starEach [] X.env := by rfl) (hpl : (backTo pos (starEach [] X.env)).any (·.1) = false := by rfl) :
    PE X (.Call (.Name "all" p2) [.ListComp elt [⟨tg, iter, [], 0⟩] scope p1] [] pos) (tAllE X.prog X.w X.K X.mg X.base k names) :=
  pe_w (pe_callB hca hg hm hv (pa_cons h pa_nil he) (by decide) (by decide) he hpl) fun σ H Q ⟨L, fs, cl, h0, h1, hl, h2, h3, h4, h5, q⟩ => by
    refine all_lc (Q := fun x H1 => tNil σ H1 fun xs H2 => rAll X.K (x :: xs) H2 Q) h0 h1 hl h2 h3 h4 h5 fun D H' ex nD hD => ?_
    show rAll X.K [.ref D] H' Q
    refine cd_all (K := X.K) (upd V0 D (.lst (List.replicate fs.length (.bl true)))) H' [.ref D] [.list (List.replicate fs.length (.bool true))] (.bool true) Q (fun a o z => ?_) (.cons (.lst (.inl upd_same) (da_trues _)) .nil) ?_ fun v V' H2 g d => ?_
    · by_cases k : a = D
      · subst k; rw [upd_same] at z; cases z; exact hD
      · rw [upd_ne k] at z; cases z
    · show (asBools (List.replicate fs.length (.bool true))).map _ = _
      rw [as_trues]
      simp
    · cases d
      exact q H2 (ex.trans g.h)
end
def spAll (P : Program) (w : World) (K : PySem.W.Frag) (mg : Str → Option Value) (base : Heap) (k : Nat) (names : List Str) : Sp := fun vs H Q _ => vs.length = 2 ∧ ∃ (L : Addr) (fs : List Addr) (cl : Str), vs = [.ref L, .str cl] ∧ H L = some (.lst (fs.map L2.V.ref)) ∧ fs.length ≤ 1000 ∧ cl ∈ names ∧ (∀ f ∈ fs, LamR P w K mg base k f cl H) ∧ ∀ H', Ex H H' → Q (.bl true) H'
theorem fnAll {P : Program} {w : World} {K : PySem.W.Frag} {mg : Str → Option Value} {base : Heap} {x qual : Str} {st : Stmt} {f : Addr} {fd : FuncData} {k j : Nat} {names : List Str} (Fu : Fun K x qual st f fd) (S : FnScope ["calls", "name", "call"] ["calls", "name"] (defScope st))
    (hb : ∀ (cdv : Value) (A : Around) (outer : List Env) (s : Shared) (H : Hp) (E : XK), Room k (A.deeper (envOfC qual (defScope st) s.heap.objs.size f cdv)) → PSs (cxOf CX0 P w K mg base ["calls", "name", "call"] qual (defScope st) f cdv A outer s H E).nox (defBody st) (tRet (tAllE P w K mg base j names))) :
    FnOk P w K mg base CX0 (k + 1) f fd ["calls", "name"] (spAll P w K mg base j names) := by
  refine Fu.ok S (fun vs H Q E h => h.1) fun cdv A outer s H vs Q E hr h => ⟨_, hb cdv A outer s H E hr, ?_⟩
  obtain ⟨_, L, fs, cl, rfl, h1, h2, h3, h4, q⟩ := h
  exact ⟨L, fs, cl, rfl, rfl, rfl, h1, h2, h3, h4, q⟩
end DL

namespace DL
open PySem PySem.Spec PyProof.Rows L2 LamX NdefX
/-! ### a block that ends with a return, the names told -/
abbrev TR := (V → L2.St → Hp → Prop) → L2.St → Hp → Prop
structure PSR (X : Cx) (sts : List Stmt) (t : TR) : Prop where
  run : ∀ (pins : List (Addr × Obj)) (s : Shared) (σ : L2.St) (H : Hp) (R : V → L2.St → Hp → Prop), Inv X pins σ H s → t R σ H →
    wpAny (model X.prog X.w) X.A (execs sts X.env) (fun fl s' => ∃ u v σ' H', fl = .ret u ∧ Inv X pins σ' H' s' ∧ L2.RelV v u ∧ R v σ' H') X.xe s
section
variable {X : Cx} {st : Stmt} {rest : List Stmt}
theorem psr_w {t t' : TR} (h : PSR X rest t) (i : ∀ R σ H, t' R σ H → t R σ H) : PSR X rest t' := ⟨fun pins s σ H R I q => h.run pins s σ H R I (i R σ H q)⟩
theorem psr_cons {t : TS} {u : TR} (h1 : PS X st t) (h2 : PSR X rest u) : PSR X (st :: rest) (fun R σ H => t { nx := fun σ' H' => u R σ' H', rt := fun _ _ => False } σ H) := by
  refine ⟨fun pins s σ H R I h => wpAny_execs_cons (thn (h1.run pins s σ H _ I h) fun f s1 q => ?_)⟩
  cases f with
  | next =>
    obtain ⟨σ', H', J, q⟩ := q
    exact h2.run pins s1 σ' H' R J q
  | ret v =>
    obtain ⟨_, _, _, _, _, q⟩ := q
    exact q.elim
  | brk =>
    obtain ⟨_, _, _, q⟩ := q
    exact q.elim
  | cont =>
    obtain ⟨_, _, _, q⟩ := q
    exact q.elim
theorem psr_ret {e : Expr} {te : TE} {pos : Pos} (he : PE X e te) : PSR X [.Return (some e) pos] (fun R σ H => te σ H fun v H' => R v σ H') := by
  refine ⟨fun pins s σ H R I h => wpAny_execs_cons (wpAny_Return_some (thn (he.run pins s σ H _ I h) fun u s1 ⟨v, H1, J, r, q⟩ => ?_))⟩
  exact ⟨u, v, σ, H1, rfl, J, r, q⟩
end
/-! ### lists of lambdas -/
abbrev Lm := Arguments × Expr × Scope
/-- f is the lambda l, made by X -/
def Made (X : Cx) (H : Hp) (f : Addr) (l : Lm) : Prop := ∃ c', H f = some (LamO f (lamF X l.1 l.2.2 c') l.2.1) ∧ H c' = some (CodeO c' (X.env.qual ++ "<lambda>"))
inductive Mades (X : Cx) (H : Hp) : List Addr → List Lm → Prop
  | nil : Mades X H [] []
  | cons {f : Addr} {l : Lm} {fs : List Addr} {ls : List Lm} : Made X H f l → Mades X H fs ls → Mades X H (f :: fs) (l :: ls)
theorem Made.ext {X : Cx} {H H' : Hp} {f : Addr} {l : Lm} (m : Made X H f l) (e : ∀ a o, H a = some o → (∀ ps, o ≠ .tbl ps) → (∀ xs, o ≠ .lst xs) → H' a = some o) : Made X H' f l := by
  obtain ⟨c', h1, h2⟩ := m
  exact ⟨c', e _ _ h1 (fun ps => lamO_ne ps) (fun xs z => by unfold LamO at z; cases z), e _ _ h2 (fun ps => codeO_ne ps) fun xs z => by unfold CodeO at z; cases z⟩
theorem Mades.ext {X : Cx} {H H' : Hp} (e : ∀ a o, H a = some o → (∀ ps, o ≠ .tbl ps) → (∀ xs, o ≠ .lst xs) → H' a = some o) : ∀ {fs : List Addr} {ls : List Lm}, Mades X H fs ls → Mades X H' fs ls
  | _, _, .nil => .nil
  | _, _, .cons a b => .cons (a.ext e) (b.ext e)
theorem Mades.snoc {X : Cx} {H : Hp} {f : Addr} {l : Lm} (m : Made X H f l) : ∀ {fs : List Addr} {ls : List Lm}, Mades X H fs ls → Mades X H (fs ++ [f]) (ls ++ [l])
  | _, _, .nil => .cons m .nil
  | _, _, .cons a b => .cons a (b.snoc m)
theorem Mades.len {X : Cx} {H : Hp} : ∀ {fs : List Addr} {ls : List Lm}, Mades X H fs ls → fs.length = ls.length
  | _, _, .nil => rfl
  | _, _, .cons _ b => by simp [b.len]
/-- what is kept while lambdas are made: all but the tables -/
structure Kp (H H' : Hp) : Prop where
  ext : ExtN H H'
  gone : ∀ a, H' a = none → H a = none
theorem Kp.refl {H : Hp} : Kp H H := ⟨ExtN.refl H, fun _ z => z⟩
theorem Kp.trans {H H1 H2 : Hp} (a : Kp H H1) (b : Kp H1 H2) : Kp H H2 := ⟨a.ext.trans b.ext, fun x z => a.gone x (b.gone x z)⟩
theorem Kp.upd {H H' : Hp} {L : Addr} {o : HO} (k : Kp H H') (n : H L = none) : Kp H (upd H' L o) := ⟨fun a u z t => by rw [upd_ne (ne_of_none z n)]; exact k.ext a u z t, fun a z => k.gone a (NdefX.upd_none z)⟩
/-- in slot i: the list of the lambdas ls, new since H0 -/
def MkI (X : Cx) (T : List NTab) (H0 : Hp) (L : Addr) (fs : List Addr) (ls : List Lm) (H : Hp) : Prop := TabsN T H ∧ Kp H0 H ∧ H0 L = none ∧ H L = some (.lst (fs.map L2.V.ref)) ∧ Mades X H fs ls
def mkT (X : Cx) (T : List NTab) (i : Nat) (done todo : List Lm) : TR := fun R σ H => done.length + todo.length ≤ 900 ∧ ∃ H0 L fs, σ[i]? = some (some (.ref L)) ∧ MkI X T H0 L fs done H ∧ ∀ fs' H', MkI X T H0 L fs' (done ++ todo) H' → R (.ref L) σ H'
def mkS (X : Cx) (T : List NTab) (i : Nat) (l : Lm) : TS := fun D σ H => ∃ H0 L fs ls, σ[i]? = some (some (.ref L)) ∧ ls.length < 900 ∧ MkI X T H0 L fs ls H ∧ ∀ fs' H', MkI X T H0 L fs' (ls ++ [l]) H' → D.nx σ H'
def mk1 (X : Cx) (T : List NTab) (i : Nat) (l : Lm) : TS := fun D σ H => i < σ.length ∧ TabsN T H ∧ ∀ L fs H', MkI X T H L fs [l] H' → D.nx (σ.set i (some (.ref L))) H'
section
variable {X : Cx} {T : List NTab} {i : Nat} {l : Lm} {st : Stmt} {rest : List Stmt} {done todo : List Lm}
theorem tabs_upd {H : Hp} {L : Addr} {xs ys : List L2.V} (t : TabsN T H) (h : H L = some (.lst xs)) : TabsN T (upd H L (.lst ys)) := fun p hp => by
  obtain ⟨ps, h1, h2, h3⟩ := t p hp
  refine ⟨ps, by rw [upd_ne fun z => by rw [z, h] at h1; cases h1]; exact h1, h2, fun pos cv hc => ?_⟩
  obtain ⟨c, e1, e2⟩ := h3 pos cv hc
  exact ⟨c, e1, by rw [upd_ne fun z => by rw [z, h] at e2; unfold CodeO at e2; cases e2]; exact e2⟩
theorem tabs_new {H : Hp} {L : Addr} {o : HO} (t : TabsN T H) (h : H L = none) : TabsN T (upd H L o) := t.ext fun a u z => by rw [upd_ne (ne_of_none z h)]; exact z
theorem mk_app {ar : Arguments} {b : Expr} {sc : Scope} {o : Expr} {p1 p2 apos cpos pos : Pos} (ho : PE X o (tVar i)) (he : PE X (.Lambda ar b sc p1) (tLm T (lamF X ar sc) b)) (hbase : attributeBase o "append" X.env (eval o X.env) = eval o X.env := by rfl)
    (hfew : ((backTo cpos (starEach [.Lambda ar b sc p1] X.env)).all (fun x => !x.1) && (backToKw cpos (keywordEach [] X.env)).all (fun x => x.1.isSome)
      && decide (([.Lambda ar b sc p1] : List Expr).length + ([] : List Keyword).length + (if ([] : List Keyword).isEmpty then 0 else 1) < 30)) = true := by rfl)
    (hline : (apos.endLine == cpos.line) = true := by rfl) (hs : starEach [.Lambda ar b sc p1] X.env = [(false, eval (.Lambda ar b sc p1) X.env)] := by rfl) :
    PS X (.Expr (.Call (.Attribute o "append" apos) [.Lambda ar b sc p1] [] cpos) pos) (mkS X T i (ar, b, sc)) :=
  ps_w (ps_expr (pe_bm PySem.F.plainAttrs_list PySem.F.slot_list_append PySem.F.type_list_append mt_append ho (pa_cons he pa_nil hs) hbase hfew hline hs rfl)) fun D σ H ⟨H0, L, fs, ls, h0, hl, ⟨t, kp, nL, hL, md⟩, q⟩ => by
    refine ⟨.ref L, h0, .inl ⟨rfl, _, .inl (.inl hL)⟩, t, fun f c' H1 e g t1 nf h1 h2 => ?_⟩
    have hL1 : H1 L = some (.lst (fs.map L2.V.ref)) := e _ _ hL fun ps z => by cases z
    refine ⟨L, _, .ref f, rfl, rfl, hL1, line_lt (by rw [List.length_map, md.len]; omega), ?_⟩
    have nfL : f ≠ L := fun z => by rw [z, hL] at nf; cases nf
    have ncL : c' ≠ L := fun z => by rw [z, hL1] at h2; unfold CodeO at h2; cases h2
    have md1 : Mades X (upd H1 L (.lst ((fs ++ [f]).map L2.V.ref))) fs ls := md.ext fun a o z n1 n2 => by
      rw [upd_ne fun k => by rw [k, hL] at z; exact n2 _ (Option.some.inj z).symm]
      exact e a o z n1
    have := q (fs ++ [f]) (upd H1 L (.lst ((fs ++ [f]).map L2.V.ref))) ⟨tabs_upd t1 hL1, (kp.trans ⟨e, g⟩).upd nL, nL, upd_same, md1.snoc ⟨c', by rw [upd_ne nfL]; exact h1, by rw [upd_ne ncL]; exact h2⟩⟩
    rw [List.map_append] at this
    exact this
theorem mk_new {ar : Arguments} {b : Expr} {sc : Scope} {y : Str} {p1 p2 p3 pos : Pos} (hN : X.N.Nodup) (hi : X.N[i]? = some y) (hx : Loc X.env.scope y) (he : PE X (.Lambda ar b sc p1) (tLm T (lamF X ar sc) b)) (hs : swapsWith (.List [.Lambda ar b sc p1] p2) (some (.Name y p3)) pos.line X.env = pure false := by rfl) (hf : X.fn y = true ∨ X.env.scope.names.lookup y = some .local := by first | exact .inl rfl | exact .inr rfl | assumption)
    (hs1 : starEach [.Lambda ar b sc p1] X.env = (false, eval (.Lambda ar b sc p1) X.env) :: starEach [] X.env := by rfl) :
    PS X (.Assign [.Name y p3] (.List [.Lambda ar b sc p1] p2) pos) (mk1 X T i (ar, b, sc)) :=
  ps_w (ps_set hN hi hx (pe_lst (pa_cons he pa_nil hs1)) hs hf) fun D σ H ⟨hl, t, q⟩ => by
    refine ⟨t, fun f c' H1 e g t1 nf h1 h2 => ⟨line_of (by simp), fun L nL => ?_⟩⟩
    have keep : ∀ a o, H1 a = some o → upd H1 L (.lst [.ref f]) a = some o := fun a o z => by rw [upd_ne (ne_of_none z nL)]; exact z
    exact q L [f] _ ⟨t1.ext keep, (Kp.mk e g).upd (g L nL), g L nL, upd_same, .cons ⟨c', keep _ _ h1, keep _ _ h2⟩ .nil⟩
theorem mkr_app (h : PS X st (mkS X T i l)) (r : PSR X rest (mkT X T i (done ++ [l]) todo)) : PSR X (st :: rest) (mkT X T i done (l :: todo)) := psr_w (psr_cons h r) fun R σ H ⟨hl, H0, L, fs, h0, m, q⟩ => by
  refine ⟨H0, L, fs, done, h0, by simp at hl; omega, m, fun fs' H' m' => ⟨by simp at hl ⊢; omega, H0, L, fs', h0, m', fun fs2 H2 m2 => q fs2 H2 (by rw [List.append_assoc] at m2; exact m2)⟩⟩
theorem mkr_new (h : PS X st (mk1 X T i l)) (r : PSR X rest (mkT X T i [l] todo)) : PSR X (st :: rest) (fun R σ H => (l :: todo).length ≤ 900 ∧ i < σ.length ∧ TabsN T H ∧ ∀ L fs H', MkI X T H L fs (l :: todo) H' → R (.ref L) (σ.set i (some (.ref L))) H') := psr_w (psr_cons h r) fun R σ H ⟨hl, hi, t, q⟩ =>
  ⟨hi, t, fun L fs H' m => ⟨by simp at hl ⊢; omega, H, L, fs, List.getElem?_set_self hi, m, fun fs' H2 m2 => q L fs' H2 m2⟩⟩
theorem mkr_end {e : Expr} {pos : Pos} (he : PE X e (tVar i)) : PSR X [.Return (some e) pos] (mkT X T i done []) := psr_w (psr_ret he) fun R σ H ⟨_, H0, L, fs, h0, m, q⟩ => ⟨.ref L, h0, q fs H (by rw [List.append_nil]; exact m)⟩
end
end DL

namespace DL
open PySem PySem.Spec PyProof.Rows L2 LamX NdefX
/-! ### what a lambda's text promises -/
structure Pk where
  fr : List Str
  js : List Nat
  R : DX
structure PkOk (P : Program) (w : World) (K : PySem.W.Frag) (mg : Str → Option Value) (base : Heap) (k n : Nat) (N : List Str) (sc : Scope) (l : Lm) (p : Pk) : Prop where
  ns : NScope p.fr [] p.fr l.2.2
  bind : ∀ (nm q : Str) (cl : List (Str × Addr)) (pm cv ctv : Value), bindArgs (PySem.W.kla_fn nm q l.1 l.2.1 l.2.2 cl pm cv ctv) ⟨[], []⟩ = pure []
  free : ∀ y ∈ l.2.2.names, y.2 = .free → sc.names.lookup y.1 = some .cell ∨ sc.names.lookup y.1 = some .free
  mem : ∀ y ∈ p.fr, (y, NameKind.free) ∈ l.2.2.names
  at_ : p.js.map (fun j => N[j]?) = p.fr.map some
  lt : ∀ j ∈ p.js, j < n
  pe : ∀ (nm q : Str) (ar : Arguments) (bd : List Stmt) (cl : List (Str × Addr)) (c : Addr) (A : Around) (outer : List Env) (s : Shared) (H : Hp) (E : XK) (f : Addr), Room k (A.deeper (envF ⟨nm, q, ar, bd, l.2.2, cl, c⟩ f s.heap.objs.size)) → PE (ncx (L2.CX P w) P w K mg base p.fr ⟨nm, q, ar, bd, l.2.2, cl, c⟩ f A outer s H E) l.2.1 (eR K mg (fun cls d _ H => E cls d H) p.R)
inductive Pks (P : Program) (w : World) (K : PySem.W.Frag) (mg : Str → Option Value) (base : Heap) (k n : Nat) (N : List Str) (sc : Scope) : List Lm → List Pk → Prop
  | nil : Pks P w K mg base k n N sc [] []
  | cons {l : Lm} {p : Pk} {ls : List Lm} {ps : List Pk} : PkOk P w K mg base k n N sc l p → Pks P w K mg base k n N sc ls ps → Pks P w K mg base k n N sc (l :: ls) (p :: ps)
/-- neither a table nor a told cell -/
def NoZ (V : Hp) : Prop := (∀ a ps, V a ≠ some (.tbl ps)) ∧ ∀ a o, V a ≠ some (cellZ o)
theorem Kp.exV {V H H' : Hp} (k : Kp H H') (z : NoZ V) (e : Ex V H) : Ex V H' := fun a o h => k.ext a o (e a o h) fun ps y => z.1 a ps (by rw [h, y])
def pkD (ds : List PyData) (p : Pk) : List PyData := p.js.map fun j => ds.getD j .none
section
variable {P : Program} {w : World} {K : PySem.W.Frag} {mg : Str → Option Value} {base : Heap} {k n : Nat} {N : List Str} {sc : Scope} {V H : Hp}
theorem da_pick {vs : List L2.V} {ds : List PyData} (h : DqAll K V vs ds) : ∀ {js : List Nat}, (∀ j ∈ js, j < vs.length) → DqAll K V (js.map fun j => vs.getD j .non) (js.map fun j => ds.getD j .none)
  | [], _ => .nil
  | j :: js, hj => by
    have hl := da_len h
    have lt := hj j List.mem_cons_self
    obtain ⟨v, e1, e2⟩ := da_get h (i := j) (List.getElem?_eq_getElem (by omega))
    refine .cons ?_ (da_pick h fun x hx => hj x (List.mem_cons_of_mem _ hx))
    show Dq K V (vs.getD j .non) (ds.getD j .none)
    rw [List.getD_eq_getElem?_getD, e1, List.getD_eq_getElem?_getD, List.getElem?_eq_getElem (by omega)]
    exact e2
/-- a lambda that was made, its cells told -/
theorem lamR_of {X : Cx} {f : Addr} {l : Lm} {p : Pk} {cl : Str} {vs : List L2.V} {ds : List PyData} {ρ' : List Sl} (pk : PkOk P w K mg base k n N sc l p) (m : Made X H f l) (C : CellsT (cloFrom X.env.cells l.2.2.names []) p.fr ((p.js.map fun j => vs.getD j .non).map some) H)
    (da : DqAll K V vs ds) (hn : vs.length = n) (hV : Ex V H) (z : NoZ V) (hR : p.R ((pkD ds p).map Sl.d) = some (cl, ρ')) : LamR P w K mg base k f cl H := by
  obtain ⟨c', h1, h2⟩ := m
  exact ⟨lamF X l.1 l.2.2 c', l.2.1, p.fr, _, pkD ds p, V, p.R, ρ', pk.ns, fun pm ctv => pk.bind _ _ _ _ _ _, h1, h2, C, fun A outer s H' E f' hr => pk.pe _ _ _ _ _ _ A outer s H' E f' hr, da_pick da fun j hj => by rw [hn]; exact pk.lt j hj, hV, z.2, hR⟩
end
/-- cells that stand, told from now on -/
theorem cells_told {cl : List (Str × Addr)} {fr : List Str} {ws : List (Option L2.V)} {h : Heap} {H : Hp} {S : Addr → Prop} (C : CellsAt cl fr ws h H) (sub : ∀ y c, cl.lookup y = some c → S c) : CellsT cl fr ws (plus H (fun a => (h.get? a).map cellZ) S) := by
  have tell : ∀ y c v, cl.lookup y = some c → h.IsCell c v → ∃ o, plus H (fun a => (h.get? a).map cellZ) S c = some (cellZ o) ∧ o.data = .cell v := fun y c v e ⟨o, g, d⟩ => ⟨o, by rw [plus_in (sub y c e), g]; rfl, d⟩
  refine ⟨C.len, fun y c e => ?_, C.inj, fun i y e => ?_⟩
  · obtain ⟨_, v, z⟩ := C.all y c e
    obtain ⟨o, h1, h2⟩ := tell y c v e z
    exact ⟨o, v, h1, h2⟩
  · obtain ⟨c, h1, h2⟩ := C.has i y e
    refine ⟨c, h1, fun v hv => ?_⟩
    obtain ⟨u, r, z⟩ := h2 v hv
    obtain ⟨o, h3, h4⟩ := tell y c _ h1 z
    exact ⟨u, o, r, h3, h4⟩
/-! ### a def that makes a list of them -/
def spMk (P : Program) (w : World) (K : PySem.W.Frag) (mg : Str → Option Value) (base : Heap) (k n : Nat) (T : List NTab) (pks : List Pk) : Sp := fun vs H Q _ => vs.length = n ∧ TabsN T H ∧ ∃ V ds cl, DqAll K V vs ds ∧ Ex V H ∧ NoZ V ∧ (∀ p ∈ pks, ∃ ρ', p.R ((pkD ds p).map Sl.d) = some (cl, ρ')) ∧
  ∀ (L : Addr) (fs : List Addr) (H' : Hp), Kp H H' → TabsN T H' → H L = none → H' L = some (.lst (fs.map L2.V.ref)) → fs.length = pks.length → (∀ f ∈ fs, LamR P w K mg base k f cl H') → Q (.ref L) H'
section
variable {P : Program} {w : World} {K : PySem.W.Frag} {mg : Str → Option Value} {base : Heap} {k n : Nat} {N : List Str} {sc : Scope}
theorem all_lamR {X : Cx} {pins : List (Addr × Obj)} {σ : L2.St} {H H2 V : Hp} {s : Shared} {cl : Str} {vs : List L2.V} {ds : List PyData} (I : Inv X pins σ H s) (hsc : X.env.scope = sc) (hN : X.N = N) (hσ : ∀ j v, j < n → vs[j]? = some v → σ[j]? = some (some v)) (hn : vs.length = n) (da : DqAll K V vs ds) (hV : Ex V H2) (z : NoZ V)
    (k2 : ∀ a o, H a = some o → H2 a = some o) (tell : ∀ cl' fr ws, CellsAt cl' fr ws s.heap H → (∀ y c, cl'.lookup y = some c → X.env.cells.lookup y = some c) → CellsT cl' fr ws H2) :
    ∀ {ls : List Lm} {pks : List Pk} {fs : List Addr}, Pks P w K mg base k n N sc ls pks → (∀ p ∈ pks, ∃ ρ', p.R ((pkD ds p).map Sl.d) = some (cl, ρ')) → Mades X H fs ls → ∀ f ∈ fs, LamR P w K mg base k f cl H2
  | _, _, _, .nil, _, .nil, f, hf => by cases hf
  | _, _, _, .cons (p := p) pk r, hR, .cons m ms, f, hf => by
    rcases List.mem_cons.mp hf with e | e
    · subst e
      obtain ⟨ρ', h⟩ := hR p List.mem_cons_self
      have caps := Caps.made (js := p.js) I.ok (by rw [hsc]; exact pk.free) pk.mem (by rw [hN]; exact pk.at_)
      have C := cells_of I caps
      have ws : p.js.map (slotAt σ) = (p.js.map fun j => vs.getD j .non).map some := by
        rw [List.map_map]
        refine List.map_congr_left fun j hj => ?_
        have lt := pk.lt j hj
        have e1 : vs[j]? = some (vs.getD j .non) := by rw [List.getD_eq_getElem?_getD, List.getElem?_eq_getElem (by omega)]; rfl
        exact slotAt_of (hσ j _ lt e1)
      rw [ws] at C
      exact lamR_of pk (m.ext fun a o z _ _ => k2 a o z) (tell _ _ _ C caps.sub) da hn hV z h
    · exact all_lamR I hsc hN hσ hn da hV z k2 tell r (fun q hq => hR q (List.mem_cons_of_mem _ hq)) ms f e
theorem Pks.len {ls : List Lm} {pks : List Pk} (h : Pks P w K mg base k n N sc ls pks) : ls.length = pks.length := by induction h <;> simp_all
theorem fnMk {T : List NTab} {x qual : Str} {st : Stmt} {f c : Addr} {fd : FuncData} {ps : List Str} {i k0 : Nat} {ls : List Lm} {pks : List Pk} (Fu : Fun K x qual st f fd) (hcode : fd.code = .ref c) (S : FnScope N ps (defScope st)) (hi : i = ps.length) (hil : i < N.length)
    (hb : ∀ (A : Around) (outer : List Env) (s : Shared) (H : Hp) (E : XK), Room k0 (A.deeper (envOfC qual (defScope st) s.heap.objs.size f (.ref c))) → PSR (cxOf CX0 P w K mg base N qual (defScope st) f (.ref c) A outer s H E) (defBody st)
      (fun R σ H1 => ls.length ≤ 900 ∧ i < σ.length ∧ TabsN T H1 ∧ ∀ L fs H', MkI (cxOf CX0 P w K mg base N qual (defScope st) f (.ref c) A outer s H E) T H1 L fs ls H' → R (.ref L) (σ.set i (some (.ref L))) H'))
    (pk : Pks P w K mg base k ps.length N (defScope st) ls pks) (hlen : ls.length ≤ 900) :
    FnOk P w K mg base CX0 (k0 + 1) f fd ps (spMk P w K mg base k ps.length T pks) := by
  obtain ⟨oc, od, kV, doc, pm, an, cdv, ct, osl, rfl, lk, hcd⟩ := Fu.ex
  obtain rfl : cdv = .ref c := hcode
  refine ⟨fun vs H Q E h => h.1, fun A outer s H args us vs Q E hr e0 bind rel hsp => ?_⟩
  obtain ⟨hl, hT, V, ds, cl, da, hV, z, hR, q⟩ := hsp
  have kin : K.In s.heap := e0.mod.kin.keeps fun a o y => (e0.bs a o y).1
  have lim : s.heap.NoLimit := e0.mod.nolimit.keeps fun a o y => (e0.bs a o y).1
  refine codeAny_call_function hr.depth (kin _ _ lk) rfl S.co S.gen rfl (PySem.W.codeRec_of kin hcd) (bind _ _ _ _ ?_)
  refine wpAny_newFunctionEnv_cells S.kind (fun ⟨n, v⟩ hy => (S.par n (List.of_mem_zip hy).1).elim .inl fun q => .inr ⟨q, PySem.W.cellsFrom_some _ _ _ (.inl q)⟩) fun env he s1 x => ?_
  subst he
  refine ⟨lim.keeps x.toInCall.keep, codeAny_func ?_⟩
  have I := inv_start (CX := CX0) (E := E) S hr.hd e0 hl rel x
  have sl : (L2.start N vs).length = N.length := I.len
  refine wpAny_mono ((hb A outer s H E (hr.deeper _)).run [] s1 _ H (fun v σ' H' => ∃ L fs, v = .ref L ∧ σ' = (L2.start N vs).set i (some (.ref L)) ∧ MkI (cxOf CX0 P w K mg base N qual (defScope st) f (.ref c) A outer s H E) T H L fs ls H') I ⟨hlen, by rw [sl]; exact hil, hT, fun L fs H' m => ⟨L, fs, rfl, rfl, m⟩⟩) (fun fl s' hs => ?_) fun e s' hs => hs
  obtain ⟨u, v, σ', H', rfl, J, rv, L, fs, rfl, rfl, t', kp, nL, hL, md⟩ := hs
  have free : ∀ a, clS (cxOf CX0 P w K mg base N qual (defScope st) f (.ref c) A outer s H E).env.cells a → H' a = none := fun a ⟨y, e⟩ => J.freeC y a e
  have out : ∀ a o, H' a = some o → plus H' (fun a => (s'.heap.get? a).map cellZ) (clS (cxOf CX0 P w K mg base N qual (defScope st) f (.ref c) A outer s H E).env.cells) a = some o := fun a o e => by
    rw [plus_out fun hs => by rw [free a hs] at e; cases e]
    exact e
  have low : ∀ a, clS (cxOf CX0 P w K mg base N qual (defScope st) f (.ref c) A outer s H E).env.cells a → s.heap.objs.size ≤ a := fun a ⟨y, e⟩ => J.ok.cab y a rfl e
  refine ⟨.ref L, plus H' (fun a => (s'.heap.get? a).map cellZ) (clS (cxOf CX0 P w K mg base N qual (defScope st) f (.ref c) A outer s H E).env.cells), J.os, J.bare, ?_, hok_plus J.hok free (fun a ⟨y, e⟩ => ?_), rv, ?_⟩
  · have un := J.base
    refine ⟨un.keep, un.slot, fun b o e n hx => ?_, un.there, fun b xs e => out _ _ (un.tups b xs e), fun b o v e => out _ _ (un.frzs b o v e), fun b ps e => ?_⟩
    · rw [plus_out fun hs => absurd (Nat.lt_of_lt_of_le (Heap.lt_size e) (low b hs)) (Nat.lt_irrefl _)]
      exact un.free b o e n hx
    · obtain ⟨m, e'⟩ := un.tbls b ps e
      exact ⟨m, out _ _ e'⟩
  · obtain ⟨v, o, g, d⟩ := J.cell y a e
    exact ⟨o, by rw [g]; rfl, g⟩
  · have kp2 : Kp H (plus H' (fun a => (s'.heap.get? a).map cellZ) (clS (cxOf CX0 P w K mg base N qual (defScope st) f (.ref c) A outer s H E).env.cells)) := kp.trans ⟨fun a o e _ => out a o e, fun a e => by
      cases y : H' a with
      | none => rfl
      | some o => rw [out a o y] at e; cases e⟩
    refine q L fs _ kp2 (t'.ext out) nL (out _ _ hL) (by rw [md.len, pk.len]) ?_
    refine all_lamR J rfl rfl (fun j v hj hv => ?_) hl da (kp2.exV z hV) z out (fun cl' fr ws C sub => cells_told C fun y c e => ⟨y, sub y c e⟩) pk hR md
    rw [List.getElem?_set_ne (by omega)]
    unfold L2.start
    rw [List.getElem?_append_left (by rw [List.length_map]; omega), List.getElem?_map, hv]
    rfl
end
end DL

namespace DL
open PySem PySem.Spec PyProof.Rows L2 LamX NdefX
/-! ### the maker calls: its own cells are told for the time of the call -/
/-- what a lambda's text finds in its cells -/
def PkD (K : PySem.W.Frag) (V : Hp) (σ : L2.St) (cl : Str) (p : Pk) : Prop := ∃ (ws : List L2.V) (ds : List PyData) (ρ' : List Sl), p.js.map (slotAt σ) = ws.map some ∧ DqAll K V ws ds ∧ p.R (ds.map Sl.d) = some (cl, ρ')
section
variable {P : Program} {w : World} {K : PySem.W.Frag} {mg : Str → Option Value} {base : Heap} {k n : Nat} {N : List Str} {sc : Scope}
theorem all_lamR2 {X : Cx} {pins : List (Addr × Obj)} {σ : L2.St} {H H2 V : Hp} {s : Shared} {cl : Str} (I : Inv X pins σ H s) (hsc : X.env.scope = sc) (hN : X.N = N) (hV : Ex V H2) (z : NoZ V)
    (k2 : ∀ a o, H a = some o → H2 a = some o) (tell : ∀ cl' fr ws, CellsAt cl' fr ws s.heap H → (∀ y c, cl'.lookup y = some c → X.env.cells.lookup y = some c) → CellsT cl' fr ws H2) :
    ∀ {ls : List Lm} {pks : List Pk} {fs : List Addr}, Pks P w K mg base k n N sc ls pks → (∀ p ∈ pks, PkD K V σ cl p) → Mades X H fs ls → ∀ f ∈ fs, LamR P w K mg base k f cl H2
  | _, _, _, .nil, _, .nil, f, hf => by cases hf
  | _, _, _, .cons (p := p) pk r, hR, .cons m ms, f, hf => by
    rcases List.mem_cons.mp hf with e | e
    · subst e
      obtain ⟨ws, ds, ρ', e1, da, h⟩ := hR p List.mem_cons_self
      have caps := Caps.made (js := p.js) I.ok (by rw [hsc]; exact pk.free) pk.mem (by rw [hN]; exact pk.at_)
      have C := cells_of I caps
      rw [e1] at C
      obtain ⟨c', h1, h2⟩ := m.ext (H' := H2) fun a o z _ _ => k2 a o z
      exact ⟨lamF X _ _ c', _, p.fr, ws, ds, V, p.R, ρ', pk.ns, fun pm ctv => pk.bind _ _ _ _ _ _, h1, h2, tell _ _ _ C caps.sub, fun A outer s H' E f' hr => pk.pe _ _ _ _ _ _ A outer s H' E f' hr, da, hV, z.2, h⟩
    · exact all_lamR2 I hsc hN hV z k2 tell r (fun q hq => hR q (List.mem_cons_of_mem _ hq)) ms f e
end
/-- the calls of a list of own lambdas, all of which raise cl -/
def tOwnL (X : Cx) (V : Hp) (pks : List Pk) (ls : List Lm) (cl : Str) (t : TA) : TE := fun σ H Q => t σ H fun vs H1 => ∃ (L : Addr) (fs : List Addr), vs = [.ref L, .str cl] ∧ H1 L = some (.lst (fs.map L2.V.ref)) ∧ fs.length ≤ 1000 ∧ Mades X H1 fs ls ∧ Ex V H1 ∧ NoZ V ∧ (∀ p ∈ pks, PkD X.K V σ cl p) ∧ ∀ H', Ex H1 H' → Q (.bl true) H'
theorem pe_ownL {X : Cx} {k ka n : Nat} {fa : Addr} {fda : FuncData} {names : List Str} {V : Hp} {ls : List Lm} {pks : List Pk} {cl x : Str} {t : TA} {e : Expr} {es : List Expr} {p pos : Pos} (hcl : cl ∈ names) (hfn : ∀ y, X.fn y = true) (hout : X.stack = X.env :: X.outer)
    (pk : Pks X.prog X.w X.K X.mg X.base k n X.N X.env.scope ls pks) (Fa : FnOk X.prog X.w X.K X.mg X.base CX0 ka fa fda ["calls", "name"] (spAll X.prog X.w X.K X.mg X.base k names)) (hr : Room ka X.A) (hg : Gl X x) (hm : X.mg x = some (.ref fa)) (hk : PySem.W.keepIn X.K (.ref fa) = true) (hb : Binds X.K fda ["calls", "name"] [])
    (ha : PA X (e :: es) t) (hdb : (x == ("__debug__" : Str)) = false := by decide) (he : starEach (e :: es) X.env = (false, eval e X.env) :: starEach es X.env := by rfl) (hpl : (backTo pos (starEach es X.env)).any (·.1) = false := by rfl) :
    PE X (.Call (.Name x p) (e :: es) [] pos) (tOwnL X V pks ls cl t) := by
  refine ⟨fun pins s σ H Q I h => ?_⟩
  refine wpAny_Call_Name_kw (ld_glob I hg hm ?_ hdb)
  refine PySem.W.callWith_K (h₀ := X.base) I.ok.mod.kin hk (thn (ha.run pos pins s σ H _ I h) fun us s1 ⟨vs, H1, J, r, L, fs, ev, hL, hl, md, hV, z, hD, q⟩ => ⟨J.kIn, ?_⟩) he hpl
  subst ev
  generalize hS : clS X.env.cells = S
  have sub : ∀ y c, X.env.cells.lookup y = some c → S c := fun y c e => by rw [← hS]; exact ⟨y, e⟩
  have free : ∀ a, S a → H1 a = none := fun a ha => by rw [← hS] at ha; obtain ⟨y, e⟩ := ha; exact J.freeC y a e
  have low : ∀ a, S a → X.s_0.heap.objs.size ≤ a := fun a ha => by rw [← hS] at ha; obtain ⟨y, e⟩ := ha; exact J.ok.cab y a (hfn y) e
  have cellAt : ∀ a, S a → ∃ v o, s1.heap.get? a = some o ∧ o.data = .cell v := fun a ha => by rw [← hS] at ha; obtain ⟨y, e⟩ := ha; obtain ⟨v, o, g, d⟩ := J.cell y a e; exact ⟨v, o, g, d⟩
  have notLoc : ∀ a, S a → a ≠ X.env.locals := fun a ha => by rw [← hS] at ha; obtain ⟨y, e⟩ := ha; exact J.cne y a e
  have nofr : ∀ a, S a → a ∉ frs X.stack := fun a ha hb => by
    rcases List.mem_cons.mp (J.stkSub a hb) with k | k
    · exact notLoc a ha k
    · obtain ⟨_, o, ho, _⟩ := J.ok.funs.mem k
      exact absurd (Nat.lt_of_lt_of_le (Heap.lt_size ho) (low a ha)) (Nat.lt_irrefl _)
  generalize hH : plus H1 (fun a => (s1.heap.get? a).map cellZ) S = Hp1
  have out : ∀ a o, H1 a = some o → Hp1 a = some o := fun a o e => by
    rw [← hH, plus_out fun hs => by rw [free a hs] at e; cases e]
    exact e
  have inn : ∀ a, S a → ∃ o, Hp1 a = some (cellZ o) ∧ s1.heap.get? a = some o := fun a ha => by
    obtain ⟨v, o, g, _⟩ := cellAt a ha
    exact ⟨o, by rw [← hH, plus_in ha, g]; rfl, g⟩
  have z1 : Zs Hp1 S := fun a ha => let ⟨o, h1, _⟩ := inn a ha; ⟨o, h1⟩
  have mns : ∀ b, ¬ S b → Hp1 b = H1 b := fun b hb => by rw [← hH, plus_out hb]
  have e0 : Env0 X.prog X.w X.K X.mg X.base X.A X.stack s1 Hp1 := by
    have e := J.env0
    refine ⟨e.frames, e.mod, fun b o y => ⟨(e.bs b o y).1, ?_⟩, e.bsz, e.funs, fun b hb => ?_, ?_, e.bare⟩
    · rw [mns b fun hs => ?_]
      · exact (e.bs b o y).2
      · exact absurd (Nat.lt_of_lt_of_le (Heap.lt_size y) (Nat.le_trans J.ok.bsz (low b hs))) (Nat.lt_irrefl _)
    · rw [mns b fun hs => nofr b hs hb]
      exact e.frf b hb
    · rw [← hH]
      exact hok_plus e.hok free fun a ha => by
        obtain ⟨v, o, g, _⟩ := cellAt a ha
        exact ⟨o, by rw [g]; rfl, g⟩
  have lam : ∀ f ∈ fs, LamR X.prog X.w X.K X.mg X.base k f cl Hp1 := all_lamR2 J rfl rfl (hV.trans out) z out (fun cl' fr ws C sb => by rw [← hH]; exact cells_told C fun y c e => sub y c (sb y c e)) pk hD md
  have hl2 : us.length = 2 := by rw [← r.length]; rfl
  have bnd := hb s1 us J.kIn (by rw [List.append_nil]; exact hl2)
  rw [List.append_nil] at bnd
  refine wpAny_call (codeAny_mono (Fa.run X.A X.stack s1 Hp1 ⟨us, []⟩ us [.ref L, .str cl] (fun v H' => v = .bl true ∧ Ex Hp1 H') E0 hr e0 bnd r ⟨rfl, L, fs, cl, rfl, out _ _ hL, hl, hcl, lam, fun H' ex => ⟨rfl, ex⟩⟩) fun r' s' hc => ?_)
  cases r' with
  | error e => exact hc.elim
  | ok fl =>
    cases fl with
    | next => exact False.elim hc
    | brk => exact False.elim hc
    | cont => exact False.elim hc
    | ret u =>
      obtain ⟨v, H', os, bare, un, hok, rv, rfl, ex⟩ := hc
      have z2 : Zs H' S := fun a ha => let ⟨o, h1⟩ := z1 a ha; ⟨o, ex _ _ h1⟩
      have keep : ∀ a o, H1 a = some o → minus H' S a = some o := fun a o e => by
        rw [minus_out fun hs => by rw [free a hs] at e; cases e]
        exact ex _ _ (out _ _ e)
      refine J.after ⟨.bl true, minus H' S, os, bare, ⟨fun b o e n hb hx => ?_, fun b o e n hb hx => ?_, fun b o e n hx => ?_, un.there, fun b xs e => keep _ _ e, fun b o v e => keep _ _ e, fun b ps e => ⟨#[], by rw [Array.append_empty]; exact keep _ _ e⟩⟩, hok_minus z2 hok, rv, q _ keep⟩
      · by_cases hs : S b
        · obtain ⟨o', h1, h2⟩ := inn b hs
          rw [e] at h2
          cases h2
          exact (hok b _ (ex _ _ h1)).1
        · exact un.keep b o e (by rw [mns b hs]; exact n) hb hx
      · exact un.slot b o e (by rw [mns b fun hs => nofr b hs hb]; exact n) hb hx
      · by_cases hs : S b
        · exact minus_in hs
        · rw [minus_out hs]
          exact un.free b o e (by rw [mns b hs]; exact n) hx
end DL

namespace DL
open PySem PySem.Spec PyProof.Rows L2 LamX NdefX
/-! ### a law whose names keep their values -/
/-- some slots hold these values; V is frozen; the tables stand -/
structure LW (T : List NTab) (V : Hp) (n : Nat) (fx : List (Nat × L2.V)) (σ : L2.St) (H : Hp) : Prop where
  len : σ.length = n
  at_ : ∀ p ∈ fx, σ[p.1]? = some (some p.2)
  ex : Ex V H
  tab : TabsN T H
theorem LW.ext {T : List NTab} {V : Hp} {n : Nat} {fx : List (Nat × L2.V)} {σ : L2.St} {H H' : Hp} (l : LW T V n fx σ H) (e : Ex H H') : LW T V n fx σ H' := ⟨l.len, l.at_, l.ex.trans e, l.tab.ext e⟩
theorem LW.set {T : List NTab} {V : Hp} {n : Nat} {fx : List (Nat × L2.V)} {σ : L2.St} {H : Hp} {i : Nat} {v : L2.V} (l : LW T V n fx σ H) (hi : ∀ p ∈ fx, p.1 ≠ i) : LW T V n fx (σ.set i (some v)) H := ⟨by rw [List.length_set]; exact l.len, fun p hp => by rw [List.getElem?_set_ne (Ne.symm (hi p hp))]; exact l.at_ p hp, l.ex, l.tab⟩
theorem LW.more {T : List NTab} {V : Hp} {n : Nat} {fx : List (Nat × L2.V)} {σ : L2.St} {H : Hp} {i : Nat} {v : L2.V} (l : LW T V n fx σ H) (hi : ∀ p ∈ fx, p.1 ≠ i) (hn : i < n) : LW T V n ((i, v) :: fx) (σ.set i (some v)) H :=
  ⟨by rw [List.length_set]; exact l.len, fun p hp => by
    rcases List.mem_cons.mp hp with e | e
    · rw [e]; exact List.getElem?_set_self (by rw [l.len]; exact hn)
    · rw [List.getElem?_set_ne (Ne.symm (hi p e))]; exact l.at_ p e, l.ex, l.tab⟩
theorem LW.less {T : List NTab} {V : Hp} {n : Nat} {fx gx : List (Nat × L2.V)} {σ : L2.St} {H : Hp} (l : LW T V n fx σ H) (h : ∀ p ∈ gx, p ∈ fx) : LW T V n gx σ H := ⟨l.len, fun p hp => l.at_ p (h p hp), l.ex, l.tab⟩
theorem ex_kp {H H' : Hp} (e : Ex H H') : Kp H H' := ⟨fun a o z _ => e a o z, fun a z => e.back z⟩
theorem LW.kp {T : List NTab} {V : Hp} {n : Nat} {fx : List (Nat × L2.V)} {σ : L2.St} {H H' : Hp} (l : LW T V n fx σ H) (z : NoZ V) (k : Kp H H') (t : TabsN T H') : LW T V n fx σ H' := ⟨l.len, l.at_, k.exV z l.ex, t⟩
/-- what such a state must bear -/
structure IOk (T : List NTab) (V : Hp) (I : L2.St → Hp → Prop) : Prop where
  kp : ∀ σ H H', I σ H → Kp H H' → TabsN T H' → I σ H'
  tab : ∀ σ H, I σ H → TabsN T H
  ex : ∀ σ H, I σ H → Ex V H
theorem iok_LW {T : List NTab} {V : Hp} {n : Nat} {fx : List (Nat × L2.V)} (z : NoZ V) : IOk T V (LW T V n fx) := ⟨fun _ _ _ l k t => l.kp z k t, fun _ _ l => l.tab, fun _ _ l => l.ex⟩
/-- .. and a list of own lambdas in slot i -/
def LL_ (X : Cx) (T : List NTab) (V : Hp) (n : Nat) (fx : List (Nat × L2.V)) (i : Nat) (ls : List Lm) : L2.St → Hp → Prop := fun σ H => LW T V n fx σ H ∧ ∃ (L : Addr) (fs : List Addr), σ[i]? = some (some (.ref L)) ∧ V L = none ∧ H L = some (.lst (fs.map L2.V.ref)) ∧ Mades X H fs ls
theorem iok_LL {X : Cx} {T : List NTab} {V : Hp} {n : Nat} {fx : List (Nat × L2.V)} {i : Nat} {ls : List Lm} (z : NoZ V) : IOk T V (LL_ X T V n fx i ls) :=
  ⟨fun σ H H' ⟨l, L, fs, h1, hv, h2, h3⟩ k t => ⟨l.kp z k t, L, fs, h1, hv, k.ext _ _ h2 (fun ps z => by cases z), h3.ext fun a o e n1 _ => k.ext a o e n1⟩, fun _ _ l => l.1.tab, fun _ _ l => l.1.ex⟩
def pS (I : L2.St → Hp → Prop) : TS := fun D σ H => I σ H ∧ ∀ σ' H', I σ' H' → D.nx σ' H'
def rS (I : L2.St → Hp → Prop) : TS := fun D σ H => I σ H ∧ ∀ H', D.rt (.bl true) H'
def cT (I : L2.St → Hp → Prop) : TE := fun σ H Q => I σ H ∧ ∀ H', I σ H' → Q (.bl true) H'
def nT (I : L2.St → Hp → Prop) : TT := fun σ H Q => I σ H ∧ ∀ H', I σ H' → Q false H'
section
variable {X : Cx} {I J : L2.St → Hp → Prop} {st : Stmt} {rest : List Stmt} {a b : Expr} {pos p1 p2 p3 : Pos} {T : List NTab} {V : Hp}
theorem pI_cons (h1 : PS X st (pS I)) (h2 : PSs X rest (rS I)) : PSs X (st :: rest) (rS I) := pss_w (pss_cons h1 h2) fun D σ H ⟨i, q⟩ => ⟨i, fun σ' H' i' => ⟨i', q⟩⟩
theorem ct_not (h : PE X a (cT I)) (he : ∀ whole, isTrue a X.env whole = (do let v ← whole; standAt a.pos; holding [v] (truthy v)) := by intro _; rfl) : PT X (.UnaryOp .Not a pos) (nT I) := pt_w (pt_not (pt_val h he)) fun σ H Q ⟨i, q⟩ => ⟨i, fun H' i' => ⟨true, rfl, q H' i'⟩⟩
theorem ct_or (ha : PT X a (nT I)) (hb : PT X b (nT I)) : PT X (.BoolOp .Or [a, b] pos) (nT I) := PW.pt (pw_w (pw_or ha (pw_or1 hb)) fun σ H Q ⟨i, q⟩ => ⟨i, fun H' i' => by
  dsimp only
  rw [if_neg (by decide)]
  exact ⟨i', q⟩⟩)
/-- if t: return False, t not so -/
theorem ps_ifI {j : Nat} (ht : PT X a (nT I)) : PS X (.If a [.Return (some (.Constant (.bool false) j p1)) p2] [] pos) (pS I) := ps_w (ps_if ht (pss_one (ps_ret pe_bl)) pss_nil) fun D σ H ⟨i, q⟩ => ⟨i, fun H' i' => by
  dsimp only
  rw [if_neg (by decide)]
  exact q σ H' i'⟩
variable {k ka km n : Nat} {fa fm : Addr} {fda fdm : FuncData} {names ps : List Str} {cl x y : Str} {ls : List Lm} {pks : List Pk} {t : TA} {e : Expr} {es : List Expr}
/-- _law_all(maker(..), cl) -/
theorem pe_mkr {vs : List L2.V} {ds : List PyData} {j : Nat} (ok : IOk T V I) (z : NoZ V) (hcl : cl ∈ names) (Fa : FnOk X.prog X.w X.K X.mg X.base CX0 ka fa fda ["calls", "name"] (spAll X.prog X.w X.K X.mg X.base k names)) (hra : Room ka X.A) (hga : Gl X x) (hma : X.mg x = some (.ref fa)) (hka : PySem.W.keepIn X.K (.ref fa) = true) (hba : Binds X.K fda ["calls", "name"] [])
    (Fm : FnOk X.prog X.w X.K X.mg X.base CX0 km fm fdm ps (spMk X.prog X.w X.K X.mg X.base k ps.length T pks)) (hrm : Room km X.A) (hgm : Gl X y) (hmm : X.mg y = some (.ref fm)) (hkm : PySem.W.keepIn X.K (.ref fm) = true) (hbm : Binds X.K fdm ps [])
    (hl : vs.length = ps.length) (hp : pks.length ≤ 1000) (da : DqAll X.K V vs ds) (hR : ∀ p ∈ pks, ∃ ρ', p.R ((pkD ds p).map Sl.d) = some (cl, ρ')) (ha : PA X (e :: es) t) (ht : ∀ σ H Q, I σ H → Q vs H → t σ H Q)
    (hdb : (x == ("__debug__" : Str)) = false := by decide) (hdb2 : (y == ("__debug__" : Str)) = false := by decide) (he : starEach (e :: es) X.env = (false, eval e X.env) :: starEach es X.env := by rfl) (hpl : (backTo p1 (starEach es X.env)).any (·.1) = false := by rfl)
    (he2 : starEach [.Call (.Name y p2) (e :: es) [] p1, .Constant (.str cl) j p3] X.env = (false, eval (.Call (.Name y p2) (e :: es) [] p1) X.env) :: starEach [.Constant (.str cl) j p3] X.env := by rfl) (he3 : starEach [.Constant (.str cl) j p3] X.env = (false, eval (.Constant (.str cl) j p3) X.env) :: starEach [] X.env := by rfl) (hpl2 : (backTo pos (starEach [.Constant (.str cl) j p3] X.env)).any (·.1) = false := by rfl) {p4 : Pos} :
    PE X (.Call (.Name x p4) [.Call (.Name y p2) (e :: es) [] p1, .Constant (.str cl) j p3] [] pos) (cT I) :=
  pe_w (pe_call Fa hra hga hma hka hba .nil (E := E0) pass0 (pa_cons (pe_call Fm hrm hgm hmm hkm hbm .nil (E := E0) pass0 ha hdb2 he hpl) (pa_cons pe_str pa_nil he3) he2) hdb he2 hpl2) fun σ H Q ⟨i, q⟩ => by
    refine ht σ H _ i ?_
    show spMk X.prog X.w X.K X.mg X.base k ps.length T pks (vs ++ []) H _ E0
    rw [List.append_nil]
    refine ⟨hl, ok.tab σ H i, V, ds, cl, da, ok.ex σ H i, z, hR, fun L fs H' kp tb nL hL hn lam => ⟨rfl, L, fs, cl, rfl, hL, by omega, hcl, lam, fun H2 ex => ?_⟩⟩
    exact q H2 (ok.kp σ H H2 i (kp.trans (ex_kp ex)) (tb.ext ex))
/-- _law_all([lambda: ..], cl) -/
theorem pe_inl {ar : Arguments} {bd : Expr} {sc : Scope} {j : Nat} {p4 p5 p6 : Pos} (ok : IOk T V I) (z : NoZ V) (hcl : cl ∈ names) (hfn : ∀ y, X.fn y = true) (hout : X.stack = X.env :: X.outer) (pk : Pks X.prog X.w X.K X.mg X.base k n X.N X.env.scope [(ar, bd, sc)] pks) (Fa : FnOk X.prog X.w X.K X.mg X.base CX0 ka fa fda ["calls", "name"] (spAll X.prog X.w X.K X.mg X.base k names)) (hra : Room ka X.A) (hga : Gl X x) (hma : X.mg x = some (.ref fa)) (hka : PySem.W.keepIn X.K (.ref fa) = true) (hba : Binds X.K fda ["calls", "name"] [])
    (hm : PE X (.Lambda ar bd sc p1) (tLm T (lamF X ar sc) bd)) (hD : ∀ σ H, I σ H → ∀ p ∈ pks, PkD X.K V σ cl p) (hdb : (x == ("__debug__" : Str)) = false := by decide)
    (hs1 : starEach [.Lambda ar bd sc p1] X.env = (false, eval (.Lambda ar bd sc p1) X.env) :: starEach [] X.env := by rfl) (hs2 : starEach [.List [.Lambda ar bd sc p1] p2, .Constant (.str cl) j p3] X.env = (false, eval (.List [.Lambda ar bd sc p1] p2) X.env) :: starEach [.Constant (.str cl) j p3] X.env := by rfl)
    (hs3 : starEach [.Constant (.str cl) j p3] X.env = (false, eval (.Constant (.str cl) j p3) X.env) :: starEach [] X.env := by rfl) (hpl : (backTo pos (starEach [.Constant (.str cl) j p3] X.env)).any (·.1) = false := by rfl) :
    PE X (.Call (.Name x p4) [.List [.Lambda ar bd sc p1] p2, .Constant (.str cl) j p3] [] pos) (cT I) :=
  pe_w (pe_ownL (V := V) (pks := pks) (cl := cl) hcl hfn hout pk Fa hra hga hma hka hba (pa_cons (pe_lst (pa_cons hm pa_nil hs1)) (pa_cons pe_str pa_nil hs3) hs2) hdb hs2 hpl) fun σ H Q ⟨i, q⟩ => by
    refine ⟨ok.tab σ H i, fun f c' H1 e g t1 nf h1 h2 => ⟨line_of (by simp), fun L nL => ?_⟩⟩
    have keep : ∀ a o, H1 a = some o → upd H1 L (.lst [.ref f]) a = some o := fun a o y => by rw [upd_ne (ne_of_none y nL)]; exact y
    have kp : Kp H (upd H1 L (.lst [.ref f])) := (Kp.mk e g).trans (ex_kp keep)
    refine ⟨L, [f], rfl, upd_same, by simp, .cons ⟨c', keep _ _ h1, keep _ _ h2⟩ .nil, kp.exV z (ok.ex σ H i), z, hD σ H i, fun H' ex => q H' (ok.kp σ H H' i (kp.trans (ex_kp ex)) ((t1.ext keep).ext ex))⟩
/-- _law_all(name, cl), the name holding own lambdas -/
theorem pe_slot {fx : List (Nat × L2.V)} {i j N0 : Nat} {c : Expr} {p4 : Pos} (z : NoZ V) (hl : ls.length ≤ 900) (hcl : cl ∈ names) (hfn : ∀ y, X.fn y = true) (hout : X.stack = X.env :: X.outer) (pk : Pks X.prog X.w X.K X.mg X.base k n X.N X.env.scope ls pks) (Fa : FnOk X.prog X.w X.K X.mg X.base CX0 ka fa fda ["calls", "name"] (spAll X.prog X.w X.K X.mg X.base k names)) (hra : Room ka X.A) (hga : Gl X x) (hma : X.mg x = some (.ref fa)) (hka : PySem.W.keepIn X.K (.ref fa) = true) (hba : Binds X.K fda ["calls", "name"] [])
    (hc : PE X c (tVar i)) (hD : ∀ σ H, LW T V N0 fx σ H → ∀ p ∈ pks, PkD X.K V σ cl p) (hdb : (x == ("__debug__" : Str)) = false := by decide)
    (hs2 : starEach [c, .Constant (.str cl) j p3] X.env = (false, eval c X.env) :: starEach [.Constant (.str cl) j p3] X.env := by rfl) (hs3 : starEach [.Constant (.str cl) j p3] X.env = (false, eval (.Constant (.str cl) j p3) X.env) :: starEach [] X.env := by rfl) (hpl : (backTo pos (starEach [.Constant (.str cl) j p3] X.env)).any (·.1) = false := by rfl) :
    PE X (.Call (.Name x p4) [c, .Constant (.str cl) j p3] [] pos) (cT (LL_ X T V N0 fx i ls)) :=
  pe_w (pe_ownL (V := V) (pks := pks) (cl := cl) hcl hfn hout pk Fa hra hga hma hka hba (pa_cons hc (pa_cons pe_str pa_nil hs3) hs2) hdb hs2 hpl) fun σ H Q ⟨⟨l, L, fs, h1, hv, h2, h3⟩, q⟩ => by
    refine ⟨.ref L, h1, L, fs, rfl, h2, by rw [h3.len]; omega, h3, l.ex, z, hD σ H l, fun H' ex => q H' ?_⟩
    exact (iok_LL z).kp σ H H' ⟨l, L, fs, h1, hv, h2, h3⟩ (ex_kp ex) (l.tab.ext ex)
/-! ### making, then asking -/
def aft (X : Cx) (T : List NTab) (V : Hp) (n : Nat) (fx : List (Nat × L2.V)) (i : Nat) (ls : List Lm) : TS := fun D σ H => ls.length ≤ 900 ∧ LL_ X T V n fx i ls σ H ∧ ∀ σ' H', LW T V n fx σ' H' → D.nx σ' H'
theorem aft_new {fx : List (Nat × L2.V)} {i N0 : Nat} {l : Lm} (z : NoZ V) (hi : ∀ p ∈ fx, p.1 ≠ i) (hn : i < N0) (h : PS X st (mk1 X T i l)) (r : PSs X rest (aft X T V N0 fx i [l])) : PSs X (st :: rest) (pS (LW T V N0 fx)) := pss_w (pss_cons h r) fun D σ H ⟨lw, q⟩ =>
  ⟨by rw [lw.len]; exact hn, lw.tab, fun L fs H' ⟨t, kp, nL, hL, md⟩ => ⟨by simp, ⟨(lw.kp z kp t).set hi, L, fs, List.getElem?_set_self (by rw [lw.len]; exact hn), lw.ex.back nL, hL, md⟩, q⟩⟩
theorem aft_app {fx : List (Nat × L2.V)} {i N0 : Nat} {l : Lm} (z : NoZ V) (hl : ls.length < 800) (h : PS X st (mkS X T i l)) (r : PSs X rest (aft X T V N0 fx i (ls ++ [l]))) : PSs X (st :: rest) (aft X T V N0 fx i ls) := pss_w (pss_cons h r) fun D σ H ⟨_, ⟨lw, L, fs, h1, hv, h2, h3⟩, q⟩ => by
  refine ⟨minus H (fun a => a = L), L, fs, ls, h1, by omega, ⟨lw.tab, ⟨fun a o e _ => minus_ex a o e, fun a e => by
    cases y : minus H (fun a => a = L) a with
    | none => rfl
    | some o => rw [minus_ex a o y] at e; cases e⟩, minus_in rfl, h2, h3⟩, fun fs' H' ⟨t, kp, nL, hL, md⟩ => ⟨by simp; omega, ⟨?_, L, fs', h1, hv, hL, md⟩, q⟩⟩
  refine ⟨lw.len, lw.at_, fun a o e => ?_, t⟩
  have nl : a ≠ L := fun y => by rw [y, hv] at e; cases e
  exact kp.ext a o (by rw [minus_out (F := fun a => a = L) nl]; exact lw.ex a o e) fun ps y => z.1 a ps (by rw [e, y])
theorem aft_if {fx : List (Nat × L2.V)} {i N0 j : Nat} (z : NoZ V) (ht : PT X a (nT (LL_ X T V N0 fx i ls))) : PSs X [.If a [.Return (some (.Constant (.bool false) j p1)) p2] [] pos] (aft X T V N0 fx i ls) := pss_w (pss_one (ps_ifI ht)) fun D σ H ⟨_, l, q⟩ => ⟨l, fun σ' H' l' => q σ' H' l'.1⟩
theorem aft_ifR {fx : List (Nat × L2.V)} {i N0 j : Nat} (z : NoZ V) (ht : PT X a (nT (LL_ X T V N0 fx i ls))) (r : PSs X rest (rS (LW T V N0 fx))) : PSs X (.If a [.Return (some (.Constant (.bool false) j p1)) p2] [] pos :: rest) (fun D σ H => LL_ X T V N0 fx i ls σ H ∧ ∀ H', D.rt (.bl true) H') := pss_w (pss_cons (ps_ifI ht) r) fun D σ H ⟨l, q⟩ => ⟨l, fun σ' H' l' => ⟨l'.1, q⟩⟩
theorem aft_newR {fx : List (Nat × L2.V)} {i N0 : Nat} {l : Lm} (z : NoZ V) (hi : ∀ p ∈ fx, p.1 ≠ i) (hn : i < N0) (h : PS X st (mk1 X T i l)) (r : PSs X rest (fun D σ H => LL_ X T V N0 fx i [l] σ H ∧ ∀ H', D.rt (.bl true) H')) : PSs X (st :: rest) (rS (LW T V N0 fx)) := pss_w (pss_cons h r) fun D σ H ⟨lw, q⟩ =>
  ⟨by rw [lw.len]; exact hn, lw.tab, fun L fs H' ⟨t, kp, nL, hL, md⟩ => ⟨⟨(lw.kp z kp t).set hi, L, fs, List.getElem?_set_self (by rw [lw.len]; exact hn), lw.ex.back nL, hL, md⟩, q⟩⟩
theorem aft_appR {fx : List (Nat × L2.V)} {i N0 : Nat} {l : Lm} (z : NoZ V) (hl : ls.length < 800) (h : PS X st (mkS X T i l)) (r : PSs X rest (fun D σ H => LL_ X T V N0 fx i (ls ++ [l]) σ H ∧ ∀ H', D.rt (.bl true) H')) : PSs X (st :: rest) (fun D σ H => LL_ X T V N0 fx i ls σ H ∧ ∀ H', D.rt (.bl true) H') := pss_w (pss_cons h r) fun D σ H ⟨⟨lw, L, fs, h1, hv, h2, h3⟩, q⟩ => by
  refine ⟨minus H (fun a => a = L), L, fs, ls, h1, by omega, ⟨lw.tab, ⟨fun a o e _ => minus_ex a o e, fun a e => by
    cases y : minus H (fun a => a = L) a with
    | none => rfl
    | some o => rw [minus_ex a o y] at e; cases e⟩, minus_in rfl, h2, h3⟩, fun fs' H' ⟨t, kp, nL, hL, md⟩ => ⟨⟨?_, L, fs', h1, hv, hL, md⟩, q⟩⟩
  refine ⟨lw.len, lw.at_, fun a o e => ?_, t⟩
  have nl : a ≠ L := fun y => by rw [y, hv] at e; cases e
  exact kp.ext a o (by rw [minus_out (F := fun a => a = L) nl]; exact lw.ex a o e) fun ps y => z.1 a ps (by rw [e, y])
/-- for name in (constants): .. -/
theorem ps_forI {fx : List (Nat × L2.V)} {i N0 : Nat} {v0 : Str} {it : Expr} {tl : TE} {body : List Stmt} {xs : List L2.V} (z : NoZ V) (hi : ∀ p ∈ fx, p.1 ≠ i) (hn : i < N0) (hp : PassesOwn (model X.prog X.w) X.A X.env X.xe) (hc : X.calm = true) (hit : PE X it tl) (htl : ∀ σ H Q, (∀ p, H p = none → Q (.ref p) (upd H p (.tup xs))) → tl σ H Q)
    (hN : X.N.Nodup) (hi' : X.N[i]? = some v0) (hx : Loc X.env.scope v0) (hb : ∀ V2, Ex V V2 → NoZ V2 → ∀ v ∈ xs, PSs X body (pS (LW T V2 N0 ((i, v) :: fx)))) (hs : ∀ x, foldedSetIterable it X.env x = pure x := by intro _; rfl) (hf : X.fn v0 = true ∨ X.env.scope.names.lookup v0 = some .local := by first | exact .inl rfl | exact .inr rfl | assumption) :
    PS X (.For (.Name v0 p1) it body [] pos) (pS (LW T V N0 fx)) :=
  ps_w (ps_for hp hc (pi_tup hit) (pg_name (i := i) hN hi' hx hf) (tb := fun D σ H => ∃ V2 v, Ex V V2 ∧ NoZ V2 ∧ v ∈ xs ∧ pS (LW T V2 N0 ((i, v) :: fx)) D σ H) ⟨fun pins s σ H D I ⟨V2, v, h1, h2, h3, h4⟩ => (hb V2 h1 h2 v h3).run pins s σ H D I h4⟩ hs) fun D σ H ⟨lw, q⟩ => by
    refine htl σ H _ fun p np => ⟨p, rfl, ⟨xs, .inl (.inl upd_same)⟩, ?_⟩
    have vp : V p = none := lw.ex.back np
    have ex2 : Ex V (upd V p (.tup xs)) := Ex.new vp
    have z2 : NoZ (upd V p (.tup xs)) := by
      refine ⟨fun a ps y => ?_, fun a o y => ?_⟩
      · by_cases k : a = p
        · rw [k, upd_same] at y; cases y
        · rw [upd_ne k] at y; exact z.1 a ps y
      · by_cases k : a = p
        · rw [k, upd_same] at y; cases y
        · rw [upd_ne k] at y; exact z.2 a o y
    refine ⟨fun j m σ' H' => m + j = xs.length ∧ LW T (upd V p (.tup xs)) N0 fx σ' H', ⟨xs.length, rfl, lw.len, lw.at_, fun a o e => ?_, lw.tab.ext fun a o e => by rw [upd_ne (ne_of_none e np)]; exact e⟩, ?_⟩
    · by_cases k : a = p
      · rw [k, upd_same] at e ⊢; exact e
      · rw [upd_ne k] at e ⊢; exact lw.ex a o e
    rintro j m σ' H' ⟨e1, l⟩
    have hp' : H' p = some (.tup xs) := l.ex p _ upd_same
    rcases Nat.lt_or_ge j xs.length with hj | hj
    · refine .inr ⟨⟨xs, xs[j], .inl (.inl hp'), List.getElem?_eq_getElem hj⟩, fun σ2 H2 => ∃ m', m' < m ∧ (m' + (j + 1) = xs.length ∧ LW T (upd V p (.tup xs)) N0 fx σ2 H2), fun _ _ y => y, ?_⟩
      rintro x H2 ⟨rfl, hx2⟩
      have ev := hx2 xs (.inl (.inl hp'))
      rw [List.getElem?_eq_getElem hj] at ev
      cases ev
      refine ⟨upd V p (.tup xs), xs[j], ex2, z2, List.getElem_mem hj, l.more hi hn, fun σ3 H3 l3 => ⟨m - 1, by omega, by omega, l3.less fun q hq => List.mem_cons_of_mem _ hq⟩⟩
    · exact .inl ⟨⟨xs, .inl (.inl hp'), hj⟩, q σ' H' ⟨l.len, l.at_, ex2.trans l.ex, l.tab⟩⟩
/-- return _law_all(..) and e -/
theorem ps_retI {rest' : List Expr} {te : TE} (ha : PE X a (cT I)) (hb : PE X b te) (hq : ∀ σ H Q, I σ H → (∀ H', Q (.bl true) H') → te σ H Q) : PSs X [.Return (some (.BoolOp .And [a, b] p1)) pos] (rS I) := pss_w (pss_one (ps_ret (pe_and ha (pe_one hb)))) fun D σ H ⟨i, q⟩ => ⟨i, fun H' i' => ⟨true, rfl, by
  rw [if_pos rfl]
  exact hq σ H' D.rt i' q⟩⟩
end
end DL

namespace Nk26
open PySem PySem.Spec PyProof.Rows L2 DL
def tbl_RANKS : List (Str × PyData) := [("P", (.int 2)), ("-", (.int 1)), ("G", (.int 0)), ("T", (.int 0))]
def F_is_signs : DS := (sSeq (sIf (bOr (bNot (bOf (d1 (isiP "str") (dVar 0)))) (bOf (d2 nePS (dCall lenP (aCons (dVar 0) aNil)) (dC (.int 4))))) (sRet (dC (.bool false))) sSkip) (sRet (dCall allP (aCons (dL (nLc (aAny (dVar 0)) (gN 1) tYesD (d2 inP (dVar 1) (dC (.str "P-GT"))) [1])) aNil))))
def D_is_signs : List PyData → Option PyData := fnDen 2 F_is_signs
def F_is_traffic : DS := (sSeq (sIf (bOr (bNot (bOf (d1 (isiP "str") (dVar 0)))) (bOf (d2 nePS (dCall lenP (aCons (dVar 0) aNil)) (dC (.int 4))))) (sRet (dC (.bool false))) sSkip) (sRet (dCall allP (aCons (dL (nLc (aAny (dVar 0)) (gN 1) tYesD (d2 inP (dVar 1) (d2 addP (dC (.str ".")) (dC (.str "LSR")))) [1])) aNil))))
def D_is_traffic : List PyData → Option PyData := fnDen 2 F_is_traffic
def F_check_signs : DS := (sIf (bNot (bOf (dCall D_is_signs (aCons (dVar 0) aNil)))) sNo sSkip)
def D_check_signs : List PyData → Option PyData := fnDen 1 F_check_signs
def R_check_signs : DX := (rIf (bNot (bOf (dCall D_is_signs (aCons (dVar 0) aNil)))) (rRaise "InvalidSigns") rNo)
def X_check_signs : List PyData → Option Str := fnRen 1 R_check_signs
def F_check_traffic : DS := (sIf (bNot (bOf (dCall D_is_traffic (aCons (dVar 0) aNil)))) sNo sSkip)
def D_check_traffic : List PyData → Option PyData := fnDen 1 F_check_traffic
def R_check_traffic : DX := (rIf (bNot (bOf (dCall D_is_traffic (aCons (dVar 0) aNil)))) (rRaise "InvalidTraffic") rNo)
def X_check_traffic : List PyData → Option Str := fnRen 1 R_check_traffic
def F_check_arm : DS := (sIf (bOr (bNot (bOf (d1 (isiP "int") (dVar 0)))) (bOr (bOf (d1 (isiP "bool") (dVar 0))) (bNot (bOf (dChain leA ltP (dC (.int 0)) (dVar 0) (dC (.int 4))))))) sNo sSkip)
def D_check_arm : List PyData → Option PyData := fnDen 1 F_check_arm
def R_check_arm : DX := (rIf (bOr (bNot (bOf (d1 (isiP "int") (dVar 0)))) (bOr (bOf (d1 (isiP "bool") (dVar 0))) (bNot (bOf (dChain leA ltP (dC (.int 0)) (dVar 0) (dC (.int 4))))))) (rRaise "InvalidArm") rNo)
def X_check_arm : List PyData → Option Str := fnRen 1 R_check_arm
def F_check_turn : DS := (sIf (bOr (bNot (bOf (d1 (isiP "str") (dVar 0)))) (bOr (bOf (d2 nePS (dCall lenP (aCons (dVar 0) aNil)) (dC (.int 1)))) (bOf (d2 notInP (dVar 0) (dC (.str "LSR")))))) sNo sSkip)
def D_check_turn : List PyData → Option PyData := fnDen 1 F_check_turn
def R_check_turn : DX := (rIf (bOr (bNot (bOf (d1 (isiP "str") (dVar 0)))) (bOr (bOf (d2 nePS (dCall lenP (aCons (dVar 0) aNil)) (dC (.int 1)))) (bOf (d2 notInP (dVar 0) (dC (.str "LSR")))))) (rRaise "InvalidTurn") rNo)
def X_check_turn : List PyData → Option Str := fnRen 1 R_check_turn
def F_find_rank : DS := (sRet (d1 (tblP tbl_RANKS) (d2 ixP (dVar 0) (dVar 1))))
def D_find_rank : List PyData → Option PyData := fnDen 2 F_find_rank

def R_rank : DX := (rOr (rCall X_check_signs (aCons (dVar 0) aNil)) (rSkip (sExpr (dCall D_check_signs (aCons (dVar 0) aNil))) (rCall X_check_arm (aCons (dVar 1) aNil))))
def X_rank : List PyData → Option Str := fnRen 2 R_rank

def R_leaves_by : DX := (rOr (rCall X_check_arm (aCons (dVar 0) aNil)) (rSkip (sExpr (dCall D_check_arm (aCons (dVar 0) aNil))) (rCall X_check_turn (aCons (dVar 1) aNil))))
def X_leaves_by : List PyData → Option Str := fnRen 2 R_leaves_by
def F_find_quarters : DS := (sRet (dCall sortA (aCons (dL (nLc (aRange (aCons (d2 subP (dCall lenP (aCons (dC (.str "LSR")) aNil)) (dM sindexP (dC (.str "LSR")) (aCons (dVar 1) aNil))) aNil)) (gN 2) tYesD (d2 modP (d2 subP (dVar 0) (dVar 2)) (dC (.int 4))) [2])) aNil)))
def D_find_quarters : List PyData → Option PyData := fnDen 3 F_find_quarters

def R_quarters : DX := (rOr (rCall X_check_arm (aCons (dVar 0) aNil)) (rSkip (sExpr (dCall D_check_arm (aCons (dVar 0) aNil))) (rCall X_check_turn (aCons (dVar 1) aNil))))
def X_quarters : List PyData → Option Str := fnRen 2 R_quarters
def F_find_vehicles : DS := (sRet (dL (nLc (aRange (aCons (dC (.int 4)) aNil)) (gN 1) (bOf (d2 nePS (d2 ixP (dVar 0) (dVar 1)) (dC (.str ".")))) (dVar 1) [1])))
def D_find_vehicles : List PyData → Option PyData := fnDen 2 F_find_vehicles
def F_do_meet : DS := (sSeq (sIf (bAnd (bOf (d2 eqP (d2 modP (d2 subP (dVar 1) (dVar 2)) (dC (.int 2))) (dC (.int 0)))) (bAnd (bOf (d2 eqP (d2 ixP (dVar 0) (dVar 1)) (dC (.str "L")))) (bOf (d2 eqP (d2 ixP (dVar 0) (dVar 2)) (dC (.str "L")))))) (sRet (dC (.bool false))) sSkip) (sSeq (sSet 3 (dCall D_find_quarters (aCons (dVar 2) (aCons (d2 ixP (dVar 0) (dVar 2)) aNil)))) (sRet (dCall anyP (aCons (dL (nLc (aAny (dCall D_find_quarters (aCons (dVar 1) (aCons (d2 ixP (dVar 0) (dVar 1)) aNil)))) (gN 4) tYesD (d2 inP (dVar 4) (dVar 3)) [4])) aNil)))))
def D_do_meet : List PyData → Option PyData := fnDen 5 F_do_meet
def F_check_vehicle : DS := (sIf (bOf (d2 eqP (d2 ixP (dVar 0) (dVar 1)) (dC (.str ".")))) sNo sSkip)
def D_check_vehicle : List PyData → Option PyData := fnDen 2 F_check_vehicle
def R_check_vehicle : DX := (rIf (bOf (d2 eqP (d2 ixP (dVar 0) (dVar 1)) (dC (.str ".")))) (rRaise "NoVehicle") rNo)
def X_check_vehicle : List PyData → Option Str := fnRen 2 R_check_vehicle

def R_in_the_way : DX := (rOr (rCall X_check_traffic (aCons (dVar 0) aNil)) (rSkip (sExpr (dCall D_check_traffic (aCons (dVar 0) aNil))) (rOr (rCall X_check_arm (aCons (dVar 1) aNil)) (rSkip (sExpr (dCall D_check_arm (aCons (dVar 1) aNil))) (rOr (rCall X_check_arm (aCons (dVar 2) aNil)) (rSkip (sExpr (dCall D_check_arm (aCons (dVar 2) aNil))) (rOr (rCall X_check_vehicle (aCons (dVar 0) (aCons (dVar 1) aNil))) (rSkip (sExpr (dCall D_check_vehicle (aCons (dVar 0) (aCons (dVar 1) aNil)))) (rOr (rCall X_check_vehicle (aCons (dVar 0) (aCons (dVar 2) aNil))) (rSkip (sExpr (dCall D_check_vehicle (aCons (dVar 0) (aCons (dVar 2) aNil)))) (rIf (bOf (d2 eqP (dVar 1) (dVar 2))) (rRaise "SameArm") rNo)))))))))))
def X_in_the_way : List PyData → Option Str := fnRen 3 R_in_the_way

def R_conflicts : DX := (rCall X_check_traffic (aCons (dVar 0) aNil))
def X_conflicts : List PyData → Option Str := fnRen 5 R_conflicts

def R_can_join : DX := (rOr (rCall X_check_traffic (aCons (dVar 0) aNil)) (rSkip (sExpr (dCall D_check_traffic (aCons (dVar 0) aNil))) (rOr (rCall X_check_arm (aCons (dVar 1) aNil)) (rSkip (sExpr (dCall D_check_arm (aCons (dVar 1) aNil))) (rOr (rCall X_check_turn (aCons (dVar 2) aNil)) (rSkip (sExpr (dCall D_check_turn (aCons (dVar 2) aNil))) (rIf (bOf (d2 nePS (d2 ixP (dVar 0) (dVar 1)) (dC (.str ".")))) (rRaise "ArmTaken") rNo)))))))
def X_can_join : List PyData → Option Str := fnRen 5 R_can_join

def R_largest_free : DX := (rCall X_check_traffic (aCons (dVar 0) aNil))
def X_largest_free : List PyData → Option Str := fnRen 6 R_largest_free
def F_does_wait : DS := (sSeq (sIf (bOr (bOf (d2 eqP (dVar 2) (dVar 3))) (bNot (bOf (dCall D_do_meet (aCons (dVar 1) (aCons (dVar 2) (aCons (dVar 3) aNil))))))) (sRet (dC (.bool false))) sSkip) (sSeq (sMulti [4, 5] (mD (dCall D_find_rank (aCons (dVar 0) (aCons (dVar 2) aNil))) (mD (dCall D_find_rank (aCons (dVar 0) (aCons (dVar 3) aNil))) mNil))) (sSeq (sIf (bOf (d2 nePS (dVar 4) (dVar 5))) (sRet (d2 gtP (dVar 5) (dVar 4))) sSkip) (sSeq (sIf (bOf (d2 eqP (d2 modP (d2 subP (dVar 2) (dVar 3)) (dC (.int 4))) (dC (.int 1)))) (sRet (dC (.bool true))) sSkip) (sRet (vAnd (d2 eqP (d2 modP (d2 subP (dVar 2) (dVar 3)) (dC (.int 2))) (dC (.int 0))) (d2 eqP (d2 ixP (dVar 1) (dVar 2)) (dC (.str "L")))))))))
def D_does_wait : List PyData → Option PyData := fnDen 6 F_does_wait
def F_find_waits : DS := (sRet (dL (nLc (aAny (dCall D_find_vehicles (aCons (dVar 1) aNil))) (gN 3) (bOf (dCall D_does_wait (aCons (dVar 0) (aCons (dVar 1) (aCons (dVar 2) (aCons (dVar 3) aNil)))))) (dVar 3) [3])))
def D_find_waits : List PyData → Option PyData := fnDen 4 F_find_waits
def F_check_both : DS := (sSeq (sExpr (dCall D_check_signs (aCons (dVar 0) aNil))) (sExpr (dCall D_check_traffic (aCons (dVar 1) aNil))))
def D_check_both : List PyData → Option PyData := fnDen 2 F_check_both
def R_check_both : DX := (rOr (rCall X_check_signs (aCons (dVar 0) aNil)) (rSkip (sExpr (dCall D_check_signs (aCons (dVar 0) aNil))) (rCall X_check_traffic (aCons (dVar 1) aNil))))
def X_check_both : List PyData → Option Str := fnRen 2 R_check_both

def R_waits_for : DX := (rOr (rCall X_check_both (aCons (dVar 0) (aCons (dVar 1) aNil))) (rSkip (sExpr (dCall D_check_both (aCons (dVar 0) (aCons (dVar 1) aNil)))) (rOr (rCall X_check_arm (aCons (dVar 2) aNil)) (rSkip (sExpr (dCall D_check_arm (aCons (dVar 2) aNil))) (rCall X_check_vehicle (aCons (dVar 1) (aCons (dVar 2) aNil)))))))
def X_waits_for : List PyData → Option Str := fnRen 3 R_waits_for
def F_find_free : DS := (sRet (dL (nLc (aAny (dCall D_find_vehicles (aCons (dVar 1) aNil))) (gN 2) (bOf (d2 eqP (dCall D_find_waits (aCons (dVar 0) (aCons (dVar 1) (aCons (dVar 2) aNil)))) (dL (aSmall aNil)))) (dVar 2) [2])))
def D_find_free : List PyData → Option PyData := fnDen 3 F_find_free

def R_free : DX := (rCall X_check_both (aCons (dVar 0) (aCons (dVar 1) aNil)))
def X_free : List PyData → Option Str := fnRen 2 R_free
def F_run : DS := (sSeq (sMulti [2, 3] (mOwn (aSmall aNil) (mD (dCall D_find_free (aCons (dVar 0) (aCons (dVar 1) aNil))) mNil))) (sSeq (sWhile 40 (bOf (d2 nePS (dVar 3) (dL (aSmall aNil)))) (sSeq (sApp 2 (dVar 3)) (sSeq (sSet 1 (dM joinP (dC (.str "")) (aCons (dL (nLc (aEnum (dVar 1)) (gT 2 (gsCons (gN 4) (gsCons (gN 5) gsNil))) tYesD (dIf (bOf (d2 inP (dVar 4) (dVar 3))) (dC (.str ".")) (dVar 5)) [4, 5])) aNil))) (sSet 3 (dCall D_find_free (aCons (dVar 0) (aCons (dVar 1) aNil))))))) (sFr 2 (sRet (dTup (aCons (dVar 2) (aCons (dCall D_find_vehicles (aCons (dVar 1) aNil)) aNil)))))))
def D_run : List PyData → Option PyData := fnDen 6 F_run
def F_rounds : DS := (sSeq (sExpr (dCall D_check_both (aCons (dVar 0) (aCons (dVar 1) aNil)))) (sRet (d2 ixP (dCall D_run (aCons (dVar 0) (aCons (dVar 1) aNil))) (dC (.int 0)))))
def D_rounds : List PyData → Option PyData := fnDen 2 F_rounds
def R_rounds : DX := (rCall X_check_both (aCons (dVar 0) (aCons (dVar 1) aNil)))
def X_rounds : List PyData → Option Str := fnRen 2 R_rounds

def R_standing : DX := (rCall X_check_both (aCons (dVar 0) (aCons (dVar 1) aNil)))
def X_standing : List PyData → Option Str := fnRen 2 R_standing

def R_standstills : DX := (rCall X_check_signs (aCons (dVar 0) aNil))
def X_standstills : List PyData → Option Str := fnRen 1 R_standstills

def R_can_stand_still : DX := (rCall X_check_signs (aCons (dVar 0) aNil))
def X_can_stand_still : List PyData → Option Str := fnRen 1 R_can_stand_still

def R_count_by_rounds : DX := (rCall X_check_signs (aCons (dVar 0) aNil))
def X_count_by_rounds : List PyData → Option Str := fnRen 6 R_count_by_rounds

def R_slowest : DX := (rCall X_check_signs (aCons (dVar 0) aNil))
def X_slowest : List PyData → Option Str := fnRen 4 R_slowest

def R_latest_round : DX := (rOr (rCall X_check_signs (aCons (dVar 0) aNil)) (rSkip (sExpr (dCall D_check_signs (aCons (dVar 0) aNil))) (rCall X_check_arm (aCons (dVar 1) aNil))))
def X_latest_round : List PyData → Option Str := fnRen 8 R_latest_round

def R_with_sign : DX := (rOr (rCall X_check_signs (aCons (dVar 0) aNil)) (rSkip (sExpr (dCall D_check_signs (aCons (dVar 0) aNil))) (rOr (rCall X_check_arm (aCons (dVar 1) aNil)) (rSkip (sExpr (dCall D_check_arm (aCons (dVar 1) aNil))) (rIf (bOr (bNot (bOf (d1 (isiP "str") (dVar 2)))) (bOr (bOf (d2 nePS (dCall lenP (aCons (dVar 2) aNil)) (dC (.int 1)))) (bOf (d2 notInP (dVar 2) (dC (.str "P-GT")))))) (rRaise "InvalidSign") rNo)))))
def X_with_sign : List PyData → Option Str := fnRen 3 R_with_sign

def R_fewest_changed : DX := (rCall X_check_signs (aCons (dVar 0) aNil))
def X_fewest_changed : List PyData → Option Str := fnRen 1 R_fewest_changed

def R_first_changed : DX := (rCall X_check_signs (aCons (dVar 0) aNil))
def X_first_changed : List PyData → Option Str := fnRen 1 R_first_changed

def R_needless : DX := (rCall X_check_signs (aCons (dVar 0) aNil))
def X_needless : List PyData → Option Str := fnRen 4 R_needless
def F_check_two : DS := (sSeq (sExpr (dCall D_check_signs (aCons (dVar 0) aNil))) (sExpr (dCall D_check_signs (aCons (dVar 1) aNil))))
def D_check_two : List PyData → Option PyData := fnDen 2 F_check_two
def R_check_two : DX := (rOr (rCall X_check_signs (aCons (dVar 0) aNil)) (rSkip (sExpr (dCall D_check_signs (aCons (dVar 0) aNil))) (rCall X_check_signs (aCons (dVar 1) aNil))))
def X_check_two : List PyData → Option Str := fnRen 2 R_check_two

def R_agree : DX := (rCall X_check_two (aCons (dVar 0) (aCons (dVar 1) aNil)))
def X_agree : List PyData → Option Str := fnRen 2 R_agree

def R_parting : DX := (rCall X_check_two (aCons (dVar 0) (aCons (dVar 1) aNil)))
def X_parting : List PyData → Option Str := fnRen 7 R_parting

def R_alike : DX := (rCall X_check_signs (aCons (dVar 0) aNil))
def X_alike : List PyData → Option Str := fnRen 1 R_alike

def R_plainest : DX := (rCall X_check_signs (aCons (dVar 0) aNil))
def X_plainest : List PyData → Option Str := fnRen 2 R_plainest

def R_turned : DX := (rCall X_check_signs (aCons (dVar 0) aNil))
def X_turned : List PyData → Option Str := fnRen 1 R_turned
def F__law_pick : DS := (sSeq (sSet 3 (dIf (bOf (d2 nePS (dVar 0) (dL (aSmall aNil)))) (d2 ixP (dVar 0) (d2 modP (dVar 1) (dCall lenP (aCons (dVar 0) aNil)))) (dC (.int 0)))) (sSeq (sMulti [4, 5] (mD (d2 fdivP (dVar 3) (d2 powP (dC (.int 10)) (dC (.int 18)))) (mD (d2 fdivP (dVar 1) (dCall maxP (aCons (dCall lenP (aCons (dVar 0) aNil)) (aCons (dC (.int 1)) aNil)))) mNil))) (sSeq (sWhile 1000 (bAnd (bOf (d2 gtP (dVar 4) (dC (.int 0)))) (bOf (d2 gtP (dVar 5) (dC (.int 0))))) (sMulti [4, 5] (mD (d2 fdivP (dVar 4) (dC (.int 840))) (mD (d2 subP (dVar 5) (dC (.int 1))) mNil)))) (sSeq (sIf (bOf (d2 gtP (dVar 4) (dC (.int 0)))) (sRet (d2 modP (d2 modP (dVar 4) (dC (.int 840))) (dVar 2))) sSkip) (sSeq (sSet 6 (d2 modP (d2 mulA (d2 addP (d2 mulA (dVar 3) (dC (.int 31))) (d2 mulA (dC (.int 6151)) (d2 addP (dVar 1) (dC (.int 1))))) (dC (.int 40692))) (dC (.int 2147483399)))) (sRet (d2 modP (d2 modP (d2 addP (d2 mulA (dVar 6) (dVar 6)) (d2 fdivP (dVar 6) (dC (.int 31)))) (dC (.int 2147483629))) (dVar 2))))))))
def D__law_pick : List PyData → Option PyData := fnDen 7 F__law_pick
def F__law_posts : DS := (sRet (dM joinP (dC (.str "")) (aCons (dL (nLc (aRange (aCons (dC (.int 4)) aNil)) (gN 2) tYesD (d2 ixP (dC (.str "PP--GT-G")) (dCall D__law_pick (aCons (dVar 0) (aCons (d2 addP (dVar 1) (dVar 2)) (aCons (dC (.int 8)) aNil))))) [2])) aNil)))
def D__law_posts : List PyData → Option PyData := fnDen 3 F__law_posts
def F__law_cars : DS := (sRet (dM joinP (dC (.str "")) (aCons (dL (nLc (aRange (aCons (dC (.int 4)) aNil)) (gN 2) tYesD (d2 ixP (dC (.str ".LSRLS")) (dCall D__law_pick (aCons (dVar 0) (aCons (d2 addP (dVar 1) (dVar 2)) (aCons (dC (.int 6)) aNil))))) [2])) aNil)))
def D__law_cars : List PyData → Option PyData := fnDen 3 F__law_cars
end Nk26

namespace Nk26
open PySem L2 DL
/-! ### the program's own functions, at drawn signs and traffic -/
theorem check_signs_ok {s : Nat} (h : s < 256) : D_check_signs [.str (sS s)] = some .none :=
  of_isN (allB_all (p := fun s => isN (D_check_signs [.str (sS s)])) (by decide +kernel : allB 256 _ = true) s h)
theorem check_traffic_ok {t : Nat} (h : t < 256) : D_check_traffic [.str (tS t)] = some .none :=
  of_isN (allB_all (p := fun t => isN (D_check_traffic [.str (tS t)])) (by decide +kernel : allB 256 _ = true) t h)
theorem check_arm_ok {i : Nat} (h : i < 4) : D_check_arm [A i] = some .none :=
  of_isN (allB_all (p := fun i => isN (D_check_arm [A i])) (by decide +kernel : allB 4 _ = true) i h)
theorem check_both_ok {s t : Nat} (hs : s < 256) (ht : t < 256) : D_check_both [.str (sS s), .str (tS t)] = some .none := by
  unfold D_check_both fnDen F_check_both
  rw [show startD 2 [.str (sS s), .str (tS t)] = [.d (.str (sS s)), .d (.str (tS t))] from rfl]
  simp only [sSeq, sIf, sRet, sSet, sSkip, sExpr, sMulti, mD, mNil, mOwn, setsD, List.set, dVar, dC, d2, d1, dM, dCall, aCons, aNil, aSmall, dL, dIf, dTup, bAnd, bOr, bNot, bOf, vAnd, vOr, vNot, List.getElem?_cons_zero, List.getElem?_cons_succ, Option.bind_some, Option.map_some, List.length_cons, List.length_nil, if_true, Bool.false_eq_true, if_false, check_signs_ok hs, check_traffic_ok ht]
end Nk26

namespace Nk26
open PySem L2 DL
theorem pick_loop {ns : List Int} {k many cell : Int} {s6 : Sl} : ∀ (n : Nat) (rest again : Int), 0 ≤ again → again.toNat < n →
    ∃ r a, whileGo (bAnd (bOf (d2 gtP (dVar 4) (dC (.int 0)))) (bOf (d2 gtP (dVar 5) (dC (.int 0))))) (sMulti [4, 5] (mD (d2 fdivP (dVar 4) (dC (.int 840))) (mD (d2 subP (dVar 5) (dC (.int 1))) mNil))) n
      [.d (scr ns), .d (.int k), .d (.int many), .d (.int cell), .d (.int rest), .d (.int again), s6] = some (.nx [.d (scr ns), .d (.int k), .d (.int many), .d (.int cell), .d (.int r), .d (.int a), s6])
  | 0, _, _, _, h => by omega
  | n + 1, rest, again, h0, h => by
    by_cases h1 : 0 < rest
    · by_cases h2 : 0 < again
      · obtain ⟨r, a, e⟩ := pick_loop n (rest / 840) (again - 1) (by omega) (by omega)
        refine ⟨r, a, ?_⟩
        rw [← e]
        have m1 : fdivP (.int rest) (.int 840) = some (.int (rest / 840)) := fdivP_eq (by decide)
        simp [whileGo, bAnd, bOf, d2, dVar, dC, gtP, h1, h2, sMulti, mD, mNil, m1, subP, setsD]
      · exact ⟨rest, again, by simp [whileGo, bAnd, bOf, d2, dVar, dC, gtP, h1, h2]⟩
    · exact ⟨rest, again, by simp [whileGo, bAnd, bOf, d2, dVar, dC, gtP, h1]⟩
theorem pick_ok (ns : List Int) (k many : Int) (hk : 0 ≤ k) (hk2 : k < 900) (hm : 0 < many) (hn : ns.length ≤ 63) : ∃ n, D__law_pick [scr ns, .int k, .int many] = some (.int n) ∧ 0 ≤ n ∧ n < many := by
  have hc : ∃ c, dIf (bOf (d2 nePS (dVar 0) (dL (aSmall aNil)))) (d2 ixP (dVar 0) (d2 modP (dVar 1) (dCall lenP (aCons (dVar 0) aNil)))) (dC (.int 0)) [.d (scr ns), .d (.int k), .d (.int many), .un, .un, .un, .un] = some (.int c) := by
    cases ns with
    | nil => exact ⟨0, by simp [dIf, bOf, d2, dVar, dL, aSmall, aNil, scr_ne, dC]⟩
    | cons x r =>
      have hl : (0 : Int) < ((x :: r).length : Int) := by simp
      obtain ⟨c, e⟩ := scr_at (ns := x :: r) (i := k % ((x :: r).length : Int)) (Int.emod_nonneg _ (by omega)) (Int.emod_lt_of_pos _ hl)
      refine ⟨c, ?_⟩
      simp only [dIf, bOf, d2, dVar, dL, aSmall, aNil, scr_ne, dCall, aCons, List.getElem?_cons_zero, List.getElem?_cons_succ, Option.bind_some, Option.map_some, scr_len, modP_eq hl, e]
      rw [if_pos (by decide)]
      simp only [Option.map_some, Option.bind_some, scr_ne]
      rfl
  obtain ⟨c, hc⟩ := hc
  have hlen : ∃ L : Int, dCall maxP (aCons (dCall lenP (aCons (dVar 0) aNil)) (aCons (dC (.int 1)) aNil)) [.d (scr ns), .d (.int k), .d (.int many), .d (.int c), .un, .un, .un] = some (.int L) ∧ 0 < L ∧ L < 2 ^ 64 := by
    refine ⟨if (1 : Int) > ns.length then 1 else ns.length, by simp [dCall, aCons, aNil, dVar, dC, scr_len, maxP], ?_, ?_⟩
    · split <;> omega
    · split <;> omega
  obtain ⟨L, hL, hL0, hL1⟩ := hlen
  have hp : d2 powP (dC (.int 10)) (dC (.int 18)) [.d (scr ns), .d (.int k), .d (.int many), .d (.int c), .un, .un, .un] = some (.int 1000000000000000000) := by
    simp [d2, dC, powP]
  have hq : 0 ≤ k / L := Int.ediv_nonneg hk (by omega)
  have hq2 : k / L ≤ k := Int.ediv_le_self _ hk
  obtain ⟨r, a, hw⟩ := pick_loop (ns := ns) (k := k) (many := many) (cell := c) (s6 := .un) 1000 (c / 1000000000000000000) (k / L) hq (by omega)
  have hmul : sMulti [4, 5] (mD (d2 fdivP (dVar 3) (d2 powP (dC (.int 10)) (dC (.int 18)))) (mD (d2 fdivP (dVar 1) (dCall maxP (aCons (dCall lenP (aCons (dVar 0) aNil)) (aCons (dC (.int 1)) aNil)))) mNil)) [.d (scr ns), .d (.int k), .d (.int many), .d (.int c), .un, .un, .un]
      = some (.nx [.d (scr ns), .d (.int k), .d (.int many), .d (.int c), .d (.int (c / 1000000000000000000)), .d (.int (k / L)), .un]) := by
    have e1 : d2 fdivP (dVar 3) (d2 powP (dC (.int 10)) (dC (.int 18))) [.d (scr ns), .d (.int k), .d (.int many), .d (.int c), .un, .un, .un] = some (.int (c / 1000000000000000000)) := by
      have : dVar 3 [.d (scr ns), .d (.int k), .d (.int many), .d (.int c), .un, .un, .un] = some (.int c) := rfl
      unfold d2 at hp ⊢
      rw [this, hp]
      exact (fdivP_eq (i := c) (j := 1000000000000000000) (by decide))
    have e2 : d2 fdivP (dVar 1) (dCall maxP (aCons (dCall lenP (aCons (dVar 0) aNil)) (aCons (dC (.int 1)) aNil))) [.d (scr ns), .d (.int k), .d (.int many), .d (.int c), .un, .un, .un] = some (.int (k / L)) := by
      have : dVar 1 [.d (scr ns), .d (.int k), .d (.int many), .d (.int c), .un, .un, .un] = some (.int k) := rfl
      unfold d2
      rw [this, hL]
      exact (fdivP_eq (i := k) (j := L) ⟨hL0, hL1⟩)
    simp only [sMulti, mD, e1, e2, mNil, Option.bind_some, Option.map_some]
    rfl
  have hd : ∃ d : Int, d2 modP (d2 mulA (d2 addP (d2 mulA (dVar 3) (dC (.int 31))) (d2 mulA (dC (.int 6151)) (d2 addP (dVar 1) (dC (.int 1))))) (dC (.int 40692))) (dC (.int 2147483399)) [.d (scr ns), .d (.int k), .d (.int many), .d (.int c), .d (.int r), .d (.int a), .un] = some (.int d) ∧ 0 ≤ d ∧ d < 2147483399 := by
    refine ⟨(c * 31 + 6151 * (k + 1)) * 40692 % 2147483399, ?_, Int.emod_nonneg _ (by decide), Int.emod_lt_of_pos _ (by decide)⟩
    have m1 : mulA (.int c) (.int 31) = some (.int (c * 31)) := mulA_r (by decide)
    have m2 : mulA (.int 6151) (.int (k + 1)) = some (.int (6151 * (k + 1))) := mulA_l (by decide)
    have m3 : mulA (.int (c * 31 + 6151 * (k + 1))) (.int 40692) = some (.int ((c * 31 + 6151 * (k + 1)) * 40692)) := mulA_r (by decide)
    have m4 : modP (.int ((c * 31 + 6151 * (k + 1)) * 40692)) (.int 2147483399) = some (.int ((c * 31 + 6151 * (k + 1)) * 40692 % 2147483399)) := modP_eq (by decide)
    simp only [d2, dVar, dC, List.getElem?_cons_zero, List.getElem?_cons_succ, Option.bind_some, m1, m2, addP_eq, m3, m4]
  obtain ⟨d, hd, hd0, hd1⟩ := hd
  have s0 : startD 7 [scr ns, .int k, .int many] = [.d (scr ns), .d (.int k), .d (.int many), .un, .un, .un, .un] := rfl
  unfold D__law_pick fnDen
  rw [s0]
  unfold F__law_pick
  unfold sSeq sSet sWhile
  rw [hc]
  simp only [Option.map_some, Option.bind_some, List.set]
  rw [hmul]
  simp only [Option.bind_some]
  rw [hw]
  simp only [Option.bind_some]
  by_cases hr : 0 < r
  · refine ⟨r % 840 % many, ?_, Int.emod_nonneg _ (by omega), Int.emod_lt_of_pos _ hm⟩
    have m1 : modP (.int r) (.int 840) = some (.int (r % 840)) := modP_eq (by decide)
    have m2 : modP (.int (r % 840)) (.int many) = some (.int (r % 840 % many)) := modP_eq hm
    simp [sIf, bOf, d2, dVar, dC, gtP, hr, sRet, m1, m2]
  · refine ⟨(d * d + d / 31) % 2147483629 % many, ?_, Int.emod_nonneg _ (by omega), Int.emod_lt_of_pos _ hm⟩
    have m1 : mulA (.int d) (.int d) = some (.int (d * d)) := mulA_r (by omega)
    have m2 : fdivP (.int d) (.int 31) = some (.int (d / 31)) := fdivP_eq (by decide)
    have m3 : modP (.int (d * d + d / 31)) (.int 2147483629) = some (.int ((d * d + d / 31) % 2147483629)) := modP_eq (by decide)
    have m4 : modP (.int ((d * d + d / 31) % 2147483629)) (.int many) = some (.int ((d * d + d / 31) % 2147483629 % many)) := modP_eq hm
    have i1 : sIf (bOf (d2 gtP (dVar 4) (dC (.int 0)))) (sRet (d2 modP (d2 modP (dVar 4) (dC (.int 840))) (dVar 2))) sSkip [.d (scr ns), .d (.int k), .d (.int many), .d (.int c), .d (.int r), .d (.int a), .un] = some (.nx [.d (scr ns), .d (.int k), .d (.int many), .d (.int c), .d (.int r), .d (.int a), .un]) := by
      simp [sIf, bOf, d2, dVar, dC, gtP, hr, sSkip]
    rw [i1]
    simp only [Option.bind_some]
    rw [hd]
    simp [sRet, d2, dVar, dC, m1, m2, m3, m4, addP_eq]
end Nk26

namespace Nk26
open PySem L2 DL
theorem posts_at {n : Int} (h0 : 0 ≤ n) (h1 : n < 8) : ∃ a : Fin 4, ixP (.str "PP--GT-G") (.int n) = some (.str ⟨#[sgC a]⟩) := by
  rcases lt8 h0 h1 with rfl | rfl | rfl | rfl | rfl | rfl | rfl | rfl
  · exact ⟨0, rfl⟩
  · exact ⟨0, rfl⟩
  · exact ⟨1, rfl⟩
  · exact ⟨1, rfl⟩
  · exact ⟨2, rfl⟩
  · exact ⟨3, rfl⟩
  · exact ⟨1, rfl⟩
  · exact ⟨2, rfl⟩
theorem posts_ok (ns : List Int) (at_ : Int) (h0 : 0 ≤ at_) (h1 : at_ < 890) (hn : ns.length ≤ 63) : ∃ a b c d, D__law_posts [scr ns, .int at_] = some (.str (st4 sgC a b c d)) := by
  have one : ∀ k : Int, 0 ≤ k → k < 4 → ∃ a : Fin 4, d2 ixP (dC (.str "PP--GT-G")) (dCall D__law_pick (aCons (dVar 0) (aCons (d2 addP (dVar 1) (dVar 2)) (aCons (dC (.int 8)) aNil)))) [.d (scr ns), .d (.int at_), .d (.int k)] = some (.str ⟨#[sgC a]⟩) := by
    intro k k0 k1
    obtain ⟨n, e, n0, n1⟩ := pick_ok ns (at_ + k) 8 (by omega) (by omega) (by decide) hn
    obtain ⟨a, ea⟩ := posts_at n0 n1
    refine ⟨a, ?_⟩
    simp only [d2, dC, dCall, aCons, dVar, aNil, addP, List.getElem?_cons_zero, List.getElem?_cons_succ, Option.bind_some, Option.map_some, e, ea]
  obtain ⟨a, ha⟩ := one 0 (by decide) (by decide)
  obtain ⟨b, hb⟩ := one 1 (by decide) (by decide)
  obtain ⟨c, hc⟩ := one 2 (by decide) (by decide)
  obtain ⟨d, hd⟩ := one 3 (by decide) (by decide)
  refine ⟨a, b, c, d, ?_⟩
  have e : nLc (aRange (aCons (dC (.int 4)) aNil)) (gN 2) tYesD (d2 ixP (dC (.str "PP--GT-G")) (dCall D__law_pick (aCons (dVar 0) (aCons (d2 addP (dVar 1) (dVar 2)) (aCons (dC (.int 8)) aNil))))) [2] [.d (scr ns), .d (.int at_), .un]
      = some [.str ⟨#[sgC a]⟩, .str ⟨#[sgC b]⟩, .str ⟨#[sgC c]⟩, .str ⟨#[sgC d]⟩] := by
    have er : aRange (aCons (dC (.int 4)) aNil) [.d (scr ns), .d (.int at_), .un] = some [.int 0, .int 1, .int 2, .int 3] := rfl
    simp only [nLc, er, Option.bind_some, List.length_cons, List.length_nil, wipeD, List.set, lcGo, gN, tYesD, if_true]
    rw [if_pos (by decide)]
    simp only [ha, hb, hc, hd, Option.bind_some, Option.map_some]
  unfold D__law_posts fnDen
  have s0 : startD 3 [scr ns, .int at_] = [.d (scr ns), .d (.int at_), .un] := rfl
  rw [s0]
  simp only [F__law_posts, sRet, dM, dC, aCons, dL, e, aNil, Option.bind_some, Option.map_some, joinP4 join4S]
end Nk26

namespace Nk26
open PySem L2 DL
theorem cars_at {n : Int} (h0 : 0 ≤ n) (h1 : n < 6) : ∃ a : Fin 4, ixP (.str ".LSRLS") (.int n) = some (.str ⟨#[trC a]⟩) := by
  rcases lt6 h0 h1 with rfl | rfl | rfl | rfl | rfl | rfl
  · exact ⟨0, rfl⟩
  · exact ⟨1, rfl⟩
  · exact ⟨2, rfl⟩
  · exact ⟨3, rfl⟩
  · exact ⟨1, rfl⟩
  · exact ⟨2, rfl⟩
theorem cars_ok (ns : List Int) (at_ : Int) (h0 : 0 ≤ at_) (h1 : at_ < 890) (hn : ns.length ≤ 63) : ∃ a b c d, D__law_cars [scr ns, .int at_] = some (.str (st4 trC a b c d)) := by
  have one : ∀ k : Int, 0 ≤ k → k < 4 → ∃ a : Fin 4, d2 ixP (dC (.str ".LSRLS")) (dCall D__law_pick (aCons (dVar 0) (aCons (d2 addP (dVar 1) (dVar 2)) (aCons (dC (.int 6)) aNil)))) [.d (scr ns), .d (.int at_), .d (.int k)] = some (.str ⟨#[trC a]⟩) := by
    intro k k0 k1
    obtain ⟨n, e, n0, n1⟩ := pick_ok ns (at_ + k) 6 (by omega) (by omega) (by decide) hn
    obtain ⟨a, ea⟩ := cars_at n0 n1
    refine ⟨a, ?_⟩
    simp only [d2, dC, dCall, aCons, dVar, aNil, addP, List.getElem?_cons_zero, List.getElem?_cons_succ, Option.bind_some, Option.map_some, e, ea]
  obtain ⟨a, ha⟩ := one 0 (by decide) (by decide)
  obtain ⟨b, hb⟩ := one 1 (by decide) (by decide)
  obtain ⟨c, hc⟩ := one 2 (by decide) (by decide)
  obtain ⟨d, hd⟩ := one 3 (by decide) (by decide)
  refine ⟨a, b, c, d, ?_⟩
  have e : nLc (aRange (aCons (dC (.int 4)) aNil)) (gN 2) tYesD (d2 ixP (dC (.str ".LSRLS")) (dCall D__law_pick (aCons (dVar 0) (aCons (d2 addP (dVar 1) (dVar 2)) (aCons (dC (.int 6)) aNil))))) [2] [.d (scr ns), .d (.int at_), .un]
      = some [.str ⟨#[trC a]⟩, .str ⟨#[trC b]⟩, .str ⟨#[trC c]⟩, .str ⟨#[trC d]⟩] := by
    have er : aRange (aCons (dC (.int 4)) aNil) [.d (scr ns), .d (.int at_), .un] = some [.int 0, .int 1, .int 2, .int 3] := rfl
    simp only [nLc, er, Option.bind_some, List.length_cons, List.length_nil, wipeD, List.set, lcGo, gN, tYesD, if_true]
    rw [if_pos (by decide)]
    simp only [ha, hb, hc, hd, Option.bind_some, Option.map_some]
  unfold D__law_cars fnDen
  have s0 : startD 3 [scr ns, .int at_] = [.d (scr ns), .d (.int at_), .un] := rfl
  rw [s0]
  simp only [F__law_cars, sRet, dM, dC, aCons, dL, e, aNil, Option.bind_some, Option.map_some, joinP4 join4T]
end Nk26

namespace Nk26
open PySem PySem.Spec PyProof.Rows L2 DL
def topS (i : Nat) : Stmt := PySem.Challenge.pw_fourarms_k26_errors.main.body.getD i (.Pass ⟨0, 0, 0, 0⟩)
theorem sc_is_signs : FnScope ["candidate", "sign"] ["candidate"] (defScope (topS 17)) := ⟨rfl, rfl, rfl, by decide +kernel, rfl, by decide +kernel, by decide +kernel⟩
theorem sc_is_traffic : FnScope ["candidate", "turn"] ["candidate"] (defScope (topS 18)) := ⟨rfl, rfl, rfl, by decide +kernel, rfl, by decide +kernel, by decide +kernel⟩
theorem sc_check_signs : FnScope ["value"] ["value"] (defScope (topS 19)) := ⟨rfl, rfl, rfl, by decide +kernel, rfl, by decide +kernel, by decide +kernel⟩
theorem sc_check_traffic : FnScope ["value"] ["value"] (defScope (topS 20)) := ⟨rfl, rfl, rfl, by decide +kernel, rfl, by decide +kernel, by decide +kernel⟩
theorem sc_check_arm : FnScope ["value"] ["value"] (defScope (topS 21)) := ⟨rfl, rfl, rfl, by decide +kernel, rfl, by decide +kernel, by decide +kernel⟩
theorem sc_check_turn : FnScope ["value"] ["value"] (defScope (topS 22)) := ⟨rfl, rfl, rfl, by decide +kernel, rfl, by decide +kernel, by decide +kernel⟩
theorem sc_find_rank : FnScope ["signs", "arm"] ["signs", "arm"] (defScope (topS 23)) := ⟨rfl, rfl, rfl, by decide +kernel, rfl, by decide +kernel, by decide +kernel⟩
theorem sc_rank : FnScope ["signs", "arm"] ["signs", "arm"] (defScope (topS 24)) := ⟨rfl, rfl, rfl, by decide +kernel, rfl, by decide +kernel, by decide +kernel⟩
theorem sc_leaves_by : FnScope ["arm", "turn"] ["arm", "turn"] (defScope (topS 25)) := ⟨rfl, rfl, rfl, by decide +kernel, rfl, by decide +kernel, by decide +kernel⟩
theorem sc_find_quarters : FnScope ["arm", "turn", "step"] ["arm", "turn"] (defScope (topS 26)) := ⟨rfl, rfl, rfl, by decide +kernel, rfl, by decide +kernel, by decide +kernel⟩
theorem sc_quarters : FnScope ["arm", "turn"] ["arm", "turn"] (defScope (topS 27)) := ⟨rfl, rfl, rfl, by decide +kernel, rfl, by decide +kernel, by decide +kernel⟩
theorem sc_find_vehicles : FnScope ["traffic", "arm"] ["traffic"] (defScope (topS 28)) := ⟨rfl, rfl, rfl, by decide +kernel, rfl, by decide +kernel, by decide +kernel⟩
theorem sc_do_meet : FnScope ["traffic", "one", "other", "used", "quarter"] ["traffic", "one", "other"] (defScope (topS 31)) := ⟨rfl, rfl, rfl, by decide +kernel, rfl, by decide +kernel, by decide +kernel⟩
theorem sc_check_vehicle : FnScope ["traffic", "arm"] ["traffic", "arm"] (defScope (topS 32)) := ⟨rfl, rfl, rfl, by decide +kernel, rfl, by decide +kernel, by decide +kernel⟩
theorem sc_in_the_way : FnScope ["traffic", "one", "other"] ["traffic", "one", "other"] (defScope (topS 33)) := ⟨rfl, rfl, rfl, by decide +kernel, rfl, by decide +kernel, by decide +kernel⟩
theorem sc_conflicts : FnScope ["traffic", "known", "found", "one", "other"] ["traffic"] (defScope (topS 34)) := ⟨rfl, rfl, rfl, by decide +kernel, rfl, by decide +kernel, by decide +kernel⟩
theorem sc_can_join : FnScope ["traffic", "arm", "turn", "more", "other"] ["traffic", "arm", "turn"] (defScope (topS 35)) := ⟨rfl, rfl, rfl, by decide +kernel, rfl, by decide +kernel, by decide +kernel⟩
theorem sc_largest_free : FnScope ["traffic", "found", "arm", "good", "some", "one"] ["traffic"] (defScope (topS 36)) := ⟨rfl, rfl, rfl, by decide +kernel, rfl, by decide +kernel, by decide +kernel⟩
theorem sc_does_wait : FnScope ["signs", "traffic", "one", "other", "mine", "its"] ["signs", "traffic", "one", "other"] (defScope (topS 38)) := ⟨rfl, rfl, rfl, by decide +kernel, rfl, by decide +kernel, by decide +kernel⟩
theorem sc_find_waits : FnScope ["signs", "traffic", "arm", "other"] ["signs", "traffic", "arm"] (defScope (topS 39)) := ⟨rfl, rfl, rfl, by decide +kernel, rfl, by decide +kernel, by decide +kernel⟩
theorem sc_check_both : FnScope ["signs", "traffic"] ["signs", "traffic"] (defScope (topS 40)) := ⟨rfl, rfl, rfl, by decide +kernel, rfl, by decide +kernel, by decide +kernel⟩
theorem sc_waits_for : FnScope ["signs", "traffic", "arm"] ["signs", "traffic", "arm"] (defScope (topS 41)) := ⟨rfl, rfl, rfl, by decide +kernel, rfl, by decide +kernel, by decide +kernel⟩
theorem sc_find_free : FnScope ["signs", "traffic", "arm"] ["signs", "traffic"] (defScope (topS 42)) := ⟨rfl, rfl, rfl, by decide +kernel, rfl, by decide +kernel, by decide +kernel⟩
theorem sc_free : FnScope ["signs", "traffic"] ["signs", "traffic"] (defScope (topS 43)) := ⟨rfl, rfl, rfl, by decide +kernel, rfl, by decide +kernel, by decide +kernel⟩
theorem sc_run : FnScope ["signs", "traffic", "found", "here", "arm", "turn"] ["signs", "traffic"] (defScope (topS 44)) := ⟨rfl, rfl, rfl, by decide +kernel, rfl, by decide +kernel, by decide +kernel⟩
theorem sc_rounds : FnScope ["signs", "traffic"] ["signs", "traffic"] (defScope (topS 45)) := ⟨rfl, rfl, rfl, by decide +kernel, rfl, by decide +kernel, by decide +kernel⟩
theorem sc_standing : FnScope ["signs", "traffic"] ["signs", "traffic"] (defScope (topS 46)) := ⟨rfl, rfl, rfl, by decide +kernel, rfl, by decide +kernel, by decide +kernel⟩
theorem sc_standstills : FnScope ["signs"] ["signs"] (defScope (topS 50)) := ⟨rfl, rfl, rfl, by decide +kernel, rfl, by decide +kernel, by decide +kernel⟩
theorem sc_can_stand_still : FnScope ["signs"] ["signs"] (defScope (topS 52)) := ⟨rfl, rfl, rfl, by decide +kernel, rfl, by decide +kernel, by decide +kernel⟩
theorem sc_count_by_rounds : FnScope ["signs", "sizes", "traffic", "found", "left", "many"] ["signs"] (defScope (topS 53)) := ⟨rfl, rfl, rfl, by decide +kernel, rfl, by decide +kernel, by decide +kernel⟩
theorem sc_slowest : FnScope ["signs", "traffic", "found", "left"] ["signs"] (defScope (topS 54)) := ⟨rfl, rfl, rfl, by decide +kernel, rfl, by decide +kernel, by decide +kernel⟩
theorem sc_latest_round : FnScope ["signs", "arm", "best", "traffic", "found", "left", "number", "here"] ["signs", "arm"] (defScope (topS 55)) := ⟨rfl, rfl, rfl, by decide +kernel, rfl, by decide +kernel, by decide +kernel⟩
theorem sc_with_sign : FnScope ["signs", "arm", "sign"] ["signs", "arm", "sign"] (defScope (topS 59)) := ⟨rfl, rfl, rfl, by decide +kernel, rfl, by decide +kernel, by decide +kernel⟩
theorem sc_fewest_changed : FnScope ["signs"] ["signs"] (defScope (topS 61)) := ⟨rfl, rfl, rfl, by decide +kernel, rfl, by decide +kernel, by decide +kernel⟩
theorem sc_first_changed : FnScope ["signs"] ["signs"] (defScope (topS 62)) := ⟨rfl, rfl, rfl, by decide +kernel, rfl, by decide +kernel, by decide +kernel⟩
theorem sc_needless : FnScope ["signs", "known", "arms", "arm"] ["signs"] (defScope (topS 64)) := ⟨rfl, rfl, rfl, by decide +kernel, rfl, by decide +kernel, by decide +kernel⟩
theorem sc_check_two : FnScope ["one", "other"] ["one", "other"] (defScope (topS 66)) := ⟨rfl, rfl, rfl, by decide +kernel, rfl, by decide +kernel, by decide +kernel⟩
theorem sc_agree : FnScope ["one", "other"] ["one", "other"] (defScope (topS 67)) := ⟨rfl, rfl, rfl, by decide +kernel, rfl, by decide +kernel, by decide +kernel⟩
theorem sc_parting : FnScope ["one", "other", "left", "right", "found", "place", "traffic"] ["one", "other"] (defScope (topS 68)) := ⟨rfl, rfl, rfl, by decide +kernel, rfl, by decide +kernel, by decide +kernel⟩
theorem sc_alike : FnScope ["signs"] ["signs"] (defScope (topS 71)) := ⟨rfl, rfl, rfl, by decide +kernel, rfl, by decide +kernel, by decide +kernel⟩
theorem sc_plainest : FnScope ["signs", "other"] ["signs"] (defScope (topS 72)) := ⟨rfl, rfl, rfl, by decide +kernel, rfl, by decide +kernel, by decide +kernel⟩
theorem sc_turned : FnScope ["signs"] ["signs"] (defScope (topS 73)) := ⟨rfl, rfl, rfl, by decide +kernel, rfl, by decide +kernel, by decide +kernel⟩
theorem sc__law_pick : FnScope ["script", "k", "many", "cell", "rest", "again", "drawn"] ["script", "k", "many"] (defScope (topS 75)) := ⟨rfl, rfl, rfl, by decide +kernel, rfl, by decide +kernel, by decide +kernel⟩
theorem sc__law_posts : FnScope ["script", "at", "k"] ["script", "at"] (defScope (topS 76)) := ⟨rfl, rfl, rfl, by decide +kernel, rfl, by decide +kernel, by decide +kernel⟩
theorem sc__law_cars : FnScope ["script", "at", "k"] ["script", "at"] (defScope (topS 77)) := ⟨rfl, rfl, rfl, by decide +kernel, rfl, by decide +kernel, by decide +kernel⟩
theorem sc__law_class : FnScope ["error", "kinds", "names"] ["error"] (defScope (topS 78)) := ⟨rfl, rfl, rfl, by decide +kernel, rfl, by decide +kernel, by decide +kernel⟩
theorem sc__law_result : FnScope ["call", "error"] ["call"] (defScope (topS 79)) := ⟨rfl, rfl, rfl, by decide +kernel, rfl, by decide +kernel, by decide +kernel⟩
theorem sc__law_all : FnScope ["calls", "name", "call"] ["calls", "name"] (defScope (topS 80)) := ⟨rfl, rfl, rfl, by decide +kernel, rfl, by decide +kernel, by decide +kernel⟩
theorem sc__law_signed : FnScope ["posts", "no", "calls"] ["posts", "no"] (defScope (topS 81)) := ⟨rfl, rfl, rfl, by decide +kernel, rfl, by decide +kernel, by decide +kernel⟩
theorem sc__law_driven : FnScope ["posts", "no", "calls"] ["posts", "no"] (defScope (topS 82)) := ⟨rfl, rfl, rfl, by decide +kernel, rfl, by decide +kernel, by decide +kernel⟩
theorem sc__law_armed : FnScope ["posts", "cars", "no", "calls"] ["posts", "cars", "no"] (defScope (topS 83)) := ⟨rfl, rfl, rfl, by decide +kernel, rfl, by decide +kernel, by decide +kernel⟩
theorem sc_law : FnScope ["script", "posts", "cars", "at", "no", "bad", "arm", "turn", "calls", "empty", "post"] ["script"] (defScope (topS 84)) := ⟨rfl, rfl, rfl, by decide +kernel, rfl, by decide +kernel, by decide +kernel⟩
structure Tx (w : World) (K : PySem.W.Frag) (mg : Str → Option Value) : Prop where
  h_is_signs : ∃ a fd, FnAt K mg "is_signs" (topS 17) ["candidate"] a fd
  h_is_traffic : ∃ a fd, FnAt K mg "is_traffic" (topS 18) ["candidate"] a fd
  h_check_signs : ∃ a fd, FnAt K mg "check_signs" (topS 19) ["value"] a fd
  h_check_traffic : ∃ a fd, FnAt K mg "check_traffic" (topS 20) ["value"] a fd
  h_check_arm : ∃ a fd, FnAt K mg "check_arm" (topS 21) ["value"] a fd
  h_check_turn : ∃ a fd, FnAt K mg "check_turn" (topS 22) ["value"] a fd
  h_find_rank : ∃ a fd, FnAt K mg "find_rank" (topS 23) ["signs", "arm"] a fd
  h_rank : ∃ a fd, FnAt K mg "rank" (topS 24) ["signs", "arm"] a fd
  h_leaves_by : ∃ a fd, FnAt K mg "leaves_by" (topS 25) ["arm", "turn"] a fd
  h_find_quarters : ∃ a fd, FnAt K mg "find_quarters" (topS 26) ["arm", "turn"] a fd
  h_quarters : ∃ a fd, FnAt K mg "quarters" (topS 27) ["arm", "turn"] a fd
  h_find_vehicles : ∃ a fd, FnAt K mg "find_vehicles" (topS 28) ["traffic"] a fd
  h_do_meet : ∃ a fd, FnAt K mg "do_meet" (topS 31) ["traffic", "one", "other"] a fd
  h_check_vehicle : ∃ a fd, FnAt K mg "check_vehicle" (topS 32) ["traffic", "arm"] a fd
  h_in_the_way : ∃ a fd, FnAt K mg "in_the_way" (topS 33) ["traffic", "one", "other"] a fd
  h_conflicts : ∃ a fd, FnAt K mg "conflicts" (topS 34) ["traffic"] a fd
  h_can_join : ∃ a fd, FnAt K mg "can_join" (topS 35) ["traffic", "arm", "turn"] a fd
  h_largest_free : ∃ a fd, FnAt K mg "largest_free" (topS 36) ["traffic"] a fd
  h_does_wait : ∃ a fd, FnAt K mg "does_wait" (topS 38) ["signs", "traffic", "one", "other"] a fd
  h_find_waits : ∃ a fd, FnAt K mg "find_waits" (topS 39) ["signs", "traffic", "arm"] a fd
  h_check_both : ∃ a fd, FnAt K mg "check_both" (topS 40) ["signs", "traffic"] a fd
  h_waits_for : ∃ a fd, FnAt K mg "waits_for" (topS 41) ["signs", "traffic", "arm"] a fd
  h_find_free : ∃ a fd, FnAt K mg "find_free" (topS 42) ["signs", "traffic"] a fd
  h_free : ∃ a fd, FnAt K mg "free" (topS 43) ["signs", "traffic"] a fd
  h_run : ∃ a fd, FnAt K mg "run" (topS 44) ["signs", "traffic"] a fd
  h_rounds : ∃ a fd, FnAt K mg "rounds" (topS 45) ["signs", "traffic"] a fd
  h_standing : ∃ a fd, FnAt K mg "standing" (topS 46) ["signs", "traffic"] a fd
  h_standstills : ∃ a fd, FnAt K mg "standstills" (topS 50) ["signs"] a fd
  h_can_stand_still : ∃ a fd, FnAt K mg "can_stand_still" (topS 52) ["signs"] a fd
  h_count_by_rounds : ∃ a fd, FnAt K mg "count_by_rounds" (topS 53) ["signs"] a fd
  h_slowest : ∃ a fd, FnAt K mg "slowest" (topS 54) ["signs"] a fd
  h_latest_round : ∃ a fd, FnAt K mg "latest_round" (topS 55) ["signs", "arm"] a fd
  h_with_sign : ∃ a fd, FnAt K mg "with_sign" (topS 59) ["signs", "arm", "sign"] a fd
  h_fewest_changed : ∃ a fd, FnAt K mg "fewest_changed" (topS 61) ["signs"] a fd
  h_first_changed : ∃ a fd, FnAt K mg "first_changed" (topS 62) ["signs"] a fd
  h_needless : ∃ a fd, FnAt K mg "needless" (topS 64) ["signs"] a fd
  h_check_two : ∃ a fd, FnAt K mg "check_two" (topS 66) ["one", "other"] a fd
  h_agree : ∃ a fd, FnAt K mg "agree" (topS 67) ["one", "other"] a fd
  h_parting : ∃ a fd, FnAt K mg "parting" (topS 68) ["one", "other"] a fd
  h_alike : ∃ a fd, FnAt K mg "alike" (topS 71) ["signs"] a fd
  h_plainest : ∃ a fd, FnAt K mg "plainest" (topS 72) ["signs"] a fd
  h_turned : ∃ a fd, FnAt K mg "turned" (topS 73) ["signs"] a fd
  h__law_pick : ∃ a fd, FnAt K mg "_law_pick" (topS 75) ["script", "k", "many"] a fd
  h__law_posts : ∃ a fd, FnAt K mg "_law_posts" (topS 76) ["script", "at"] a fd
  h__law_cars : ∃ a fd, FnAt K mg "_law_cars" (topS 77) ["script", "at"] a fd
  h__law_class : ∃ a fd, FnAt K mg "_law_class" (topS 78) ["error"] a fd
  h__law_result : ∃ a fd, FnAt K mg "_law_result" (topS 79) ["call"] a fd
  h__law_all : ∃ a fd, FnAt K mg "_law_all" (topS 80) ["calls", "name"] a fd
  h__law_signed : ∃ a fd, FnAt K mg "_law_signed" (topS 81) ["posts", "no"] a fd
  h__law_driven : ∃ a fd, FnAt K mg "_law_driven" (topS 82) ["posts", "no"] a fd
  h__law_armed : ∃ a fd, FnAt K mg "_law_armed" (topS 83) ["posts", "cars", "no"] a fd
  h_law : ∃ a fd, FnAt K mg "law" (topS 84) ["script"] a fd
  m_ValueError : mg "ValueError" = none
  m_all : mg "all" = none
  m_any : mg "any" = none
  m_bool : mg "bool" = none
  m_enumerate : mg "enumerate" = none
  m_int : mg "int" = none
  m_isinstance : mg "isinstance" = none
  m_len : mg "len" = none
  m_max : mg "max" = none
  m_range : mg "range" = none
  m_sorted : mg "sorted" = none
  m_str : mg "str" = none
  c_EMPTY : ∃ u, mg "EMPTY" = some u ∧ RelV (.str ".") u
  c_LEFT : ∃ u, mg "LEFT" = some u ∧ RelV (.str "L") u
  c_MANY : ∃ u, mg "MANY" = some u ∧ RelV (.int 4) u
  c_NONE : ∃ u, mg "NONE" = some u ∧ RelV (.str "-") u
  c_SIGNS : ∃ u, mg "SIGNS" = some u ∧ RelV (.str "P-GT") u
  c_TURNS : ∃ u, mg "TURNS" = some u ∧ RelV (.str "LSR") u
  d_RANKS : ∃ p, mg "RANKS" = some (.ref p) ∧ ∀ z d, (tbl_RANKS).lookup z = some d → ∃ v, KDct K w p z v ∧ ∀ V, Dq K V v d
  x_ArmTaken : ∃ D, mg "ArmTaken" = some (.ref D) ∧ ClsF K D
  x_CrossError : ∃ D, mg "CrossError" = some (.ref D) ∧ ClsF K D
  x_InvalidArm : ∃ D, mg "InvalidArm" = some (.ref D) ∧ ClsF K D
  x_InvalidSign : ∃ D, mg "InvalidSign" = some (.ref D) ∧ ClsF K D
  x_InvalidSigns : ∃ D, mg "InvalidSigns" = some (.ref D) ∧ ClsF K D
  x_InvalidTraffic : ∃ D, mg "InvalidTraffic" = some (.ref D) ∧ ClsF K D
  x_InvalidTurn : ∃ D, mg "InvalidTurn" = some (.ref D) ∧ ClsF K D
  x_NoVehicle : ∃ D, mg "NoVehicle" = some (.ref D) ∧ ClsF K D
  x_SameArm : ∃ D, mg "SameArm" = some (.ref D) ∧ ClsF K D
  k_ArmTaken_ArmTaken : ∀ D C, mg "ArmTaken" = some (.ref D) → mg "ArmTaken" = some (.ref C) → PySem.W.kitOne K (.ref D) (.ref C) = some true
  k_ArmTaken_InvalidArm : ∀ D C, mg "ArmTaken" = some (.ref D) → mg "InvalidArm" = some (.ref C) → PySem.W.kitOne K (.ref D) (.ref C) = some false
  k_ArmTaken_InvalidSign : ∀ D C, mg "ArmTaken" = some (.ref D) → mg "InvalidSign" = some (.ref C) → PySem.W.kitOne K (.ref D) (.ref C) = some false
  k_ArmTaken_InvalidSigns : ∀ D C, mg "ArmTaken" = some (.ref D) → mg "InvalidSigns" = some (.ref C) → PySem.W.kitOne K (.ref D) (.ref C) = some false
  k_ArmTaken_InvalidTraffic : ∀ D C, mg "ArmTaken" = some (.ref D) → mg "InvalidTraffic" = some (.ref C) → PySem.W.kitOne K (.ref D) (.ref C) = some false
  k_ArmTaken_InvalidTurn : ∀ D C, mg "ArmTaken" = some (.ref D) → mg "InvalidTurn" = some (.ref C) → PySem.W.kitOne K (.ref D) (.ref C) = some false
  k_ArmTaken_NoVehicle : ∀ D C, mg "ArmTaken" = some (.ref D) → mg "NoVehicle" = some (.ref C) → PySem.W.kitOne K (.ref D) (.ref C) = some false
  k_ArmTaken_SameArm : ∀ D C, mg "ArmTaken" = some (.ref D) → mg "SameArm" = some (.ref C) → PySem.W.kitOne K (.ref D) (.ref C) = some false
  k_InvalidArm_ArmTaken : ∀ D C, mg "InvalidArm" = some (.ref D) → mg "ArmTaken" = some (.ref C) → PySem.W.kitOne K (.ref D) (.ref C) = some false
  k_InvalidArm_InvalidArm : ∀ D C, mg "InvalidArm" = some (.ref D) → mg "InvalidArm" = some (.ref C) → PySem.W.kitOne K (.ref D) (.ref C) = some true
  k_InvalidArm_InvalidSign : ∀ D C, mg "InvalidArm" = some (.ref D) → mg "InvalidSign" = some (.ref C) → PySem.W.kitOne K (.ref D) (.ref C) = some false
  k_InvalidArm_InvalidSigns : ∀ D C, mg "InvalidArm" = some (.ref D) → mg "InvalidSigns" = some (.ref C) → PySem.W.kitOne K (.ref D) (.ref C) = some false
  k_InvalidArm_InvalidTraffic : ∀ D C, mg "InvalidArm" = some (.ref D) → mg "InvalidTraffic" = some (.ref C) → PySem.W.kitOne K (.ref D) (.ref C) = some false
  k_InvalidArm_InvalidTurn : ∀ D C, mg "InvalidArm" = some (.ref D) → mg "InvalidTurn" = some (.ref C) → PySem.W.kitOne K (.ref D) (.ref C) = some false
  k_InvalidArm_NoVehicle : ∀ D C, mg "InvalidArm" = some (.ref D) → mg "NoVehicle" = some (.ref C) → PySem.W.kitOne K (.ref D) (.ref C) = some false
  k_InvalidArm_SameArm : ∀ D C, mg "InvalidArm" = some (.ref D) → mg "SameArm" = some (.ref C) → PySem.W.kitOne K (.ref D) (.ref C) = some false
  k_InvalidSign_ArmTaken : ∀ D C, mg "InvalidSign" = some (.ref D) → mg "ArmTaken" = some (.ref C) → PySem.W.kitOne K (.ref D) (.ref C) = some false
  k_InvalidSign_InvalidArm : ∀ D C, mg "InvalidSign" = some (.ref D) → mg "InvalidArm" = some (.ref C) → PySem.W.kitOne K (.ref D) (.ref C) = some false
  k_InvalidSign_InvalidSign : ∀ D C, mg "InvalidSign" = some (.ref D) → mg "InvalidSign" = some (.ref C) → PySem.W.kitOne K (.ref D) (.ref C) = some true
  k_InvalidSign_InvalidSigns : ∀ D C, mg "InvalidSign" = some (.ref D) → mg "InvalidSigns" = some (.ref C) → PySem.W.kitOne K (.ref D) (.ref C) = some false
  k_InvalidSign_InvalidTraffic : ∀ D C, mg "InvalidSign" = some (.ref D) → mg "InvalidTraffic" = some (.ref C) → PySem.W.kitOne K (.ref D) (.ref C) = some false
  k_InvalidSign_InvalidTurn : ∀ D C, mg "InvalidSign" = some (.ref D) → mg "InvalidTurn" = some (.ref C) → PySem.W.kitOne K (.ref D) (.ref C) = some false
  k_InvalidSign_NoVehicle : ∀ D C, mg "InvalidSign" = some (.ref D) → mg "NoVehicle" = some (.ref C) → PySem.W.kitOne K (.ref D) (.ref C) = some false
  k_InvalidSign_SameArm : ∀ D C, mg "InvalidSign" = some (.ref D) → mg "SameArm" = some (.ref C) → PySem.W.kitOne K (.ref D) (.ref C) = some false
  k_InvalidSigns_ArmTaken : ∀ D C, mg "InvalidSigns" = some (.ref D) → mg "ArmTaken" = some (.ref C) → PySem.W.kitOne K (.ref D) (.ref C) = some false
  k_InvalidSigns_InvalidArm : ∀ D C, mg "InvalidSigns" = some (.ref D) → mg "InvalidArm" = some (.ref C) → PySem.W.kitOne K (.ref D) (.ref C) = some false
  k_InvalidSigns_InvalidSign : ∀ D C, mg "InvalidSigns" = some (.ref D) → mg "InvalidSign" = some (.ref C) → PySem.W.kitOne K (.ref D) (.ref C) = some false
  k_InvalidSigns_InvalidSigns : ∀ D C, mg "InvalidSigns" = some (.ref D) → mg "InvalidSigns" = some (.ref C) → PySem.W.kitOne K (.ref D) (.ref C) = some true
  k_InvalidSigns_InvalidTraffic : ∀ D C, mg "InvalidSigns" = some (.ref D) → mg "InvalidTraffic" = some (.ref C) → PySem.W.kitOne K (.ref D) (.ref C) = some false
  k_InvalidSigns_InvalidTurn : ∀ D C, mg "InvalidSigns" = some (.ref D) → mg "InvalidTurn" = some (.ref C) → PySem.W.kitOne K (.ref D) (.ref C) = some false
  k_InvalidSigns_NoVehicle : ∀ D C, mg "InvalidSigns" = some (.ref D) → mg "NoVehicle" = some (.ref C) → PySem.W.kitOne K (.ref D) (.ref C) = some false
  k_InvalidSigns_SameArm : ∀ D C, mg "InvalidSigns" = some (.ref D) → mg "SameArm" = some (.ref C) → PySem.W.kitOne K (.ref D) (.ref C) = some false
  k_InvalidTraffic_ArmTaken : ∀ D C, mg "InvalidTraffic" = some (.ref D) → mg "ArmTaken" = some (.ref C) → PySem.W.kitOne K (.ref D) (.ref C) = some false
  k_InvalidTraffic_InvalidArm : ∀ D C, mg "InvalidTraffic" = some (.ref D) → mg "InvalidArm" = some (.ref C) → PySem.W.kitOne K (.ref D) (.ref C) = some false
  k_InvalidTraffic_InvalidSign : ∀ D C, mg "InvalidTraffic" = some (.ref D) → mg "InvalidSign" = some (.ref C) → PySem.W.kitOne K (.ref D) (.ref C) = some false
  k_InvalidTraffic_InvalidSigns : ∀ D C, mg "InvalidTraffic" = some (.ref D) → mg "InvalidSigns" = some (.ref C) → PySem.W.kitOne K (.ref D) (.ref C) = some false
  k_InvalidTraffic_InvalidTraffic : ∀ D C, mg "InvalidTraffic" = some (.ref D) → mg "InvalidTraffic" = some (.ref C) → PySem.W.kitOne K (.ref D) (.ref C) = some true
  k_InvalidTraffic_InvalidTurn : ∀ D C, mg "InvalidTraffic" = some (.ref D) → mg "InvalidTurn" = some (.ref C) → PySem.W.kitOne K (.ref D) (.ref C) = some false
  k_InvalidTraffic_NoVehicle : ∀ D C, mg "InvalidTraffic" = some (.ref D) → mg "NoVehicle" = some (.ref C) → PySem.W.kitOne K (.ref D) (.ref C) = some false
  k_InvalidTraffic_SameArm : ∀ D C, mg "InvalidTraffic" = some (.ref D) → mg "SameArm" = some (.ref C) → PySem.W.kitOne K (.ref D) (.ref C) = some false
  k_InvalidTurn_ArmTaken : ∀ D C, mg "InvalidTurn" = some (.ref D) → mg "ArmTaken" = some (.ref C) → PySem.W.kitOne K (.ref D) (.ref C) = some false
  k_InvalidTurn_InvalidArm : ∀ D C, mg "InvalidTurn" = some (.ref D) → mg "InvalidArm" = some (.ref C) → PySem.W.kitOne K (.ref D) (.ref C) = some false
  k_InvalidTurn_InvalidSign : ∀ D C, mg "InvalidTurn" = some (.ref D) → mg "InvalidSign" = some (.ref C) → PySem.W.kitOne K (.ref D) (.ref C) = some false
  k_InvalidTurn_InvalidSigns : ∀ D C, mg "InvalidTurn" = some (.ref D) → mg "InvalidSigns" = some (.ref C) → PySem.W.kitOne K (.ref D) (.ref C) = some false
  k_InvalidTurn_InvalidTraffic : ∀ D C, mg "InvalidTurn" = some (.ref D) → mg "InvalidTraffic" = some (.ref C) → PySem.W.kitOne K (.ref D) (.ref C) = some false
  k_InvalidTurn_InvalidTurn : ∀ D C, mg "InvalidTurn" = some (.ref D) → mg "InvalidTurn" = some (.ref C) → PySem.W.kitOne K (.ref D) (.ref C) = some true
  k_InvalidTurn_NoVehicle : ∀ D C, mg "InvalidTurn" = some (.ref D) → mg "NoVehicle" = some (.ref C) → PySem.W.kitOne K (.ref D) (.ref C) = some false
  k_InvalidTurn_SameArm : ∀ D C, mg "InvalidTurn" = some (.ref D) → mg "SameArm" = some (.ref C) → PySem.W.kitOne K (.ref D) (.ref C) = some false
  k_NoVehicle_ArmTaken : ∀ D C, mg "NoVehicle" = some (.ref D) → mg "ArmTaken" = some (.ref C) → PySem.W.kitOne K (.ref D) (.ref C) = some false
  k_NoVehicle_InvalidArm : ∀ D C, mg "NoVehicle" = some (.ref D) → mg "InvalidArm" = some (.ref C) → PySem.W.kitOne K (.ref D) (.ref C) = some false
  k_NoVehicle_InvalidSign : ∀ D C, mg "NoVehicle" = some (.ref D) → mg "InvalidSign" = some (.ref C) → PySem.W.kitOne K (.ref D) (.ref C) = some false
  k_NoVehicle_InvalidSigns : ∀ D C, mg "NoVehicle" = some (.ref D) → mg "InvalidSigns" = some (.ref C) → PySem.W.kitOne K (.ref D) (.ref C) = some false
  k_NoVehicle_InvalidTraffic : ∀ D C, mg "NoVehicle" = some (.ref D) → mg "InvalidTraffic" = some (.ref C) → PySem.W.kitOne K (.ref D) (.ref C) = some false
  k_NoVehicle_InvalidTurn : ∀ D C, mg "NoVehicle" = some (.ref D) → mg "InvalidTurn" = some (.ref C) → PySem.W.kitOne K (.ref D) (.ref C) = some false
  k_NoVehicle_NoVehicle : ∀ D C, mg "NoVehicle" = some (.ref D) → mg "NoVehicle" = some (.ref C) → PySem.W.kitOne K (.ref D) (.ref C) = some true
  k_NoVehicle_SameArm : ∀ D C, mg "NoVehicle" = some (.ref D) → mg "SameArm" = some (.ref C) → PySem.W.kitOne K (.ref D) (.ref C) = some false
  k_SameArm_ArmTaken : ∀ D C, mg "SameArm" = some (.ref D) → mg "ArmTaken" = some (.ref C) → PySem.W.kitOne K (.ref D) (.ref C) = some false
  k_SameArm_InvalidArm : ∀ D C, mg "SameArm" = some (.ref D) → mg "InvalidArm" = some (.ref C) → PySem.W.kitOne K (.ref D) (.ref C) = some false
  k_SameArm_InvalidSign : ∀ D C, mg "SameArm" = some (.ref D) → mg "InvalidSign" = some (.ref C) → PySem.W.kitOne K (.ref D) (.ref C) = some false
  k_SameArm_InvalidSigns : ∀ D C, mg "SameArm" = some (.ref D) → mg "InvalidSigns" = some (.ref C) → PySem.W.kitOne K (.ref D) (.ref C) = some false
  k_SameArm_InvalidTraffic : ∀ D C, mg "SameArm" = some (.ref D) → mg "InvalidTraffic" = some (.ref C) → PySem.W.kitOne K (.ref D) (.ref C) = some false
  k_SameArm_InvalidTurn : ∀ D C, mg "SameArm" = some (.ref D) → mg "InvalidTurn" = some (.ref C) → PySem.W.kitOne K (.ref D) (.ref C) = some false
  k_SameArm_NoVehicle : ∀ D C, mg "SameArm" = some (.ref D) → mg "NoVehicle" = some (.ref C) → PySem.W.kitOne K (.ref D) (.ref C) = some false
  k_SameArm_SameArm : ∀ D C, mg "SameArm" = some (.ref D) → mg "SameArm" = some (.ref C) → PySem.W.kitOne K (.ref D) (.ref C) = some true
  e_ArmTaken_CrossError : ∀ D C, mg "ArmTaken" = some (.ref D) → mg "CrossError" = some (.ref C) → PySem.W.exmOne K (.ref D) (.ref C) = some true
  e_InvalidArm_CrossError : ∀ D C, mg "InvalidArm" = some (.ref D) → mg "CrossError" = some (.ref C) → PySem.W.exmOne K (.ref D) (.ref C) = some true
  e_InvalidSign_CrossError : ∀ D C, mg "InvalidSign" = some (.ref D) → mg "CrossError" = some (.ref C) → PySem.W.exmOne K (.ref D) (.ref C) = some true
  e_InvalidSigns_CrossError : ∀ D C, mg "InvalidSigns" = some (.ref D) → mg "CrossError" = some (.ref C) → PySem.W.exmOne K (.ref D) (.ref C) = some true
  e_InvalidTraffic_CrossError : ∀ D C, mg "InvalidTraffic" = some (.ref D) → mg "CrossError" = some (.ref C) → PySem.W.exmOne K (.ref D) (.ref C) = some true
  e_InvalidTurn_CrossError : ∀ D C, mg "InvalidTurn" = some (.ref D) → mg "CrossError" = some (.ref C) → PySem.W.exmOne K (.ref D) (.ref C) = some true
  e_NoVehicle_CrossError : ∀ D C, mg "NoVehicle" = some (.ref D) → mg "CrossError" = some (.ref C) → PySem.W.exmOne K (.ref D) (.ref C) = some true
  e_SameArm_CrossError : ∀ D C, mg "SameArm" = some (.ref D) → mg "CrossError" = some (.ref C) → PySem.W.exmOne K (.ref D) (.ref C) = some true
  v_InvalidSigns : ∀ D, mg "InvalidSigns" = some (.ref D) → PySem.W.kitOne K (.ref D) (.type "ValueError") = some true
  v_InvalidTraffic : ∀ D, mg "InvalidTraffic" = some (.ref D) → PySem.W.kitOne K (.ref D) (.type "ValueError") = some true
  v_InvalidArm : ∀ D, mg "InvalidArm" = some (.ref D) → PySem.W.kitOne K (.ref D) (.type "ValueError") = some true
  v_InvalidTurn : ∀ D, mg "InvalidTurn" = some (.ref D) → PySem.W.kitOne K (.ref D) (.type "ValueError") = some true
  v_NoVehicle : ∀ D, mg "NoVehicle" = some (.ref D) → PySem.W.kitOne K (.ref D) (.type "ValueError") = some true
  v_SameArm : ∀ D, mg "SameArm" = some (.ref D) → PySem.W.kitOne K (.ref D) (.type "ValueError") = some true
  v_ArmTaken : ∀ D, mg "ArmTaken" = some (.ref D) → PySem.W.kitOne K (.ref D) (.type "ValueError") = some true
  v_InvalidSign : ∀ D, mg "InvalidSign" = some (.ref D) → PySem.W.kitOne K (.ref D) (.type "ValueError") = some true
section
variable {P : Program} {w : World} {K : PySem.W.Frag} {mg : Str → Option Value} {base : Heap}
theorem ok_is_signs (T : Tx w K mg) {a : Addr} {fd : FuncData} (h : FnAt K mg "is_signs" (topS 17) ["candidate"] a fd) : FnOk P w K mg base CX0 1 a fd ["candidate"] (spD K 1 D_is_signs) := by
  obtain ⟨u_MANY, g_MANY, r_MANY⟩ := T.c_MANY
  obtain ⟨u_SIGNS, g_SIGNS, r_SIGNS⟩ := T.c_SIGNS
  have m_all := T.m_all
  have m_isinstance := T.m_isinstance
  have m_len := T.m_len
  have m_str := T.m_str
  have nd := (sc_is_signs).nd
  refine fnD h.F sc_is_signs fun cdv A outer s H E hr => ?_
  exact (dss_cons (ds_if (PW.pt (dw_or (dt_not (dt_val (de_isi (.inl rfl) (by rfl) m_isinstance (by decide +kernel) (de_var (pv 0)) (pe_bltn (by rfl) m_str (by decide +kernel) rfl)))) (dw_or1 (dt_cmp (op_neD hr.units) od_neS (de_callB call_lenP cd_len (by rfl) m_len (by decide +kernel) (da_cons (de_var (pv 0)) da_nil)) (de_c (pe_glob (by rfl) g_MANY r_MANY) (fun _ => .int _)) (nomark _))))) (dss_one (ds_ret de_bl))
    dss_nil)
    (dss_one (ds_ret (de_callB (cr_all rfl) cd_all (by rfl) m_all (by decide +kernel) (da_cons (de_new (dn_lc (own := [("sign", 1)]) rfl nd (di_any (de_var (pv 0))) (blkOk_by (by kernel_rfl)) (by decide) (fun _ _ _ _ _ => (dg_name (i := 1) nd rfl (by first | exact .inl rfl | exact .inr rfl))) (fun _ _ _ _ _ => dts_nil) (fun _ _ _ _ _ => (de_cmp op_inP od_in (de_var (pv 1)) (de_c (pe_glob (by rfl) g_SIGNS r_SIGNS) (fun _ => .str _)) rfl)))) da_nil)))))
theorem ok_is_traffic (T : Tx w K mg) {a : Addr} {fd : FuncData} (h : FnAt K mg "is_traffic" (topS 18) ["candidate"] a fd) : FnOk P w K mg base CX0 1 a fd ["candidate"] (spD K 1 D_is_traffic) := by
  obtain ⟨u_EMPTY, g_EMPTY, r_EMPTY⟩ := T.c_EMPTY
  obtain ⟨u_MANY, g_MANY, r_MANY⟩ := T.c_MANY
  obtain ⟨u_TURNS, g_TURNS, r_TURNS⟩ := T.c_TURNS
  have m_all := T.m_all
  have m_isinstance := T.m_isinstance
  have m_len := T.m_len
  have m_str := T.m_str
  have nd := (sc_is_traffic).nd
  refine fnD h.F sc_is_traffic fun cdv A outer s H E hr => ?_
  exact (dss_cons (ds_if (PW.pt (dw_or (dt_not (dt_val (de_isi (.inl rfl) (by rfl) m_isinstance (by decide +kernel) (de_var (pv 0)) (pe_bltn (by rfl) m_str (by decide +kernel) rfl)))) (dw_or1 (dt_cmp (op_neD hr.units) od_neS (de_callB call_lenP cd_len (by rfl) m_len (by decide +kernel) (da_cons (de_var (pv 0)) da_nil)) (de_c (pe_glob (by rfl) g_MANY r_MANY) (fun _ => .int _)) (nomark _))))) (dss_one (ds_ret de_bl))
    dss_nil)
    (dss_one (ds_ret (de_callB (cr_all rfl) cd_all (by rfl) m_all (by decide +kernel) (da_cons (de_new (dn_lc (own := [("turn", 1)]) rfl nd (di_any (de_var (pv 0))) (blkOk_by (by kernel_rfl)) (by decide) (fun _ _ _ _ _ => (dg_name (i := 1) nd rfl (by first | exact .inl rfl | exact .inr rfl))) (fun _ _ _ _ _ => dts_nil) (fun _ _ _ _ _ => (de_cmp op_inP od_in (de_var (pv 1)) (de_op op_addP od_add (de_c (pe_glob (by rfl) g_EMPTY r_EMPTY) (fun _ => .str _)) (de_c (pe_glob (by rfl) g_TURNS r_TURNS) (fun _ => .str _))) rfl)))) da_nil)))))
theorem ok_check_signs (T : Tx w K mg) {a : Addr} {fd : FuncData} (h : FnAt K mg "check_signs" (topS 19) ["value"] a fd) : FnOk P w K mg base CX0 2 a fd ["value"] (spD K 1 D_check_signs) := by
  obtain ⟨a_is_signs, fd_is_signs, h_is_signs⟩ := T.h_is_signs
  have nd := (sc_check_signs).nd
  refine fnD h.F sc_check_signs fun cdv A outer s H E hr => ?_
  exact (dss_one (ds_if (dt_not (dt_val (de_call (ok_is_signs T h_is_signs) (hr.mono (by decide)) (by rfl) h_is_signs.g h_is_signs.F.kp h_is_signs.b rfl (da_cons (de_var (pv 0)) da_nil) (aCons_len aNil_len)))) (dss_one ds_no)
    dss_nil))
theorem okR_check_signs (T : Tx w K mg) {a : Addr} {fd : FuncData} (h : FnAt K mg "check_signs" (topS 19) ["value"] a fd) : FnOk P w K mg base (L2.CX P w) 2 a fd ["value"] (spR K mg 1 X_check_signs) := by
  obtain ⟨a_is_signs, fd_is_signs, h_is_signs⟩ := T.h_is_signs
  obtain ⟨C_InvalidSigns, g_InvalidSigns, x_InvalidSigns⟩ := T.x_InvalidSigns
  have nd := (sc_check_signs).nd
  refine fnR h.F sc_check_signs fun cdv A outer s H E hr tk => ?_
  exact (dssr_now (dsr_if (dt_not (dt_val (de_call (ok_is_signs T h_is_signs) (hr.mono (by decide)) (by rfl) h_is_signs.g h_is_signs.F.kp h_is_signs.b rfl (da_cons (de_var (pv 0)) da_nil) (aCons_len aNil_len)))) (dssr_now (dsr_raise1 rfl tk x_InvalidSigns g_InvalidSigns rfl)) dssr_no))
theorem ok_check_traffic (T : Tx w K mg) {a : Addr} {fd : FuncData} (h : FnAt K mg "check_traffic" (topS 20) ["value"] a fd) : FnOk P w K mg base CX0 2 a fd ["value"] (spD K 1 D_check_traffic) := by
  obtain ⟨a_is_traffic, fd_is_traffic, h_is_traffic⟩ := T.h_is_traffic
  have nd := (sc_check_traffic).nd
  refine fnD h.F sc_check_traffic fun cdv A outer s H E hr => ?_
  exact (dss_one (ds_if (dt_not (dt_val (de_call (ok_is_traffic T h_is_traffic) (hr.mono (by decide)) (by rfl) h_is_traffic.g h_is_traffic.F.kp h_is_traffic.b rfl (da_cons (de_var (pv 0)) da_nil) (aCons_len aNil_len)))) (dss_one ds_no)
    dss_nil))
theorem okR_check_traffic (T : Tx w K mg) {a : Addr} {fd : FuncData} (h : FnAt K mg "check_traffic" (topS 20) ["value"] a fd) : FnOk P w K mg base (L2.CX P w) 2 a fd ["value"] (spR K mg 1 X_check_traffic) := by
  obtain ⟨a_is_traffic, fd_is_traffic, h_is_traffic⟩ := T.h_is_traffic
  obtain ⟨C_InvalidTraffic, g_InvalidTraffic, x_InvalidTraffic⟩ := T.x_InvalidTraffic
  have nd := (sc_check_traffic).nd
  refine fnR h.F sc_check_traffic fun cdv A outer s H E hr tk => ?_
  exact (dssr_now (dsr_if (dt_not (dt_val (de_call (ok_is_traffic T h_is_traffic) (hr.mono (by decide)) (by rfl) h_is_traffic.g h_is_traffic.F.kp h_is_traffic.b rfl (da_cons (de_var (pv 0)) da_nil) (aCons_len aNil_len)))) (dssr_now (dsr_raise1 rfl tk x_InvalidTraffic g_InvalidTraffic rfl)) dssr_no))
theorem ok_check_arm (T : Tx w K mg) {a : Addr} {fd : FuncData} (h : FnAt K mg "check_arm" (topS 21) ["value"] a fd) : FnOk P w K mg base CX0 1 a fd ["value"] (spD K 1 D_check_arm) := by
  obtain ⟨u_MANY, g_MANY, r_MANY⟩ := T.c_MANY
  have m_bool := T.m_bool
  have m_int := T.m_int
  have m_isinstance := T.m_isinstance
  have nd := (sc_check_arm).nd
  refine fnD h.F sc_check_arm fun cdv A outer s H E hr => ?_
  exact (dss_one (ds_if (PW.pt (dw_or (dt_not (dt_val (de_isi (.inr (.inl rfl)) (by rfl) m_isinstance (by decide +kernel) (de_var (pv 0)) (pe_bltn (by rfl) m_int (by decide +kernel) rfl)))) (dw_or (dt_val (de_isi (.inr (.inr (.inl rfl))) (by rfl) m_isinstance (by decide +kernel) (de_var (pv 0)) (pe_bltn (by rfl) m_bool (by decide +kernel) rfl))) (dw_or1 (dt_not (dt_chain op_leA op_ltP od_leA od_lt de_int (de_var (pv 0)) (de_c (pe_glob (by rfl) g_MANY r_MANY) (fun _ => .int _)))))))) (dss_one ds_no)
    dss_nil))
theorem okR_check_arm (T : Tx w K mg) {a : Addr} {fd : FuncData} (h : FnAt K mg "check_arm" (topS 21) ["value"] a fd) : FnOk P w K mg base (L2.CX P w) 1 a fd ["value"] (spR K mg 1 X_check_arm) := by
  obtain ⟨u_MANY, g_MANY, r_MANY⟩ := T.c_MANY
  have m_bool := T.m_bool
  have m_int := T.m_int
  have m_isinstance := T.m_isinstance
  obtain ⟨C_InvalidArm, g_InvalidArm, x_InvalidArm⟩ := T.x_InvalidArm
  have nd := (sc_check_arm).nd
  refine fnR h.F sc_check_arm fun cdv A outer s H E hr tk => ?_
  exact (dssr_now (dsr_if (PW.pt (dw_or (dt_not (dt_val (de_isi (.inr (.inl rfl)) (by rfl) m_isinstance (by decide +kernel) (de_var (pv 0)) (pe_bltn (by rfl) m_int (by decide +kernel) rfl)))) (dw_or (dt_val (de_isi (.inr (.inr (.inl rfl))) (by rfl) m_isinstance (by decide +kernel) (de_var (pv 0)) (pe_bltn (by rfl) m_bool (by decide +kernel) rfl))) (dw_or1 (dt_not (dt_chain op_leA op_ltP od_leA od_lt de_int (de_var (pv 0)) (de_c (pe_glob (by rfl) g_MANY r_MANY) (fun _ => .int _)))))))) (dssr_now (dsr_raise1 rfl tk x_InvalidArm g_InvalidArm rfl)) dssr_no))
theorem ok_check_turn (T : Tx w K mg) {a : Addr} {fd : FuncData} (h : FnAt K mg "check_turn" (topS 22) ["value"] a fd) : FnOk P w K mg base CX0 1 a fd ["value"] (spD K 1 D_check_turn) := by
  obtain ⟨u_TURNS, g_TURNS, r_TURNS⟩ := T.c_TURNS
  have m_isinstance := T.m_isinstance
  have m_len := T.m_len
  have m_str := T.m_str
  have nd := (sc_check_turn).nd
  refine fnD h.F sc_check_turn fun cdv A outer s H E hr => ?_
  exact (dss_one (ds_if (PW.pt (dw_or (dt_not (dt_val (de_isi (.inl rfl) (by rfl) m_isinstance (by decide +kernel) (de_var (pv 0)) (pe_bltn (by rfl) m_str (by decide +kernel) rfl)))) (dw_or (dt_cmp (op_neD hr.units) od_neS (de_callB call_lenP cd_len (by rfl) m_len (by decide +kernel) (da_cons (de_var (pv 0)) da_nil)) de_int (nomark _)) (dw_or1 (dt_cmp op_notInP od_notIn (de_var (pv 0)) (de_c (pe_glob (by rfl) g_TURNS r_TURNS) (fun _ => .str _)) rfl))))) (dss_one ds_no)
    dss_nil))
theorem okR_check_turn (T : Tx w K mg) {a : Addr} {fd : FuncData} (h : FnAt K mg "check_turn" (topS 22) ["value"] a fd) : FnOk P w K mg base (L2.CX P w) 1 a fd ["value"] (spR K mg 1 X_check_turn) := by
  obtain ⟨u_TURNS, g_TURNS, r_TURNS⟩ := T.c_TURNS
  have m_isinstance := T.m_isinstance
  have m_len := T.m_len
  have m_str := T.m_str
  obtain ⟨C_InvalidTurn, g_InvalidTurn, x_InvalidTurn⟩ := T.x_InvalidTurn
  have nd := (sc_check_turn).nd
  refine fnR h.F sc_check_turn fun cdv A outer s H E hr tk => ?_
  exact (dssr_now (dsr_if (PW.pt (dw_or (dt_not (dt_val (de_isi (.inl rfl) (by rfl) m_isinstance (by decide +kernel) (de_var (pv 0)) (pe_bltn (by rfl) m_str (by decide +kernel) rfl)))) (dw_or (dt_cmp (op_neD hr.units) od_neS (de_callB call_lenP cd_len (by rfl) m_len (by decide +kernel) (da_cons (de_var (pv 0)) da_nil)) de_int (nomark _)) (dw_or1 (dt_cmp op_notInP od_notIn (de_var (pv 0)) (de_c (pe_glob (by rfl) g_TURNS r_TURNS) (fun _ => .str _)) rfl))))) (dssr_now (dsr_raise1 rfl tk x_InvalidTurn g_InvalidTurn rfl)) dssr_no))
theorem ok_find_rank (T : Tx w K mg) {a : Addr} {fd : FuncData} (h : FnAt K mg "find_rank" (topS 23) ["signs", "arm"] a fd) : FnOk P w K mg base CX0 1 a fd ["signs", "arm"] (spD K 2 D_find_rank) := by
  obtain ⟨p_RANKS, g_RANKS, l_RANKS⟩ := T.d_RANKS
  have nd := (sc_find_rank).nd
  refine fnD h.F sc_find_rank fun cdv A outer s H E hr => ?_
  exact (dss_one (ds_ret (de_dict tbl_RANKS (pe_glob (by rfl) g_RANKS rfl) (de_ix ix_seq od_ix (de_var (pv 0)) (de_var (pv 1)) (fun _ _ => rfl)) (fun _ _ => rfl) l_RANKS)))

theorem okR_rank (T : Tx w K mg) {a : Addr} {fd : FuncData} (h : FnAt K mg "rank" (topS 24) ["signs", "arm"] a fd) : FnOk P w K mg base (L2.CX P w) 3 a fd ["signs", "arm"] (spR K mg 2 X_rank) := by
  obtain ⟨a_check_arm, fd_check_arm, h_check_arm⟩ := T.h_check_arm
  obtain ⟨a_check_signs, fd_check_signs, h_check_signs⟩ := T.h_check_signs
  have nd := (sc_rank).nd
  refine fnR h.F sc_rank fun cdv A outer s H E hr tk => ?_
  exact (dssr_or (dssr_now (dsr_expr (der_call tk (okR_check_signs T h_check_signs) (hr.mono (by decide)) (by rfl) h_check_signs.g h_check_signs.F.kp h_check_signs.b rfl (da_cons (de_var (pv 0)) da_nil) (aCons_len aNil_len))))
    (dssr_skip (ds_expr (de_call (ok_check_signs T h_check_signs) (hr.mono (by decide)) (by rfl) h_check_signs.g h_check_signs.F.kp h_check_signs.b rfl (da_cons (de_var (pv 0)) da_nil) (aCons_len aNil_len))) (dssr_now (dsr_expr (der_call tk (okR_check_arm T h_check_arm) (hr.mono (by decide)) (by rfl) h_check_arm.g h_check_arm.F.kp h_check_arm.b rfl (da_cons (de_var (pv 1)) da_nil) (aCons_len aNil_len))))))

theorem okR_leaves_by (T : Tx w K mg) {a : Addr} {fd : FuncData} (h : FnAt K mg "leaves_by" (topS 25) ["arm", "turn"] a fd) : FnOk P w K mg base (L2.CX P w) 2 a fd ["arm", "turn"] (spR K mg 2 X_leaves_by) := by
  obtain ⟨a_check_arm, fd_check_arm, h_check_arm⟩ := T.h_check_arm
  obtain ⟨a_check_turn, fd_check_turn, h_check_turn⟩ := T.h_check_turn
  have nd := (sc_leaves_by).nd
  refine fnR h.F sc_leaves_by fun cdv A outer s H E hr tk => ?_
  exact (dssr_or (dssr_now (dsr_expr (der_call tk (okR_check_arm T h_check_arm) (hr.mono (by decide)) (by rfl) h_check_arm.g h_check_arm.F.kp h_check_arm.b rfl (da_cons (de_var (pv 0)) da_nil) (aCons_len aNil_len))))
    (dssr_skip (ds_expr (de_call (ok_check_arm T h_check_arm) (hr.mono (by decide)) (by rfl) h_check_arm.g h_check_arm.F.kp h_check_arm.b rfl (da_cons (de_var (pv 0)) da_nil) (aCons_len aNil_len))) (dssr_now (dsr_expr (der_call tk (okR_check_turn T h_check_turn) (hr.mono (by decide)) (by rfl) h_check_turn.g h_check_turn.F.kp h_check_turn.b rfl (da_cons (de_var (pv 1)) da_nil) (aCons_len aNil_len))))))
theorem ok_find_quarters (T : Tx w K mg) {a : Addr} {fd : FuncData} (h : FnAt K mg "find_quarters" (topS 26) ["arm", "turn"] a fd) : FnOk P w K mg base CX0 1 a fd ["arm", "turn"] (spD K 2 D_find_quarters) := by
  obtain ⟨u_MANY, g_MANY, r_MANY⟩ := T.c_MANY
  obtain ⟨u_TURNS, g_TURNS, r_TURNS⟩ := T.c_TURNS
  have m_len := T.m_len
  have m_range := T.m_range
  have m_sorted := T.m_sorted
  have nd := (sc_find_quarters).nd
  refine fnD h.F sc_find_quarters fun cdv A outer s H E hr => ?_
  exact (dss_one (ds_ret (de_callB (cr_sortA rfl hr.units) cd_sortA (by rfl) m_sorted (by decide +kernel) (da_cons (de_new (dn_lc (own := [("step", 2)]) rfl nd (di_range1 (by rfl) m_range (de_op op_sub od_sub (de_callB call_lenP cd_len (by rfl) m_len (by decide +kernel) (da_cons (de_c (pe_glob (by rfl) g_TURNS r_TURNS) (fun _ => .str _)) da_nil)) (de_bm PySem.F.plainAttrs_str PySem.F.slot_str_index PySem.F.type_str_index mt_sindex md_sindex sindex_ty (de_c (pe_glob (by rfl) g_TURNS r_TURNS) (fun _ => .str _)) (da_cons (de_var (pv 1)) da_nil)))) (blkOk_by (by kernel_rfl)) (by decide) (fun _ _ _ _ _ => (dg_name (i := 2) nd rfl (by first | exact .inl rfl | exact .inr rfl))) (fun _ _ _ _ _ => dts_nil) (fun _ _ _ _ _ => (de_op op_mod od_mod (de_op op_sub od_sub (de_var (pv 0)) (de_var (pv 2))) (de_c (pe_glob (by rfl) g_MANY r_MANY) (fun _ => .int _)))))) da_nil))))

theorem okR_quarters (T : Tx w K mg) {a : Addr} {fd : FuncData} (h : FnAt K mg "quarters" (topS 27) ["arm", "turn"] a fd) : FnOk P w K mg base (L2.CX P w) 2 a fd ["arm", "turn"] (spR K mg 2 X_quarters) := by
  obtain ⟨a_check_arm, fd_check_arm, h_check_arm⟩ := T.h_check_arm
  obtain ⟨a_check_turn, fd_check_turn, h_check_turn⟩ := T.h_check_turn
  have nd := (sc_quarters).nd
  refine fnR h.F sc_quarters fun cdv A outer s H E hr tk => ?_
  exact (dssr_or (dssr_now (dsr_expr (der_call tk (okR_check_arm T h_check_arm) (hr.mono (by decide)) (by rfl) h_check_arm.g h_check_arm.F.kp h_check_arm.b rfl (da_cons (de_var (pv 0)) da_nil) (aCons_len aNil_len))))
    (dssr_skip (ds_expr (de_call (ok_check_arm T h_check_arm) (hr.mono (by decide)) (by rfl) h_check_arm.g h_check_arm.F.kp h_check_arm.b rfl (da_cons (de_var (pv 0)) da_nil) (aCons_len aNil_len))) (dssr_now (dsr_expr (der_call tk (okR_check_turn T h_check_turn) (hr.mono (by decide)) (by rfl) h_check_turn.g h_check_turn.F.kp h_check_turn.b rfl (da_cons (de_var (pv 1)) da_nil) (aCons_len aNil_len))))))
theorem ok_find_vehicles (T : Tx w K mg) {a : Addr} {fd : FuncData} (h : FnAt K mg "find_vehicles" (topS 28) ["traffic"] a fd) : FnOk P w K mg base CX0 1 a fd ["traffic"] (spD K 1 D_find_vehicles) := by
  obtain ⟨u_EMPTY, g_EMPTY, r_EMPTY⟩ := T.c_EMPTY
  obtain ⟨u_MANY, g_MANY, r_MANY⟩ := T.c_MANY
  have m_range := T.m_range
  have nd := (sc_find_vehicles).nd
  refine fnD h.F sc_find_vehicles fun cdv A outer s H E hr => ?_
  exact (dss_one (ds_ret (de_new (dn_lc (own := [("arm", 1)]) rfl nd (di_range1 (by rfl) m_range (de_c (pe_glob (by rfl) g_MANY r_MANY) (fun _ => .int _))) (blkOk_by (by kernel_rfl)) (by decide) (fun _ _ _ _ _ => (dg_name (i := 1) nd rfl (by first | exact .inl rfl | exact .inr rfl))) (fun _ _ _ _ _ => (dts_one (dt_cmp (op_neD hr.units) od_neS (de_ix ix_seq od_ix (de_var (pv 0)) (de_var (pv 1)) (fun _ _ => rfl)) (de_c (pe_glob (by rfl) g_EMPTY r_EMPTY) (fun _ => .str _)) (nomark _)))) (fun _ _ _ _ _ => (de_var (pv 1)))))))
theorem ok_do_meet (T : Tx w K mg) {a : Addr} {fd : FuncData} (h : FnAt K mg "do_meet" (topS 31) ["traffic", "one", "other"] a fd) : FnOk P w K mg base CX0 2 a fd ["traffic", "one", "other"] (spD K 3 D_do_meet) := by
  obtain ⟨u_LEFT, g_LEFT, r_LEFT⟩ := T.c_LEFT
  obtain ⟨a_find_quarters, fd_find_quarters, h_find_quarters⟩ := T.h_find_quarters
  have m_any := T.m_any
  have nd := (sc_do_meet).nd
  refine fnD h.F sc_do_meet fun cdv A outer s H E hr => ?_
  exact (dss_cons (ds_if (PW.pt (dw_and (dt_cmp (op_eqD hr.units) od_eq (de_op op_mod od_mod (de_op op_sub od_sub (de_var (pv 1)) (de_var (pv 2))) de_int) de_int (nomark _)) (dw_and (dt_cmp (op_eqD hr.units) od_eq (de_ix ix_seq od_ix (de_var (pv 0)) (de_var (pv 1)) (fun _ _ => rfl)) (de_c (pe_glob (by rfl) g_LEFT r_LEFT) (fun _ => .str _)) (nomark _)) (dw_and1 (dt_cmp (op_eqD hr.units) od_eq (de_ix ix_seq od_ix (de_var (pv 0)) (de_var (pv 2)) (fun _ _ => rfl)) (de_c (pe_glob (by rfl) g_LEFT r_LEFT) (fun _ => .str _)) (nomark _)))))) (dss_one (ds_ret de_bl))
    dss_nil)
    (dss_cons (ds_set (i := 3) nd rfl (by first | exact .inl rfl | exact .inr rfl) (de_call (ok_find_quarters T h_find_quarters) (hr.mono (by decide)) (by rfl) h_find_quarters.g h_find_quarters.F.kp h_find_quarters.b rfl (da_cons (de_var (pv 2)) (da_cons (de_ix ix_seq od_ix (de_var (pv 0)) (de_var (pv 2)) (fun _ _ => rfl)) da_nil)) (aCons_len (aCons_len aNil_len))))
    (dss_one (ds_ret (de_callB (cr_any rfl) cd_any (by rfl) m_any (by decide +kernel) (da_cons (de_new (dn_lc (own := [("quarter", 4)]) rfl nd (di_any (de_call (ok_find_quarters T h_find_quarters) (hr.mono (by decide)) (by rfl) h_find_quarters.g h_find_quarters.F.kp h_find_quarters.b rfl (da_cons (de_var (pv 1)) (da_cons (de_ix ix_seq od_ix (de_var (pv 0)) (de_var (pv 1)) (fun _ _ => rfl)) da_nil)) (aCons_len (aCons_len aNil_len)))) (blkOk_by (by kernel_rfl)) (by decide) (fun _ _ _ _ _ => (dg_name (i := 4) nd rfl (by first | exact .inl rfl | exact .inr rfl))) (fun _ _ _ _ _ => dts_nil) (fun _ _ _ _ _ => (de_cmp op_inP od_in (de_var (pv 4)) (de_var (pv 3)) rfl)))) da_nil))))))
theorem ok_check_vehicle (T : Tx w K mg) {a : Addr} {fd : FuncData} (h : FnAt K mg "check_vehicle" (topS 32) ["traffic", "arm"] a fd) : FnOk P w K mg base CX0 1 a fd ["traffic", "arm"] (spD K 2 D_check_vehicle) := by
  obtain ⟨u_EMPTY, g_EMPTY, r_EMPTY⟩ := T.c_EMPTY
  have nd := (sc_check_vehicle).nd
  refine fnD h.F sc_check_vehicle fun cdv A outer s H E hr => ?_
  exact (dss_one (ds_if (dt_cmp (op_eqD hr.units) od_eq (de_ix ix_seq od_ix (de_var (pv 0)) (de_var (pv 1)) (fun _ _ => rfl)) (de_c (pe_glob (by rfl) g_EMPTY r_EMPTY) (fun _ => .str _)) (nomark _)) (dss_one ds_no)
    dss_nil))
theorem okR_check_vehicle (T : Tx w K mg) {a : Addr} {fd : FuncData} (h : FnAt K mg "check_vehicle" (topS 32) ["traffic", "arm"] a fd) : FnOk P w K mg base (L2.CX P w) 1 a fd ["traffic", "arm"] (spR K mg 2 X_check_vehicle) := by
  obtain ⟨u_EMPTY, g_EMPTY, r_EMPTY⟩ := T.c_EMPTY
  obtain ⟨C_NoVehicle, g_NoVehicle, x_NoVehicle⟩ := T.x_NoVehicle
  have nd := (sc_check_vehicle).nd
  refine fnR h.F sc_check_vehicle fun cdv A outer s H E hr tk => ?_
  exact (dssr_now (dsr_if (dt_cmp (op_eqD hr.units) od_eq (de_ix ix_seq od_ix (de_var (pv 0)) (de_var (pv 1)) (fun _ _ => rfl)) (de_c (pe_glob (by rfl) g_EMPTY r_EMPTY) (fun _ => .str _)) (nomark _)) (dssr_now (dsr_raise1 rfl tk x_NoVehicle g_NoVehicle rfl)) dssr_no))

theorem okR_in_the_way (T : Tx w K mg) {a : Addr} {fd : FuncData} (h : FnAt K mg "in_the_way" (topS 33) ["traffic", "one", "other"] a fd) : FnOk P w K mg base (L2.CX P w) 3 a fd ["traffic", "one", "other"] (spR K mg 3 X_in_the_way) := by
  obtain ⟨a_check_arm, fd_check_arm, h_check_arm⟩ := T.h_check_arm
  obtain ⟨a_check_traffic, fd_check_traffic, h_check_traffic⟩ := T.h_check_traffic
  obtain ⟨a_check_vehicle, fd_check_vehicle, h_check_vehicle⟩ := T.h_check_vehicle
  obtain ⟨C_SameArm, g_SameArm, x_SameArm⟩ := T.x_SameArm
  have nd := (sc_in_the_way).nd
  refine fnR h.F sc_in_the_way fun cdv A outer s H E hr tk => ?_
  exact (dssr_or (dssr_now (dsr_expr (der_call tk (okR_check_traffic T h_check_traffic) (hr.mono (by decide)) (by rfl) h_check_traffic.g h_check_traffic.F.kp h_check_traffic.b rfl (da_cons (de_var (pv 0)) da_nil) (aCons_len aNil_len))))
    (dssr_skip (ds_expr (de_call (ok_check_traffic T h_check_traffic) (hr.mono (by decide)) (by rfl) h_check_traffic.g h_check_traffic.F.kp h_check_traffic.b rfl (da_cons (de_var (pv 0)) da_nil) (aCons_len aNil_len))) (dssr_or (dssr_now (dsr_expr (der_call tk (okR_check_arm T h_check_arm) (hr.mono (by decide)) (by rfl) h_check_arm.g h_check_arm.F.kp h_check_arm.b rfl (da_cons (de_var (pv 1)) da_nil) (aCons_len aNil_len))))
    (dssr_skip (ds_expr (de_call (ok_check_arm T h_check_arm) (hr.mono (by decide)) (by rfl) h_check_arm.g h_check_arm.F.kp h_check_arm.b rfl (da_cons (de_var (pv 1)) da_nil) (aCons_len aNil_len))) (dssr_or (dssr_now (dsr_expr (der_call tk (okR_check_arm T h_check_arm) (hr.mono (by decide)) (by rfl) h_check_arm.g h_check_arm.F.kp h_check_arm.b rfl (da_cons (de_var (pv 2)) da_nil) (aCons_len aNil_len))))
    (dssr_skip (ds_expr (de_call (ok_check_arm T h_check_arm) (hr.mono (by decide)) (by rfl) h_check_arm.g h_check_arm.F.kp h_check_arm.b rfl (da_cons (de_var (pv 2)) da_nil) (aCons_len aNil_len))) (dssr_or (dssr_now (dsr_expr (der_call tk (okR_check_vehicle T h_check_vehicle) (hr.mono (by decide)) (by rfl) h_check_vehicle.g h_check_vehicle.F.kp h_check_vehicle.b rfl (da_cons (de_var (pv 0)) (da_cons (de_var (pv 1)) da_nil)) (aCons_len (aCons_len aNil_len)))))
    (dssr_skip (ds_expr (de_call (ok_check_vehicle T h_check_vehicle) (hr.mono (by decide)) (by rfl) h_check_vehicle.g h_check_vehicle.F.kp h_check_vehicle.b rfl (da_cons (de_var (pv 0)) (da_cons (de_var (pv 1)) da_nil)) (aCons_len (aCons_len aNil_len)))) (dssr_or (dssr_now (dsr_expr (der_call tk (okR_check_vehicle T h_check_vehicle) (hr.mono (by decide)) (by rfl) h_check_vehicle.g h_check_vehicle.F.kp h_check_vehicle.b rfl (da_cons (de_var (pv 0)) (da_cons (de_var (pv 2)) da_nil)) (aCons_len (aCons_len aNil_len)))))
    (dssr_skip (ds_expr (de_call (ok_check_vehicle T h_check_vehicle) (hr.mono (by decide)) (by rfl) h_check_vehicle.g h_check_vehicle.F.kp h_check_vehicle.b rfl (da_cons (de_var (pv 0)) (da_cons (de_var (pv 2)) da_nil)) (aCons_len (aCons_len aNil_len)))) (dssr_now (dsr_if (dt_cmp (op_eqD hr.units) od_eq (de_var (pv 1)) (de_var (pv 2)) (nomark _)) (dssr_now (dsr_raise1 rfl tk x_SameArm g_SameArm rfl)) dssr_no))))))))))))

theorem okR_conflicts (T : Tx w K mg) {a : Addr} {fd : FuncData} (h : FnAt K mg "conflicts" (topS 34) ["traffic"] a fd) : FnOk P w K mg base (L2.CX P w) 3 a fd ["traffic"] (spR K mg 1 X_conflicts) := by
  obtain ⟨a_check_traffic, fd_check_traffic, h_check_traffic⟩ := T.h_check_traffic
  have nd := (sc_conflicts).nd
  refine fnR h.F sc_conflicts fun cdv A outer s H E hr tk => ?_
  exact (dssr_now (dsr_expr (der_call tk (okR_check_traffic T h_check_traffic) (hr.mono (by decide)) (by rfl) h_check_traffic.g h_check_traffic.F.kp h_check_traffic.b rfl (da_cons (de_var (pv 0)) da_nil) (aCons_len aNil_len))))

theorem okR_can_join (T : Tx w K mg) {a : Addr} {fd : FuncData} (h : FnAt K mg "can_join" (topS 35) ["traffic", "arm", "turn"] a fd) : FnOk P w K mg base (L2.CX P w) 3 a fd ["traffic", "arm", "turn"] (spR K mg 3 X_can_join) := by
  obtain ⟨u_EMPTY, g_EMPTY, r_EMPTY⟩ := T.c_EMPTY
  obtain ⟨a_check_arm, fd_check_arm, h_check_arm⟩ := T.h_check_arm
  obtain ⟨a_check_traffic, fd_check_traffic, h_check_traffic⟩ := T.h_check_traffic
  obtain ⟨a_check_turn, fd_check_turn, h_check_turn⟩ := T.h_check_turn
  obtain ⟨C_ArmTaken, g_ArmTaken, x_ArmTaken⟩ := T.x_ArmTaken
  have nd := (sc_can_join).nd
  refine fnR h.F sc_can_join fun cdv A outer s H E hr tk => ?_
  exact (dssr_or (dssr_now (dsr_expr (der_call tk (okR_check_traffic T h_check_traffic) (hr.mono (by decide)) (by rfl) h_check_traffic.g h_check_traffic.F.kp h_check_traffic.b rfl (da_cons (de_var (pv 0)) da_nil) (aCons_len aNil_len))))
    (dssr_skip (ds_expr (de_call (ok_check_traffic T h_check_traffic) (hr.mono (by decide)) (by rfl) h_check_traffic.g h_check_traffic.F.kp h_check_traffic.b rfl (da_cons (de_var (pv 0)) da_nil) (aCons_len aNil_len))) (dssr_or (dssr_now (dsr_expr (der_call tk (okR_check_arm T h_check_arm) (hr.mono (by decide)) (by rfl) h_check_arm.g h_check_arm.F.kp h_check_arm.b rfl (da_cons (de_var (pv 1)) da_nil) (aCons_len aNil_len))))
    (dssr_skip (ds_expr (de_call (ok_check_arm T h_check_arm) (hr.mono (by decide)) (by rfl) h_check_arm.g h_check_arm.F.kp h_check_arm.b rfl (da_cons (de_var (pv 1)) da_nil) (aCons_len aNil_len))) (dssr_or (dssr_now (dsr_expr (der_call tk (okR_check_turn T h_check_turn) (hr.mono (by decide)) (by rfl) h_check_turn.g h_check_turn.F.kp h_check_turn.b rfl (da_cons (de_var (pv 2)) da_nil) (aCons_len aNil_len))))
    (dssr_skip (ds_expr (de_call (ok_check_turn T h_check_turn) (hr.mono (by decide)) (by rfl) h_check_turn.g h_check_turn.F.kp h_check_turn.b rfl (da_cons (de_var (pv 2)) da_nil) (aCons_len aNil_len))) (dssr_now (dsr_if (dt_cmp (op_neD hr.units) od_neS (de_ix ix_seq od_ix (de_var (pv 0)) (de_var (pv 1)) (fun _ _ => rfl)) (de_c (pe_glob (by rfl) g_EMPTY r_EMPTY) (fun _ => .str _)) (nomark _)) (dssr_now (dsr_raise1 rfl tk x_ArmTaken g_ArmTaken rfl)) dssr_no))))))))

theorem okR_largest_free (T : Tx w K mg) {a : Addr} {fd : FuncData} (h : FnAt K mg "largest_free" (topS 36) ["traffic"] a fd) : FnOk P w K mg base (L2.CX P w) 3 a fd ["traffic"] (spR K mg 1 X_largest_free) := by
  obtain ⟨a_check_traffic, fd_check_traffic, h_check_traffic⟩ := T.h_check_traffic
  have m_any := T.m_any
  have nd := (sc_largest_free).nd
  refine fnR h.F sc_largest_free fun cdv A outer s H E hr tk => ?_
  exact (dssr_now (dsr_expr (der_call tk (okR_check_traffic T h_check_traffic) (hr.mono (by decide)) (by rfl) h_check_traffic.g h_check_traffic.F.kp h_check_traffic.b rfl (da_cons (de_var (pv 0)) da_nil) (aCons_len aNil_len))))
theorem ok_does_wait (T : Tx w K mg) {a : Addr} {fd : FuncData} (h : FnAt K mg "does_wait" (topS 38) ["signs", "traffic", "one", "other"] a fd) : FnOk P w K mg base CX0 3 a fd ["signs", "traffic", "one", "other"] (spD K 4 D_does_wait) := by
  obtain ⟨u_LEFT, g_LEFT, r_LEFT⟩ := T.c_LEFT
  obtain ⟨u_MANY, g_MANY, r_MANY⟩ := T.c_MANY
  obtain ⟨a_do_meet, fd_do_meet, h_do_meet⟩ := T.h_do_meet
  obtain ⟨a_find_rank, fd_find_rank, h_find_rank⟩ := T.h_find_rank
  have nd := (sc_does_wait).nd
  refine fnD h.F sc_does_wait fun cdv A outer s H E hr => ?_
  exact (dss_cons (ds_if (PW.pt (dw_or (dt_cmp (op_eqD hr.units) od_eq (de_var (pv 2)) (de_var (pv 3)) (nomark _)) (dw_or1 (dt_not (dt_val (de_call (ok_do_meet T h_do_meet) (hr.mono (by decide)) (by rfl) h_do_meet.g h_do_meet.F.kp h_do_meet.b rfl (da_cons (de_var (pv 1)) (da_cons (de_var (pv 2)) (da_cons (de_var (pv 3)) da_nil))) (aCons_len (aCons_len (aCons_len aNil_len))))))))) (dss_one (ds_ret de_bl))
    dss_nil)
    (dss_cons (ds_par (i := 4) (j := 5) rfl nd rfl rfl (by decide) rfl rfl (dm_d (de_call (ok_find_rank T h_find_rank) (hr.mono (by decide)) (by rfl) h_find_rank.g h_find_rank.F.kp h_find_rank.b rfl (da_cons (de_var (pv 0)) (da_cons (de_var (pv 2)) da_nil)) (aCons_len (aCons_len aNil_len))) (dm_d (de_call (ok_find_rank T h_find_rank) (hr.mono (by decide)) (by rfl) h_find_rank.g h_find_rank.F.kp h_find_rank.b rfl (da_cons (de_var (pv 0)) (da_cons (de_var (pv 3)) da_nil)) (aCons_len (aCons_len aNil_len))) dm_nil)) (by rfl))
    (dss_cons (ds_if (dt_cmp (op_neD hr.units) od_neS (de_var (pv 4)) (de_var (pv 5)) (nomark _)) (dss_one (ds_ret (de_cmp op_gt od_gt (de_var (pv 5)) (de_var (pv 4)) (nomark _))))
    dss_nil)
    (dss_cons (ds_if (dt_cmp (op_eqD hr.units) od_eq (de_op op_mod od_mod (de_op op_sub od_sub (de_var (pv 2)) (de_var (pv 3))) (de_c (pe_glob (by rfl) g_MANY r_MANY) (fun _ => .int _))) de_int (nomark _)) (dss_one (ds_ret de_bl))
    dss_nil)
    (dss_one (ds_ret (de_and (de_cmp (op_eqD hr.units) od_eq (de_op op_mod od_mod (de_op op_sub od_sub (de_var (pv 2)) (de_var (pv 3))) de_int) de_int (nomark _)) (de_one (de_cmp (op_eqD hr.units) od_eq (de_ix ix_seq od_ix (de_var (pv 1)) (de_var (pv 2)) (fun _ _ => rfl)) (de_c (pe_glob (by rfl) g_LEFT r_LEFT) (fun _ => .str _)) (nomark _))))))))))
theorem ok_find_waits (T : Tx w K mg) {a : Addr} {fd : FuncData} (h : FnAt K mg "find_waits" (topS 39) ["signs", "traffic", "arm"] a fd) : FnOk P w K mg base CX0 4 a fd ["signs", "traffic", "arm"] (spD K 3 D_find_waits) := by
  obtain ⟨a_does_wait, fd_does_wait, h_does_wait⟩ := T.h_does_wait
  obtain ⟨a_find_vehicles, fd_find_vehicles, h_find_vehicles⟩ := T.h_find_vehicles
  have nd := (sc_find_waits).nd
  refine fnD h.F sc_find_waits fun cdv A outer s H E hr => ?_
  exact (dss_one (ds_ret (de_new (dn_lc (own := [("other", 3)]) rfl nd (di_any (de_call (ok_find_vehicles T h_find_vehicles) (hr.mono (by decide)) (by rfl) h_find_vehicles.g h_find_vehicles.F.kp h_find_vehicles.b rfl (da_cons (de_var (pv 1)) da_nil) (aCons_len aNil_len))) (blkOk_by (by kernel_rfl)) (by decide) (fun _ _ _ _ _ => (dg_name (i := 3) nd rfl (by first | exact .inl rfl | exact .inr rfl))) (fun _ _ _ _ _ => (dts_one (dt_val (de_call (ok_does_wait T h_does_wait) (hr.mono (by decide)) (by rfl) h_does_wait.g h_does_wait.F.kp h_does_wait.b rfl (da_cons (de_var (pv 0)) (da_cons (de_var (pv 1)) (da_cons (de_var (pv 2)) (da_cons (de_var (pv 3)) da_nil)))) (aCons_len (aCons_len (aCons_len (aCons_len aNil_len)))))))) (fun _ _ _ _ _ => (de_var (pv 3)))))))
theorem ok_check_both (T : Tx w K mg) {a : Addr} {fd : FuncData} (h : FnAt K mg "check_both" (topS 40) ["signs", "traffic"] a fd) : FnOk P w K mg base CX0 3 a fd ["signs", "traffic"] (spD K 2 D_check_both) := by
  obtain ⟨a_check_signs, fd_check_signs, h_check_signs⟩ := T.h_check_signs
  obtain ⟨a_check_traffic, fd_check_traffic, h_check_traffic⟩ := T.h_check_traffic
  have nd := (sc_check_both).nd
  refine fnD h.F sc_check_both fun cdv A outer s H E hr => ?_
  exact (dss_cons (ds_expr (de_call (ok_check_signs T h_check_signs) (hr.mono (by decide)) (by rfl) h_check_signs.g h_check_signs.F.kp h_check_signs.b rfl (da_cons (de_var (pv 0)) da_nil) (aCons_len aNil_len)))
    (dss_one (ds_expr (de_call (ok_check_traffic T h_check_traffic) (hr.mono (by decide)) (by rfl) h_check_traffic.g h_check_traffic.F.kp h_check_traffic.b rfl (da_cons (de_var (pv 1)) da_nil) (aCons_len aNil_len)))))
theorem okR_check_both (T : Tx w K mg) {a : Addr} {fd : FuncData} (h : FnAt K mg "check_both" (topS 40) ["signs", "traffic"] a fd) : FnOk P w K mg base (L2.CX P w) 3 a fd ["signs", "traffic"] (spR K mg 2 X_check_both) := by
  obtain ⟨a_check_signs, fd_check_signs, h_check_signs⟩ := T.h_check_signs
  obtain ⟨a_check_traffic, fd_check_traffic, h_check_traffic⟩ := T.h_check_traffic
  have nd := (sc_check_both).nd
  refine fnR h.F sc_check_both fun cdv A outer s H E hr tk => ?_
  exact (dssr_or (dssr_now (dsr_expr (der_call tk (okR_check_signs T h_check_signs) (hr.mono (by decide)) (by rfl) h_check_signs.g h_check_signs.F.kp h_check_signs.b rfl (da_cons (de_var (pv 0)) da_nil) (aCons_len aNil_len))))
    (dssr_skip (ds_expr (de_call (ok_check_signs T h_check_signs) (hr.mono (by decide)) (by rfl) h_check_signs.g h_check_signs.F.kp h_check_signs.b rfl (da_cons (de_var (pv 0)) da_nil) (aCons_len aNil_len))) (dssr_now (dsr_expr (der_call tk (okR_check_traffic T h_check_traffic) (hr.mono (by decide)) (by rfl) h_check_traffic.g h_check_traffic.F.kp h_check_traffic.b rfl (da_cons (de_var (pv 1)) da_nil) (aCons_len aNil_len))))))

theorem okR_waits_for (T : Tx w K mg) {a : Addr} {fd : FuncData} (h : FnAt K mg "waits_for" (topS 41) ["signs", "traffic", "arm"] a fd) : FnOk P w K mg base (L2.CX P w) 4 a fd ["signs", "traffic", "arm"] (spR K mg 3 X_waits_for) := by
  obtain ⟨a_check_arm, fd_check_arm, h_check_arm⟩ := T.h_check_arm
  obtain ⟨a_check_both, fd_check_both, h_check_both⟩ := T.h_check_both
  obtain ⟨a_check_vehicle, fd_check_vehicle, h_check_vehicle⟩ := T.h_check_vehicle
  have nd := (sc_waits_for).nd
  refine fnR h.F sc_waits_for fun cdv A outer s H E hr tk => ?_
  exact (dssr_or (dssr_now (dsr_expr (der_call tk (okR_check_both T h_check_both) (hr.mono (by decide)) (by rfl) h_check_both.g h_check_both.F.kp h_check_both.b rfl (da_cons (de_var (pv 0)) (da_cons (de_var (pv 1)) da_nil)) (aCons_len (aCons_len aNil_len)))))
    (dssr_skip (ds_expr (de_call (ok_check_both T h_check_both) (hr.mono (by decide)) (by rfl) h_check_both.g h_check_both.F.kp h_check_both.b rfl (da_cons (de_var (pv 0)) (da_cons (de_var (pv 1)) da_nil)) (aCons_len (aCons_len aNil_len)))) (dssr_or (dssr_now (dsr_expr (der_call tk (okR_check_arm T h_check_arm) (hr.mono (by decide)) (by rfl) h_check_arm.g h_check_arm.F.kp h_check_arm.b rfl (da_cons (de_var (pv 2)) da_nil) (aCons_len aNil_len))))
    (dssr_skip (ds_expr (de_call (ok_check_arm T h_check_arm) (hr.mono (by decide)) (by rfl) h_check_arm.g h_check_arm.F.kp h_check_arm.b rfl (da_cons (de_var (pv 2)) da_nil) (aCons_len aNil_len))) (dssr_now (dsr_expr (der_call tk (okR_check_vehicle T h_check_vehicle) (hr.mono (by decide)) (by rfl) h_check_vehicle.g h_check_vehicle.F.kp h_check_vehicle.b rfl (da_cons (de_var (pv 1)) (da_cons (de_var (pv 2)) da_nil)) (aCons_len (aCons_len aNil_len)))))))))
theorem ok_find_free (T : Tx w K mg) {a : Addr} {fd : FuncData} (h : FnAt K mg "find_free" (topS 42) ["signs", "traffic"] a fd) : FnOk P w K mg base CX0 5 a fd ["signs", "traffic"] (spD K 2 D_find_free) := by
  obtain ⟨a_find_vehicles, fd_find_vehicles, h_find_vehicles⟩ := T.h_find_vehicles
  obtain ⟨a_find_waits, fd_find_waits, h_find_waits⟩ := T.h_find_waits
  have nd := (sc_find_free).nd
  refine fnD h.F sc_find_free fun cdv A outer s H E hr => ?_
  exact (dss_one (ds_ret (de_new (dn_lc (own := [("arm", 2)]) rfl nd (di_any (de_call (ok_find_vehicles T h_find_vehicles) (hr.mono (by decide)) (by rfl) h_find_vehicles.g h_find_vehicles.F.kp h_find_vehicles.b rfl (da_cons (de_var (pv 1)) da_nil) (aCons_len aNil_len))) (blkOk_by (by kernel_rfl)) (by decide) (fun _ _ _ _ _ => (dg_name (i := 2) nd rfl (by first | exact .inl rfl | exact .inr rfl))) (fun _ _ _ _ _ => (dts_one (dt_cmp (op_eqD hr.units) od_eq (de_call (ok_find_waits T h_find_waits) (hr.mono (by decide)) (by rfl) h_find_waits.g h_find_waits.F.kp h_find_waits.b rfl (da_cons (de_var (pv 0)) (da_cons (de_var (pv 1)) (da_cons (de_var (pv 2)) da_nil))) (aCons_len (aCons_len (aCons_len aNil_len)))) (de_lst da_nil) (nomark _)))) (fun _ _ _ _ _ => (de_var (pv 2)))))))

theorem okR_free (T : Tx w K mg) {a : Addr} {fd : FuncData} (h : FnAt K mg "free" (topS 43) ["signs", "traffic"] a fd) : FnOk P w K mg base (L2.CX P w) 4 a fd ["signs", "traffic"] (spR K mg 2 X_free) := by
  obtain ⟨a_check_both, fd_check_both, h_check_both⟩ := T.h_check_both
  have nd := (sc_free).nd
  refine fnR h.F sc_free fun cdv A outer s H E hr tk => ?_
  exact (dssr_now (dsr_expr (der_call tk (okR_check_both T h_check_both) (hr.mono (by decide)) (by rfl) h_check_both.g h_check_both.F.kp h_check_both.b rfl (da_cons (de_var (pv 0)) (da_cons (de_var (pv 1)) da_nil)) (aCons_len (aCons_len aNil_len)))))
theorem ok_run (T : Tx w K mg) {a : Addr} {fd : FuncData} (h : FnAt K mg "run" (topS 44) ["signs", "traffic"] a fd) : FnOk P w K mg base CX0 6 a fd ["signs", "traffic"] (spD K 2 D_run) := by
  obtain ⟨u_EMPTY, g_EMPTY, r_EMPTY⟩ := T.c_EMPTY
  obtain ⟨a_find_free, fd_find_free, h_find_free⟩ := T.h_find_free
  obtain ⟨a_find_vehicles, fd_find_vehicles, h_find_vehicles⟩ := T.h_find_vehicles
  have m_enumerate := T.m_enumerate
  have nd := (sc_run).nd
  refine fnD h.F sc_run fun cdv A outer s H E hr => ?_
  exact (dss_cons (ds_multi (n := 2) rfl (dm_own (dn_lst da_nil) (dm_d (de_call (ok_find_free T h_find_free) (hr.mono (by decide)) (by rfl) h_find_free.g h_find_free.F.kp h_find_free.b rfl (da_cons (de_var (pv 0)) (da_cons (de_var (pv 1)) da_nil)) (aCons_len (aCons_len aNil_len))) dm_nil)) (dgn_cons (pg_name (i := 2) nd rfl (by first | exact .inl rfl | exact .inr rfl)) (dgn_cons (pg_name (i := 3) nd rfl (by first | exact .inl rfl | exact .inr rfl)) dgn_nil)))
    (dss_cons (ds_while 40 PassesOwn.never (dt_cmp (op_neD hr.units) od_neS (de_var (pv 3)) (de_lst da_nil) (nomark _)) (dss_cons (ds_app (pv 2) (de_var (pv 3)))
    (dss_cons (ds_set (i := 1) nd rfl (by first | exact .inl rfl | exact .inr rfl) (de_bm PySem.F.plainAttrs_str PySem.F.slot_str_join PySem.F.type_str_join mt_join md_join join_ty de_str (da_cons (de_new (dn_lc (own := [("arm", 4), ("turn", 5)]) rfl nd (di_enum (by rfl) m_enumerate (de_var (pv 1))) (blkOk_by (by kernel_rfl)) (by decide) (fun _ _ _ _ _ => (dg_tup rfl (dgs_cons (dg_name (i := 4) nd rfl (by first | exact .inl rfl | exact .inr rfl)) (dgs_cons (dg_name (i := 5) nd rfl (by first | exact .inl rfl | exact .inr rfl)) dgs_nil)))) (fun _ _ _ _ _ => dts_nil) (fun _ _ _ _ _ => (de_if (dt_cmp op_inP od_in (de_var (pv 4)) (de_var (pv 3)) rfl) (de_c (pe_glob (by rfl) g_EMPTY r_EMPTY) (fun _ => .str _)) (de_var (pv 5)))))) da_nil)))
    (dss_one (ds_set (i := 3) nd rfl (by first | exact .inl rfl | exact .inr rfl) (de_call (ok_find_free T h_find_free) (hr.mono (by decide)) (by rfl) h_find_free.g h_find_free.F.kp h_find_free.b rfl (da_cons (de_var (pv 0)) (da_cons (de_var (pv 1)) da_nil)) (aCons_len (aCons_len aNil_len))))))))
    (dss_one (ds_fr 2 (ds_ret (de_tup (da_cons (de_var (pv 2)) (da_cons (de_call (ok_find_vehicles T h_find_vehicles) (hr.mono (by decide)) (by rfl) h_find_vehicles.g h_find_vehicles.F.kp h_find_vehicles.b rfl (da_cons (de_var (pv 1)) da_nil) (aCons_len aNil_len)) da_nil))))))))
theorem ok_rounds (T : Tx w K mg) {a : Addr} {fd : FuncData} (h : FnAt K mg "rounds" (topS 45) ["signs", "traffic"] a fd) : FnOk P w K mg base CX0 7 a fd ["signs", "traffic"] (spD K 2 D_rounds) := by
  obtain ⟨a_check_both, fd_check_both, h_check_both⟩ := T.h_check_both
  obtain ⟨a_run, fd_run, h_run⟩ := T.h_run
  have nd := (sc_rounds).nd
  refine fnD h.F sc_rounds fun cdv A outer s H E hr => ?_
  exact (dss_cons (ds_expr (de_call (ok_check_both T h_check_both) (hr.mono (by decide)) (by rfl) h_check_both.g h_check_both.F.kp h_check_both.b rfl (da_cons (de_var (pv 0)) (da_cons (de_var (pv 1)) da_nil)) (aCons_len (aCons_len aNil_len))))
    (dss_one (ds_ret (de_ix ix_seq od_ix (de_call (ok_run T h_run) (hr.mono (by decide)) (by rfl) h_run.g h_run.F.kp h_run.b rfl (da_cons (de_var (pv 0)) (da_cons (de_var (pv 1)) da_nil)) (aCons_len (aCons_len aNil_len))) de_int (fun _ _ => rfl)))))
theorem okR_rounds (T : Tx w K mg) {a : Addr} {fd : FuncData} (h : FnAt K mg "rounds" (topS 45) ["signs", "traffic"] a fd) : FnOk P w K mg base (L2.CX P w) 7 a fd ["signs", "traffic"] (spR K mg 2 X_rounds) := by
  obtain ⟨a_check_both, fd_check_both, h_check_both⟩ := T.h_check_both
  have nd := (sc_rounds).nd
  refine fnR h.F sc_rounds fun cdv A outer s H E hr tk => ?_
  exact (dssr_now (dsr_expr (der_call tk (okR_check_both T h_check_both) (hr.mono (by decide)) (by rfl) h_check_both.g h_check_both.F.kp h_check_both.b rfl (da_cons (de_var (pv 0)) (da_cons (de_var (pv 1)) da_nil)) (aCons_len (aCons_len aNil_len)))))

theorem okR_standing (T : Tx w K mg) {a : Addr} {fd : FuncData} (h : FnAt K mg "standing" (topS 46) ["signs", "traffic"] a fd) : FnOk P w K mg base (L2.CX P w) 4 a fd ["signs", "traffic"] (spR K mg 2 X_standing) := by
  obtain ⟨a_check_both, fd_check_both, h_check_both⟩ := T.h_check_both
  have nd := (sc_standing).nd
  refine fnR h.F sc_standing fun cdv A outer s H E hr tk => ?_
  exact (dssr_now (dsr_expr (der_call tk (okR_check_both T h_check_both) (hr.mono (by decide)) (by rfl) h_check_both.g h_check_both.F.kp h_check_both.b rfl (da_cons (de_var (pv 0)) (da_cons (de_var (pv 1)) da_nil)) (aCons_len (aCons_len aNil_len)))))

theorem okR_standstills (T : Tx w K mg) {a : Addr} {fd : FuncData} (h : FnAt K mg "standstills" (topS 50) ["signs"] a fd) : FnOk P w K mg base (L2.CX P w) 3 a fd ["signs"] (spR K mg 1 X_standstills) := by
  obtain ⟨a_check_signs, fd_check_signs, h_check_signs⟩ := T.h_check_signs
  have nd := (sc_standstills).nd
  refine fnR h.F sc_standstills fun cdv A outer s H E hr tk => ?_
  exact (dssr_now (dsr_expr (der_call tk (okR_check_signs T h_check_signs) (hr.mono (by decide)) (by rfl) h_check_signs.g h_check_signs.F.kp h_check_signs.b rfl (da_cons (de_var (pv 0)) da_nil) (aCons_len aNil_len))))

theorem okR_can_stand_still (T : Tx w K mg) {a : Addr} {fd : FuncData} (h : FnAt K mg "can_stand_still" (topS 52) ["signs"] a fd) : FnOk P w K mg base (L2.CX P w) 3 a fd ["signs"] (spR K mg 1 X_can_stand_still) := by
  obtain ⟨a_check_signs, fd_check_signs, h_check_signs⟩ := T.h_check_signs
  have nd := (sc_can_stand_still).nd
  refine fnR h.F sc_can_stand_still fun cdv A outer s H E hr tk => ?_
  exact (dssr_now (dsr_expr (der_call tk (okR_check_signs T h_check_signs) (hr.mono (by decide)) (by rfl) h_check_signs.g h_check_signs.F.kp h_check_signs.b rfl (da_cons (de_var (pv 0)) da_nil) (aCons_len aNil_len))))

theorem okR_count_by_rounds (T : Tx w K mg) {a : Addr} {fd : FuncData} (h : FnAt K mg "count_by_rounds" (topS 53) ["signs"] a fd) : FnOk P w K mg base (L2.CX P w) 3 a fd ["signs"] (spR K mg 1 X_count_by_rounds) := by
  obtain ⟨a_check_signs, fd_check_signs, h_check_signs⟩ := T.h_check_signs
  have m_len := T.m_len
  have nd := (sc_count_by_rounds).nd
  refine fnR h.F sc_count_by_rounds fun cdv A outer s H E hr tk => ?_
  exact (dssr_now (dsr_expr (der_call tk (okR_check_signs T h_check_signs) (hr.mono (by decide)) (by rfl) h_check_signs.g h_check_signs.F.kp h_check_signs.b rfl (da_cons (de_var (pv 0)) da_nil) (aCons_len aNil_len))))

theorem okR_slowest (T : Tx w K mg) {a : Addr} {fd : FuncData} (h : FnAt K mg "slowest" (topS 54) ["signs"] a fd) : FnOk P w K mg base (L2.CX P w) 3 a fd ["signs"] (spR K mg 1 X_slowest) := by
  obtain ⟨a_check_signs, fd_check_signs, h_check_signs⟩ := T.h_check_signs
  have nd := (sc_slowest).nd
  refine fnR h.F sc_slowest fun cdv A outer s H E hr tk => ?_
  exact (dssr_now (dsr_expr (der_call tk (okR_check_signs T h_check_signs) (hr.mono (by decide)) (by rfl) h_check_signs.g h_check_signs.F.kp h_check_signs.b rfl (da_cons (de_var (pv 0)) da_nil) (aCons_len aNil_len))))

theorem okR_latest_round (T : Tx w K mg) {a : Addr} {fd : FuncData} (h : FnAt K mg "latest_round" (topS 55) ["signs", "arm"] a fd) : FnOk P w K mg base (L2.CX P w) 3 a fd ["signs", "arm"] (spR K mg 2 X_latest_round) := by
  obtain ⟨a_check_arm, fd_check_arm, h_check_arm⟩ := T.h_check_arm
  obtain ⟨a_check_signs, fd_check_signs, h_check_signs⟩ := T.h_check_signs
  have m_enumerate := T.m_enumerate
  have m_max := T.m_max
  have nd := (sc_latest_round).nd
  refine fnR h.F sc_latest_round fun cdv A outer s H E hr tk => ?_
  exact (dssr_or (dssr_now (dsr_expr (der_call tk (okR_check_signs T h_check_signs) (hr.mono (by decide)) (by rfl) h_check_signs.g h_check_signs.F.kp h_check_signs.b rfl (da_cons (de_var (pv 0)) da_nil) (aCons_len aNil_len))))
    (dssr_skip (ds_expr (de_call (ok_check_signs T h_check_signs) (hr.mono (by decide)) (by rfl) h_check_signs.g h_check_signs.F.kp h_check_signs.b rfl (da_cons (de_var (pv 0)) da_nil) (aCons_len aNil_len))) (dssr_now (dsr_expr (der_call tk (okR_check_arm T h_check_arm) (hr.mono (by decide)) (by rfl) h_check_arm.g h_check_arm.F.kp h_check_arm.b rfl (da_cons (de_var (pv 1)) da_nil) (aCons_len aNil_len))))))

theorem okR_with_sign (T : Tx w K mg) {a : Addr} {fd : FuncData} (h : FnAt K mg "with_sign" (topS 59) ["signs", "arm", "sign"] a fd) : FnOk P w K mg base (L2.CX P w) 3 a fd ["signs", "arm", "sign"] (spR K mg 3 X_with_sign) := by
  obtain ⟨u_SIGNS, g_SIGNS, r_SIGNS⟩ := T.c_SIGNS
  obtain ⟨a_check_arm, fd_check_arm, h_check_arm⟩ := T.h_check_arm
  obtain ⟨a_check_signs, fd_check_signs, h_check_signs⟩ := T.h_check_signs
  have m_isinstance := T.m_isinstance
  have m_len := T.m_len
  have m_str := T.m_str
  obtain ⟨C_InvalidSign, g_InvalidSign, x_InvalidSign⟩ := T.x_InvalidSign
  have nd := (sc_with_sign).nd
  refine fnR h.F sc_with_sign fun cdv A outer s H E hr tk => ?_
  exact (dssr_or (dssr_now (dsr_expr (der_call tk (okR_check_signs T h_check_signs) (hr.mono (by decide)) (by rfl) h_check_signs.g h_check_signs.F.kp h_check_signs.b rfl (da_cons (de_var (pv 0)) da_nil) (aCons_len aNil_len))))
    (dssr_skip (ds_expr (de_call (ok_check_signs T h_check_signs) (hr.mono (by decide)) (by rfl) h_check_signs.g h_check_signs.F.kp h_check_signs.b rfl (da_cons (de_var (pv 0)) da_nil) (aCons_len aNil_len))) (dssr_or (dssr_now (dsr_expr (der_call tk (okR_check_arm T h_check_arm) (hr.mono (by decide)) (by rfl) h_check_arm.g h_check_arm.F.kp h_check_arm.b rfl (da_cons (de_var (pv 1)) da_nil) (aCons_len aNil_len))))
    (dssr_skip (ds_expr (de_call (ok_check_arm T h_check_arm) (hr.mono (by decide)) (by rfl) h_check_arm.g h_check_arm.F.kp h_check_arm.b rfl (da_cons (de_var (pv 1)) da_nil) (aCons_len aNil_len))) (dssr_now (dsr_if (PW.pt (dw_or (dt_not (dt_val (de_isi (.inl rfl) (by rfl) m_isinstance (by decide +kernel) (de_var (pv 2)) (pe_bltn (by rfl) m_str (by decide +kernel) rfl)))) (dw_or (dt_cmp (op_neD hr.units) od_neS (de_callB call_lenP cd_len (by rfl) m_len (by decide +kernel) (da_cons (de_var (pv 2)) da_nil)) de_int (nomark _)) (dw_or1 (dt_cmp op_notInP od_notIn (de_var (pv 2)) (de_c (pe_glob (by rfl) g_SIGNS r_SIGNS) (fun _ => .str _)) rfl))))) (dssr_now (dsr_raise1 rfl tk x_InvalidSign g_InvalidSign rfl)) dssr_no))))))

theorem okR_fewest_changed (T : Tx w K mg) {a : Addr} {fd : FuncData} (h : FnAt K mg "fewest_changed" (topS 61) ["signs"] a fd) : FnOk P w K mg base (L2.CX P w) 3 a fd ["signs"] (spR K mg 1 X_fewest_changed) := by
  obtain ⟨a_check_signs, fd_check_signs, h_check_signs⟩ := T.h_check_signs
  have nd := (sc_fewest_changed).nd
  refine fnR h.F sc_fewest_changed fun cdv A outer s H E hr tk => ?_
  exact (dssr_now (dsr_expr (der_call tk (okR_check_signs T h_check_signs) (hr.mono (by decide)) (by rfl) h_check_signs.g h_check_signs.F.kp h_check_signs.b rfl (da_cons (de_var (pv 0)) da_nil) (aCons_len aNil_len))))

theorem okR_first_changed (T : Tx w K mg) {a : Addr} {fd : FuncData} (h : FnAt K mg "first_changed" (topS 62) ["signs"] a fd) : FnOk P w K mg base (L2.CX P w) 3 a fd ["signs"] (spR K mg 1 X_first_changed) := by
  obtain ⟨a_check_signs, fd_check_signs, h_check_signs⟩ := T.h_check_signs
  have nd := (sc_first_changed).nd
  refine fnR h.F sc_first_changed fun cdv A outer s H E hr tk => ?_
  exact (dssr_now (dsr_expr (der_call tk (okR_check_signs T h_check_signs) (hr.mono (by decide)) (by rfl) h_check_signs.g h_check_signs.F.kp h_check_signs.b rfl (da_cons (de_var (pv 0)) da_nil) (aCons_len aNil_len))))

theorem okR_needless (T : Tx w K mg) {a : Addr} {fd : FuncData} (h : FnAt K mg "needless" (topS 64) ["signs"] a fd) : FnOk P w K mg base (L2.CX P w) 3 a fd ["signs"] (spR K mg 1 X_needless) := by
  obtain ⟨u_MANY, g_MANY, r_MANY⟩ := T.c_MANY
  obtain ⟨u_NONE, g_NONE, r_NONE⟩ := T.c_NONE
  obtain ⟨a_check_signs, fd_check_signs, h_check_signs⟩ := T.h_check_signs
  have m_range := T.m_range
  have nd := (sc_needless).nd
  refine fnR h.F sc_needless fun cdv A outer s H E hr tk => ?_
  exact (dssr_now (dsr_expr (der_call tk (okR_check_signs T h_check_signs) (hr.mono (by decide)) (by rfl) h_check_signs.g h_check_signs.F.kp h_check_signs.b rfl (da_cons (de_var (pv 0)) da_nil) (aCons_len aNil_len))))
theorem ok_check_two (T : Tx w K mg) {a : Addr} {fd : FuncData} (h : FnAt K mg "check_two" (topS 66) ["one", "other"] a fd) : FnOk P w K mg base CX0 3 a fd ["one", "other"] (spD K 2 D_check_two) := by
  obtain ⟨a_check_signs, fd_check_signs, h_check_signs⟩ := T.h_check_signs
  have nd := (sc_check_two).nd
  refine fnD h.F sc_check_two fun cdv A outer s H E hr => ?_
  exact (dss_cons (ds_expr (de_call (ok_check_signs T h_check_signs) (hr.mono (by decide)) (by rfl) h_check_signs.g h_check_signs.F.kp h_check_signs.b rfl (da_cons (de_var (pv 0)) da_nil) (aCons_len aNil_len)))
    (dss_one (ds_expr (de_call (ok_check_signs T h_check_signs) (hr.mono (by decide)) (by rfl) h_check_signs.g h_check_signs.F.kp h_check_signs.b rfl (da_cons (de_var (pv 1)) da_nil) (aCons_len aNil_len)))))
theorem okR_check_two (T : Tx w K mg) {a : Addr} {fd : FuncData} (h : FnAt K mg "check_two" (topS 66) ["one", "other"] a fd) : FnOk P w K mg base (L2.CX P w) 3 a fd ["one", "other"] (spR K mg 2 X_check_two) := by
  obtain ⟨a_check_signs, fd_check_signs, h_check_signs⟩ := T.h_check_signs
  have nd := (sc_check_two).nd
  refine fnR h.F sc_check_two fun cdv A outer s H E hr tk => ?_
  exact (dssr_or (dssr_now (dsr_expr (der_call tk (okR_check_signs T h_check_signs) (hr.mono (by decide)) (by rfl) h_check_signs.g h_check_signs.F.kp h_check_signs.b rfl (da_cons (de_var (pv 0)) da_nil) (aCons_len aNil_len))))
    (dssr_skip (ds_expr (de_call (ok_check_signs T h_check_signs) (hr.mono (by decide)) (by rfl) h_check_signs.g h_check_signs.F.kp h_check_signs.b rfl (da_cons (de_var (pv 0)) da_nil) (aCons_len aNil_len))) (dssr_now (dsr_expr (der_call tk (okR_check_signs T h_check_signs) (hr.mono (by decide)) (by rfl) h_check_signs.g h_check_signs.F.kp h_check_signs.b rfl (da_cons (de_var (pv 1)) da_nil) (aCons_len aNil_len))))))

theorem okR_agree (T : Tx w K mg) {a : Addr} {fd : FuncData} (h : FnAt K mg "agree" (topS 67) ["one", "other"] a fd) : FnOk P w K mg base (L2.CX P w) 4 a fd ["one", "other"] (spR K mg 2 X_agree) := by
  obtain ⟨a_check_two, fd_check_two, h_check_two⟩ := T.h_check_two
  have nd := (sc_agree).nd
  refine fnR h.F sc_agree fun cdv A outer s H E hr tk => ?_
  exact (dssr_now (dsr_expr (der_call tk (okR_check_two T h_check_two) (hr.mono (by decide)) (by rfl) h_check_two.g h_check_two.F.kp h_check_two.b rfl (da_cons (de_var (pv 0)) (da_cons (de_var (pv 1)) da_nil)) (aCons_len (aCons_len aNil_len)))))

theorem okR_parting (T : Tx w K mg) {a : Addr} {fd : FuncData} (h : FnAt K mg "parting" (topS 68) ["one", "other"] a fd) : FnOk P w K mg base (L2.CX P w) 4 a fd ["one", "other"] (spR K mg 2 X_parting) := by
  obtain ⟨u_EMPTY, g_EMPTY, r_EMPTY⟩ := T.c_EMPTY
  obtain ⟨u_TURNS, g_TURNS, r_TURNS⟩ := T.c_TURNS
  obtain ⟨a_check_two, fd_check_two, h_check_two⟩ := T.h_check_two
  have m_enumerate := T.m_enumerate
  have nd := (sc_parting).nd
  refine fnR h.F sc_parting fun cdv A outer s H E hr tk => ?_
  exact (dssr_now (dsr_expr (der_call tk (okR_check_two T h_check_two) (hr.mono (by decide)) (by rfl) h_check_two.g h_check_two.F.kp h_check_two.b rfl (da_cons (de_var (pv 0)) (da_cons (de_var (pv 1)) da_nil)) (aCons_len (aCons_len aNil_len)))))

theorem okR_alike (T : Tx w K mg) {a : Addr} {fd : FuncData} (h : FnAt K mg "alike" (topS 71) ["signs"] a fd) : FnOk P w K mg base (L2.CX P w) 3 a fd ["signs"] (spR K mg 1 X_alike) := by
  obtain ⟨a_check_signs, fd_check_signs, h_check_signs⟩ := T.h_check_signs
  have nd := (sc_alike).nd
  refine fnR h.F sc_alike fun cdv A outer s H E hr tk => ?_
  exact (dssr_now (dsr_expr (der_call tk (okR_check_signs T h_check_signs) (hr.mono (by decide)) (by rfl) h_check_signs.g h_check_signs.F.kp h_check_signs.b rfl (da_cons (de_var (pv 0)) da_nil) (aCons_len aNil_len))))

theorem okR_plainest (T : Tx w K mg) {a : Addr} {fd : FuncData} (h : FnAt K mg "plainest" (topS 72) ["signs"] a fd) : FnOk P w K mg base (L2.CX P w) 3 a fd ["signs"] (spR K mg 1 X_plainest) := by
  obtain ⟨a_check_signs, fd_check_signs, h_check_signs⟩ := T.h_check_signs
  have nd := (sc_plainest).nd
  refine fnR h.F sc_plainest fun cdv A outer s H E hr tk => ?_
  exact (dssr_now (dsr_expr (der_call tk (okR_check_signs T h_check_signs) (hr.mono (by decide)) (by rfl) h_check_signs.g h_check_signs.F.kp h_check_signs.b rfl (da_cons (de_var (pv 0)) da_nil) (aCons_len aNil_len))))

theorem okR_turned (T : Tx w K mg) {a : Addr} {fd : FuncData} (h : FnAt K mg "turned" (topS 73) ["signs"] a fd) : FnOk P w K mg base (L2.CX P w) 3 a fd ["signs"] (spR K mg 1 X_turned) := by
  obtain ⟨a_check_signs, fd_check_signs, h_check_signs⟩ := T.h_check_signs
  have nd := (sc_turned).nd
  refine fnR h.F sc_turned fun cdv A outer s H E hr tk => ?_
  exact (dssr_now (dsr_expr (der_call tk (okR_check_signs T h_check_signs) (hr.mono (by decide)) (by rfl) h_check_signs.g h_check_signs.F.kp h_check_signs.b rfl (da_cons (de_var (pv 0)) da_nil) (aCons_len aNil_len))))
theorem ok__law_pick (T : Tx w K mg) {a : Addr} {fd : FuncData} (h : FnAt K mg "_law_pick" (topS 75) ["script", "k", "many"] a fd) : FnOk P w K mg base CX0 1 a fd ["script", "k", "many"] (spD K 3 D__law_pick) := by
  have m_len := T.m_len
  have m_max := T.m_max
  have nd := (sc__law_pick).nd
  refine fnD h.F sc__law_pick fun cdv A outer s H E hr => ?_
  exact (dss_cons (ds_set (i := 3) nd rfl (by first | exact .inl rfl | exact .inr rfl) (de_if (dt_cmp (op_neD hr.units) od_neS (de_var (pv 0)) (de_lst da_nil) (nomark _)) (de_ix ix_seq od_ix (de_var (pv 0)) (de_op op_mod od_mod (de_var (pv 1)) (de_callB call_lenP cd_len (by rfl) m_len (by decide +kernel) (da_cons (de_var (pv 0)) da_nil))) (fun _ _ => rfl)) de_int))
    (dss_cons (ds_par (i := 4) (j := 5) rfl nd rfl rfl (by decide) rfl rfl (dm_d (de_op op_fdivW od_fdiv (de_var (pv 3)) (de_op op_pow od_pow de_int de_int)) (dm_d (de_op op_fdivW od_fdiv (de_var (pv 1)) (de_callB (cr_maxA rfl hr.units) cd_max (by rfl) m_max (by decide +kernel) (da_cons (de_callB call_lenP cd_len (by rfl) m_len (by decide +kernel) (da_cons (de_var (pv 0)) da_nil)) (da_cons de_int da_nil)))) dm_nil)) (by rfl))
    (dss_cons (ds_while 1000 PassesOwn.never (PW.pt (dw_and (dt_cmp op_gt od_gt (de_var (pv 4)) de_int (nomark _)) (dw_and1 (dt_cmp op_gt od_gt (de_var (pv 5)) de_int (nomark _))))) (dss_one (ds_par (i := 4) (j := 5) rfl nd rfl rfl (by decide) rfl rfl (dm_d (de_op op_fdivW od_fdiv (de_var (pv 4)) de_int) (dm_d (de_op op_sub od_sub (de_var (pv 5)) de_int) dm_nil)) (by rfl))))
    (dss_cons (ds_if (dt_cmp op_gt od_gt (de_var (pv 4)) de_int (nomark _)) (dss_one (ds_ret (de_op op_mod od_mod (de_op op_mod od_mod (de_var (pv 4)) de_int) (de_var (pv 2)))))
    dss_nil)
    (dss_cons (ds_set (i := 6) nd rfl (by first | exact .inl rfl | exact .inr rfl) (de_op op_mod od_mod (de_op op_mulA od_mulA (de_op op_addP od_add (de_op op_mulA od_mulA (de_var (pv 3)) de_int) (de_op op_mulA od_mulA de_int (de_op op_addP od_add (de_var (pv 1)) de_int))) de_int) de_int))
    (dss_one (ds_ret (de_op op_mod od_mod (de_op op_mod od_mod (de_op op_addP od_add (de_op op_mulA od_mulA (de_var (pv 6)) (de_var (pv 6))) (de_op op_fdivW od_fdiv (de_var (pv 6)) de_int)) de_int) (de_var (pv 2))))))))))
theorem ok__law_posts (T : Tx w K mg) {a : Addr} {fd : FuncData} (h : FnAt K mg "_law_posts" (topS 76) ["script", "at"] a fd) : FnOk P w K mg base CX0 2 a fd ["script", "at"] (spD K 2 D__law_posts) := by
  obtain ⟨a__law_pick, fd__law_pick, h__law_pick⟩ := T.h__law_pick
  have m_range := T.m_range
  have nd := (sc__law_posts).nd
  refine fnD h.F sc__law_posts fun cdv A outer s H E hr => ?_
  exact (dss_one (ds_ret (de_bm PySem.F.plainAttrs_str PySem.F.slot_str_join PySem.F.type_str_join mt_join md_join join_ty de_str (da_cons (de_new (dn_lc (own := [("k", 2)]) rfl nd (di_range1 (by rfl) m_range de_int) (blkOk_by (by kernel_rfl)) (by decide) (fun _ _ _ _ _ => (dg_name (i := 2) nd rfl (by first | exact .inl rfl | exact .inr rfl))) (fun _ _ _ _ _ => dts_nil) (fun _ _ _ _ _ => (de_ix ix_seq od_ix de_str (de_call (ok__law_pick T h__law_pick) (hr.mono (by decide)) (by rfl) h__law_pick.g h__law_pick.F.kp h__law_pick.b rfl (da_cons (de_var (pv 0)) (da_cons (de_op op_addP od_add (de_var (pv 1)) (de_var (pv 2))) (da_cons de_int da_nil))) (aCons_len (aCons_len (aCons_len aNil_len)))) (fun _ _ => rfl))))) da_nil))))
theorem ok__law_cars (T : Tx w K mg) {a : Addr} {fd : FuncData} (h : FnAt K mg "_law_cars" (topS 77) ["script", "at"] a fd) : FnOk P w K mg base CX0 2 a fd ["script", "at"] (spD K 2 D__law_cars) := by
  obtain ⟨a__law_pick, fd__law_pick, h__law_pick⟩ := T.h__law_pick
  have m_range := T.m_range
  have nd := (sc__law_cars).nd
  refine fnD h.F sc__law_cars fun cdv A outer s H E hr => ?_
  exact (dss_one (ds_ret (de_bm PySem.F.plainAttrs_str PySem.F.slot_str_join PySem.F.type_str_join mt_join md_join join_ty de_str (da_cons (de_new (dn_lc (own := [("k", 2)]) rfl nd (di_range1 (by rfl) m_range de_int) (blkOk_by (by kernel_rfl)) (by decide) (fun _ _ _ _ _ => (dg_name (i := 2) nd rfl (by first | exact .inl rfl | exact .inr rfl))) (fun _ _ _ _ _ => dts_nil) (fun _ _ _ _ _ => (de_ix ix_seq od_ix de_str (de_call (ok__law_pick T h__law_pick) (hr.mono (by decide)) (by rfl) h__law_pick.g h__law_pick.F.kp h__law_pick.b rfl (da_cons (de_var (pv 0)) (da_cons (de_op op_addP od_add (de_var (pv 1)) (de_var (pv 2))) (da_cons de_int da_nil))) (aCons_len (aCons_len (aCons_len aNil_len)))) (fun _ _ => rfl))))) da_nil))))
end
end Nk26

namespace DL
open PySem PySem.Spec PyProof.Rows L2 LamX NdefX
/-! ### list.count of flat values -/
section
variable {X : Cx}
def rCntV (K : PySem.W.Frag) : L2.V → List L2.V → Hp → VK → Prop := fun x xs H Q => ∃ (p : Addr) (ys : List L2.V) (y : L2.V), x = .ref p ∧ xs = [y] ∧ SqL K H p ys ∧ flatV y = true ∧ ys.all flatV = true ∧ Q (.int (ys.countP (fun z => eqV z y) : Nat)) H
theorem cnt_eq {y : L2.V} : ∀ {ys : List L2.V} {us : List Value}, Vals ys us → ys.all flatV = true → us.countP (eqU y) = ys.countP fun z => eqV z y
  | _, _, .nil, _ => rfl
  | z :: ys, u :: us, .cons r t, f => by
    rw [List.all_cons, Bool.and_eq_true] at f
    rw [List.countP_cons, List.countP_cons, cnt_eq t f.2, eqU_of r f.1]
theorem mt_cntV : MtR X "list.count" (rCntV X.K) := by
  intro pins s σ H x xs v us Q I rx rxs h
  obtain ⟨p, ys, y, rfl, rfl, hs, fy, fys, q⟩ := h
  cases rx
  obtain ⟨u, rfl, ru⟩ := rxs.one
  obtain ⟨its, rv, ⟨⟨cls, dd, data, sl⟩, n, ho, hc, hdn, hd⟩, hlen⟩ := I.list hs
  simp only at hc hd
  subst hc hd
  refine call_meets PySem.F.slot_list_count ⟨_, ho, rfl⟩ PySem.F.entry_list_count (PySem.F.args_list_count_2 _ _)
    (SeqAt.list_countAt p its.toArray n dd sl u (eqU y)) ⟨ho, fun z hz => mem_eqAt ru fy rv fys z (by simpa using hz), ?_⟩
  have ec : its.toArray.toList.countP (eqU y) = ys.countP fun z => eqV z y := cnt_eq rv fys
  refine ⟨.int (ys.countP (fun z => eqV z y) : Nat), H, I.tok _, ⟨s.toks, ?_⟩, q⟩
  show Value.int ((its.toArray.toList.countP (eqU y) : Nat) : Int) s.toks = Value.int ((ys.countP (fun z => eqV z y) : Nat) : Int) s.toks
  rw [ec]
end
def lcntP : PyData → List PyData → Option PyData
  | .list ds, [y] => if (flatD y && ds.all flatD) = true then some (.int (ds.countP (fun d => PyData.eqv d y) : Nat)) else none
  | _, _ => none
theorem cnt_of {K : PySem.W.Frag} {V : Hp} {w : L2.V} {y : PyData} (hy : Dq K V w y) (fy : flatD y = true) : ∀ {vs : List L2.V} {ds : List PyData}, DqAll K V vs ds → ds.all flatD = true → vs.countP (fun z => eqV z w) = ds.countP fun d => PyData.eqv d y
  | _, _, .nil, _ => rfl
  | _, _, .cons a b, f => by
    rw [List.all_cons, Bool.and_eq_true] at f
    rw [List.countP_cons, List.countP_cons, cnt_of hy fy b f.2, eqV_of a hy f.1 fy]
theorem md_cntV {K : PySem.W.Frag} : MtD K (rCntV K) lcntP := by
  intro V H x xs d ds z Q s hx da ho q
  cases hx with
  | lst h1 d1 =>
    cases da with
    | nil => cases ho
    | cons b r =>
      cases r with
      | cons _ _ => cases ho
      | nil =>
        rename_i w y
        simp only [lcntP] at ho
        split at ho
        · rename_i f
          rw [Bool.and_eq_true] at f
          cases ho
          refine ⟨_, _, w, rfl, rfl, .inl (s.rd h1), flat_of b f.1, flats_of d1 f.2, ?_⟩
          rw [cnt_of b f.1 d1 f.2]
          exact keep s q (.int _)
        · cases ho
  | _ => cases ho
theorem cntV_ty (d : PyData) (ds : List PyData) (z : PyData) (h : lcntP d ds = some z) : tyD "list" d = true := by
  cases d <;> first | rfl | (simp [lcntP] at h)
/-! ### statements by data, then others -/
def tK (K : PySem.W.Frag) (F : DS) (u : TS) : TS := fun D σ H => ∃ BV B V ρ ρ', EnvD K BV B V H σ ρ ∧ F ρ = some (.nx ρ') ∧ ∀ σ' V' H', EnvD K BV B V' H' σ' ρ' → u D σ' H'
section
variable {X : Cx} {st : Stmt} {rest : List Stmt} {F G : DS} {u : TS}
theorem dk_end (h : PSs X rest u) : PSs X rest (tK X.K sSkip u) := pss_w h fun D σ H ⟨BV, B, V, ρ, ρ', E, h, q⟩ => by
  cases h
  exact q σ V H E
theorem dk_cons (h1 : PS X st (sD X.K F)) (h2 : PSs X rest (tK X.K G u)) : PSs X (st :: rest) (tK X.K (sSeq F G) u) := pss_w (pss_cons h1 h2) fun D σ H ⟨BV, B, V, ρ, ρ', E, h, q⟩ => by
  unfold sSeq at h
  cases h1 : F ρ with
  | none => rw [h1] at h; cases h
  | some x =>
    rw [h1] at h
    refine ⟨BV, B, V, ρ, x, E, h1, ?_⟩
    cases x with
    | nx ρ1 => exact fun σ' V' H' E' => ⟨BV, B, V', ρ1, ρ', E', h, q⟩
    | _ => cases h
end
/-! ### the view without tables and told cells -/
open Classical in
noncomputable def cutV (V : Hp) : Hp := fun a => if (∃ ps, V a = some (.tbl ps)) ∨ (∃ o, V a = some (cellZ o)) then none else V a
theorem cut_some {V : Hp} {a : Addr} {o : HO} (h : cutV V a = some o) : V a = some o := by
  unfold cutV at h
  split at h
  · cases h
  · exact h
theorem cut_ex {V : Hp} : Ex (cutV V) V := fun a o h => cut_some h
theorem cut_noz {V : Hp} : NoZ (cutV V) := by
  refine ⟨fun a ps h => ?_, fun a o h => ?_⟩
  · have := cut_some h
    unfold cutV at h
    rw [if_pos (.inl ⟨ps, this⟩)] at h
    cases h
  · have := cut_some h
    unfold cutV at h
    rw [if_pos (.inr ⟨o, this⟩)] at h
    cases h
theorem cut_rd {V : Hp} {a : Addr} {u : HO} (h : Rd V a u) (n1 : ∀ ps, u ≠ .tbl ps) (n2 : ∀ o, u ≠ cellZ o) (n3 : ∀ o o', HO.frz o u ≠ cellZ o') : Rd (cutV V) a u := by
  unfold cutV
  rcases h with h | ⟨o, h⟩
  · refine .inl ?_
    dsimp only
    rw [if_neg]
    · exact h
    · rintro (⟨ps, z⟩ | ⟨o, z⟩)
      · rw [h] at z; cases z; exact n1 _ rfl
      · rw [h] at z; cases z; exact n2 _ rfl
  · refine .inr ⟨o, ?_⟩
    dsimp only
    rw [if_neg]
    · exact h
    · rintro (⟨ps, z⟩ | ⟨o', z⟩)
      · rw [h] at z; cases z
      · rw [h] at z; exact n3 _ _ (Option.some.inj z)
theorem cut_lst {V : Hp} {a : Addr} {xs : List L2.V} (h : Rd V a (.lst xs)) : Rd (cutV V) a (.lst xs) := cut_rd h (fun _ z => by cases z) (fun _ z => by unfold cellZ at z; cases z) fun _ _ z => by unfold cellZ at z; cases z
theorem cut_tup {V : Hp} {a : Addr} {xs : List L2.V} (h : Rd V a (.tup xs)) : Rd (cutV V) a (.tup xs) := cut_rd h (fun _ z => by cases z) (fun _ z => by unfold cellZ at z; cases z) fun _ _ z => by unfold cellZ at z; cases z
mutual
theorem cut_dq {K : PySem.W.Frag} {V : Hp} : ∀ {v : L2.V} {d : PyData}, Dq K V v d → Dq K (cutV V) v d
  | _, _, .non => .non
  | _, _, .bl b => .bl b
  | _, _, .int b => .int b
  | _, _, .str b => .str b
  | _, _, .lst s a => .lst (cut_lst s) (cut_da a)
  | _, _, .tup s a => .tup (s.elim (fun h => .inl (cut_tup h)) fun h => .inr h) (cut_da a)
  | _, _, .lk s a => .lk (s.elim (fun h => .inl (cut_lst h)) fun h => .inr h) (cut_da a)
theorem cut_da {K : PySem.W.Frag} {V : Hp} : ∀ {v : List L2.V} {d : List PyData}, DqAll K V v d → DqAll K (cutV V) v d
  | _, _, .nil => .nil
  | _, _, .cons a b => .cons (cut_dq a) (cut_da b)
end
/-! ### from one to the other -/
/-- slots that hold data -/
theorem env_at {K : PySem.W.Frag} {BV : Hp} {B : Bs} {V H : Hp} {σ : L2.St} {ρ : List Sl} (E : EnvD K BV B V H σ ρ) (i : Nat) (d : PyData) (h : ρ[i]? = some (.d d)) : ∃ v, σ[i]? = some (some v) ∧ Dq K (cutV V) v d := by
  obtain ⟨v, h1, h2⟩ := var_val (i := i) E (by unfold dVar; rw [h])
  exact ⟨v, h1, cut_dq h2⟩
/-- some slots told as data, nothing else -/
theorem env_of {K : PySem.W.Frag} {V H : Hp} {σ : L2.St} {ρ : List Sl} (ex : Ex V H) (hl : ρ.length ≤ σ.length) (h : ∀ (i : Nat) (s : Sl), ρ[i]? = some s → s = Sl.un ∨ ∃ d v, s = Sl.d d ∧ σ[i]? = some (some v) ∧ Dq K V v d) : EnvD K V (Bs.of H) V H σ ρ := by
  refine ⟨⟨fun _ _ => False, fun i s e => ?_, fun _ _ _ _ z => z.elim, fun _ _ z => z.elim⟩, .refl ex, fun _ z => z.elim⟩
  have hi : i < σ.length := Nat.lt_of_lt_of_le (List.getElem?_eq_some_iff.mp e).1 hl
  rcases h i s e with rfl | ⟨d, v, rfl, h1, h2⟩
  · refine ⟨_, List.getElem?_eq_getElem hi, fun _ z => z.elim, ?_, trivial⟩
    generalize σ[i] = o
    cases o <;> exact fun _ z => z
  · exact ⟨_, h1, fun _ z => z.elim, Own.dat h2, trivial⟩
/-! ### the end -/
theorem walk_tabs {l : PySem.W.OpenLaw} {n k : Nat} {q : Program} {loose : List Str} {XP : (Str → Option Value) → Heap → Prop} {YP : World → Heap → Prop} {d : DefRec} {K : Params → PySem.W.Frag} {CX : World → CXT} {x : Str} {ms : List Str}
    (hn : l.most = some n) (hn2 : n ≤ sizeLine) (hdf : d.params.defaults = []) (hr : Room k callerA) (hrec : (ms.all fun m => (recsOf q).any fun e => e.name == m) = true) (hY : ∀ (w : World) (h : Heap), YP w h → (K w.params).In h)
    (F : ∀ (w : World) (mg : Str → Option Value) (fa : Addr) (h : Heap), YP w h → (K w.params).In h → h.Ns mainGlobals mg → mg d.name = some (.ref fa) → (∀ m ∈ ms, ∀ c P, PySem.W.tabIn (K w.params) m = some (c, P) → PySem.W.CodeHd h c P ∧ h.get? P = some { cls := .none, data := .fields #[] }) → LawAtS l w (K w.params) (CX w) k n x mg fa h)
    (hCX : ∀ (w : World) (H : Hp) (s : Shared) (e : Value) (s' : Shared), CX w [] H s (fun _ _ _ => False) e s' → False) :
    PySem.W.WalkO q loose XP YP l.row.toRowW d [] (fun f vs => PySem.call f vs) := by
  refine Att.attach_callB hn hdf fun w s₀ s₁ mg mb fa o pm cd doc a vs ns G Y ho hd hcd hmg hobj hints hlen hbits hg => ?_
  have KX := hY w _ Y
  have own : ∀ m ∈ ms, ∀ c P, PySem.W.tabIn (K w.params) m = some (c, P) → PySem.W.CodeHd s₁.heap c P ∧ s₁.heap.get? P = some { cls := .none, data := .fields #[] } := fun m hm c P ht => by
    have h1 := List.all_eq_true.mp hrec m hm
    rw [List.any_eq_true] at h1
    obtain ⟨dL, m1, m2⟩ := h1
    cases e : (recsOf q).find? (fun e => e.name == m) with
    | none => rw [List.find?_eq_none] at e; exact absurd m2 (e dL m1)
    | some d' => exact PySem.W.tab_of G.T KX e ht
  obtain ⟨fd, cs, sp, hT, nT, C, hb, hsp, hF⟩ := F w mg fa _ Y KX G.T.g hmg own
  exact law_callTs KX G.T.g G.T.b G.T.builtins G.T.nolimit hg hT nT C G.T.bmain hobj hints (Nat.le_trans hlen hn2) hr hF hb (fun H hH hS => hsp H a ns hlen hbits hH hS) fun H e s' => hCX w H s₁ e s'
end DL

namespace Nk26
open PySem PySem.Spec PyProof.Rows L2 DL LamX NdefX
open L2H (RoomH PinOk cxH inv_startH roomH_of)
def Fc (b0 b1 b2 b3 b4 b5 b6 b7 : Bool) : DS := (sSeq (sOwn 1 (aSmall (aCons (dC (.bool b0)) (aCons (dC (.bool b1)) aNil)))) (sSeq (sExt 1 (dL (aSmall (aCons (dC (.bool b2)) (aCons (dC (.bool b3)) aNil))))) (sSeq (sExt 1 (dL (aSmall (aCons (dC (.bool b4)) (aCons (dC (.bool b5)) aNil))))) (sSeq (sExt 1 (dL (aSmall (aCons (dC (.bool b6)) (aCons (dC (.bool b7)) aNil))))) (sSeq (sFr 1 (sIf (bOr (bOf (d2 nePS (dM lcntP (dVar 1) (aCons (dC (.bool true)) aNil)) (dC (.int 1)))) (bNot (bOf (dC (.bool true))))) (sRetT (dC (.str "wrong"))) sSkip)) (sSeq (sOwn 2 (aSmall (aCons (dC (.str "InvalidSigns")) (aCons (dC (.str "InvalidTraffic")) (aCons (dC (.str "InvalidArm")) (aCons (dC (.str "InvalidTurn")) aNil)))))) (sSeq (sExt 2 (dL (aSmall (aCons (dC (.str "NoVehicle")) (aCons (dC (.str "SameArm")) (aCons (dC (.str "ArmTaken")) (aCons (dC (.str "InvalidSign")) aNil))))))) (sFr 2 (sRetT (d2 ixP (dVar 2) (dM lindexP (dVar 1) (aCons (dC (.bool true)) aNil))))))))))))
section
variable {P : Program} {w : World} {K : PySem.W.Frag} {mg : Str → Option Value} {base : Heap}
theorem cls_body (T : Tx w K mg) {b0 b1 b2 b3 b4 b5 b6 b7 : Bool} {cdv : Value} {A : Around} {outer : List Env} {s : Shared} {H : Hp} {E0 : XK} {p : Addr × Obj} {D f : Addr} (E : ExcC K D) (hz : Zc (.ref D) none p.2) (hf : ∃ vs, p.2.data = .fields vs) (k0 : ∀ C, mg "InvalidSigns" = some (.ref C) → PySem.W.kitOne K (.ref D) (.ref C) = some b0) (k1 : ∀ C, mg "InvalidTraffic" = some (.ref C) → PySem.W.kitOne K (.ref D) (.ref C) = some b1) (k2 : ∀ C, mg "InvalidArm" = some (.ref C) → PySem.W.kitOne K (.ref D) (.ref C) = some b2) (k3 : ∀ C, mg "InvalidTurn" = some (.ref C) → PySem.W.kitOne K (.ref D) (.ref C) = some b3) (k4 : ∀ C, mg "NoVehicle" = some (.ref C) → PySem.W.kitOne K (.ref D) (.ref C) = some b4) (k5 : ∀ C, mg "SameArm" = some (.ref C) → PySem.W.kitOne K (.ref D) (.ref C) = some b5) (k6 : ∀ C, mg "ArmTaken" = some (.ref C) → PySem.W.kitOne K (.ref D) (.ref C) = some b6) (k7 : ∀ C, mg "InvalidSign" = some (.ref C) → PySem.W.kitOne K (.ref D) (.ref C) = some b7) (kv : PySem.W.kitOne K (.ref D) (.type "ValueError") = some true)
    (hu : (A.deeper (envOfC "_law_class" (defScope (topS 78)) s.heap.objs.size f cdv)).units + 64 < cLine) : PSs (cxH CX0 P w K mg base ["error", "kinds", "names"] "_law_class" (defScope (topS 78)) f cdv A outer s H E0 p) (defBody (topS 78)) (sH K 0 p.1 (Fc b0 b1 b2 b3 b4 b5 b6 b7)) := by
  obtain ⟨D_InvalidSigns, g_InvalidSigns, x_InvalidSigns⟩ := T.x_InvalidSigns
  obtain ⟨D_InvalidTraffic, g_InvalidTraffic, x_InvalidTraffic⟩ := T.x_InvalidTraffic
  obtain ⟨D_InvalidArm, g_InvalidArm, x_InvalidArm⟩ := T.x_InvalidArm
  obtain ⟨D_InvalidTurn, g_InvalidTurn, x_InvalidTurn⟩ := T.x_InvalidTurn
  obtain ⟨D_NoVehicle, g_NoVehicle, x_NoVehicle⟩ := T.x_NoVehicle
  obtain ⟨D_SameArm, g_SameArm, x_SameArm⟩ := T.x_SameArm
  obtain ⟨D_ArmTaken, g_ArmTaken, x_ArmTaken⟩ := T.x_ArmTaken
  obtain ⟨D_InvalidSign, g_InvalidSign, x_InvalidSign⟩ := T.x_InvalidSign
  have k0 := k0 _ g_InvalidSigns
  have k1 := k1 _ g_InvalidTraffic
  have k2 := k2 _ g_InvalidArm
  have k3 := k3 _ g_InvalidTurn
  have k4 := k4 _ g_NoVehicle
  have k5 := k5 _ g_SameArm
  have k6 := k6 _ g_ArmTaken
  have k7 := k7 _ g_InvalidSign
  have m_isinstance := T.m_isinstance
  have m_ValueError := T.m_ValueError
  have nd := (sc__law_class).nd
  exact (hs_cons (hs_own (j := 1) (by decide) nd rfl (by first | exact .inl rfl | exact .inr rfl) (ha_cons (hd_isP (List.mem_singleton.mpr rfl) E hz hf k0 rfl m_isinstance (pv 0) (pe_cls rfl g_InvalidSigns)) (ha_cons (hd_isP (List.mem_singleton.mpr rfl) E hz hf k1 rfl m_isinstance (pv 0) (pe_cls rfl g_InvalidTraffic)) ha_nil)))
    (hs_cons (hs_ext (j := 1) (pv 1) (hd_lst (ha_cons (hd_isP (List.mem_singleton.mpr rfl) E hz hf k2 rfl m_isinstance (pv 0) (pe_cls rfl g_InvalidArm)) (ha_cons (hd_isP (List.mem_singleton.mpr rfl) E hz hf k3 rfl m_isinstance (pv 0) (pe_cls rfl g_InvalidTurn)) ha_nil))))
    (hs_cons (hs_ext (j := 1) (pv 1) (hd_lst (ha_cons (hd_isP (List.mem_singleton.mpr rfl) E hz hf k4 rfl m_isinstance (pv 0) (pe_cls rfl g_NoVehicle)) (ha_cons (hd_isP (List.mem_singleton.mpr rfl) E hz hf k5 rfl m_isinstance (pv 0) (pe_cls rfl g_SameArm)) ha_nil))))
    (hs_cons (hs_ext (j := 1) (pv 1) (hd_lst (ha_cons (hd_isP (List.mem_singleton.mpr rfl) E hz hf k6 rfl m_isinstance (pv 0) (pe_cls rfl g_ArmTaken)) (ha_cons (hd_isP (List.mem_singleton.mpr rfl) E hz hf k7 rfl m_isinstance (pv 0) (pe_cls rfl g_InvalidSign)) ha_nil))))
    (hs_cons (hs_fr 1 (hs_if (ht_or (ht_p (dt_cmp (op_neD hu) od_neS (de_bm PySem.F.plainAttrs_list PySem.F.slot_list_count PySem.F.type_list_count mt_cntV md_cntV cntV_ty (de_var (pv 1)) (da_cons de_bl da_nil)) de_int (nomark _))) (ht_not (ht_v (hd_isP (List.mem_singleton.mpr rfl) E hz hf kv rfl m_isinstance (pv 0) (pe_btype rfl m_ValueError (by decide +kernel)))))) (hs_one (hs_retT (hd_p de_str))) hs_nil))
    (hs_cons (hs_own (j := 2) (by decide) nd rfl (by first | exact .inl rfl | exact .inr rfl) (ha_cons (hd_p de_str) (ha_cons (hd_p de_str) (ha_cons (hd_p de_str) (ha_cons (hd_p de_str) ha_nil)))))
    (hs_cons (hs_ext (j := 2) (pv 2) (hd_lst (ha_cons (hd_p de_str) (ha_cons (hd_p de_str) (ha_cons (hd_p de_str) (ha_cons (hd_p de_str) ha_nil))))))
    (hs_one (hs_fr 2 (hs_retT (hd_p (de_ix ix_seq od_ix (de_var (pv 2)) (de_bm PySem.F.plainAttrs_list PySem.F.slot_list_index PySem.F.type_list_index mt_index md_lindex lindex_ty (de_var (pv 1)) (da_cons de_bl da_nil)) (fun _ _ => rfl)))))))))))))
theorem ok__law_class (T : Tx w K mg) {a : Addr} {fd : FuncData} (h : FnAt K mg "_law_class" (topS 78) ["error"] a fd) : FnHE P w K mg base 1 a fd ["error"] (spCls K mg ["InvalidSigns", "InvalidTraffic", "InvalidArm", "InvalidTurn", "NoVehicle", "SameArm", "ArmTaken", "InvalidSign"]) := by
  obtain ⟨D_InvalidSigns, g_InvalidSigns, x_InvalidSigns⟩ := T.x_InvalidSigns
  obtain ⟨D_InvalidTraffic, g_InvalidTraffic, x_InvalidTraffic⟩ := T.x_InvalidTraffic
  obtain ⟨D_InvalidArm, g_InvalidArm, x_InvalidArm⟩ := T.x_InvalidArm
  obtain ⟨D_InvalidTurn, g_InvalidTurn, x_InvalidTurn⟩ := T.x_InvalidTurn
  obtain ⟨D_NoVehicle, g_NoVehicle, x_NoVehicle⟩ := T.x_NoVehicle
  obtain ⟨D_SameArm, g_SameArm, x_SameArm⟩ := T.x_SameArm
  obtain ⟨D_ArmTaken, g_ArmTaken, x_ArmTaken⟩ := T.x_ArmTaken
  obtain ⟨D_InvalidSign, g_InvalidSign, x_InvalidSign⟩ := T.x_InvalidSign
  refine fnCls (k := 0) h.F sc__law_class (by decide) fun cdv A outer s H E p hr cl D hcl hm hz hf => ?_
  have hu : (A.deeper (envOfC "_law_class" (defScope (topS 78)) s.heap.objs.size a cdv)).units + 64 < cLine := by
    have := hr.un
    omega
  simp only [List.mem_cons, List.not_mem_nil, or_false] at hcl
  rcases hcl with rfl | rfl | rfl | rfl | rfl | rfl | rfl | rfl
  · cases hm.symm.trans g_InvalidSigns
    exact ⟨Fc true false false false false false false false, _, cls_body T x_InvalidSigns.ec hz hf (fun C => T.k_InvalidSigns_InvalidSigns _ C g_InvalidSigns) (fun C => T.k_InvalidSigns_InvalidTraffic _ C g_InvalidSigns) (fun C => T.k_InvalidSigns_InvalidArm _ C g_InvalidSigns) (fun C => T.k_InvalidSigns_InvalidTurn _ C g_InvalidSigns) (fun C => T.k_InvalidSigns_NoVehicle _ C g_InvalidSigns) (fun C => T.k_InvalidSigns_SameArm _ C g_InvalidSigns) (fun C => T.k_InvalidSigns_ArmTaken _ C g_InvalidSigns) (fun C => T.k_InvalidSigns_InvalidSign _ C g_InvalidSigns) (T.v_InvalidSigns _ g_InvalidSigns) hu, rfl⟩
  · cases hm.symm.trans g_InvalidTraffic
    exact ⟨Fc false true false false false false false false, _, cls_body T x_InvalidTraffic.ec hz hf (fun C => T.k_InvalidTraffic_InvalidSigns _ C g_InvalidTraffic) (fun C => T.k_InvalidTraffic_InvalidTraffic _ C g_InvalidTraffic) (fun C => T.k_InvalidTraffic_InvalidArm _ C g_InvalidTraffic) (fun C => T.k_InvalidTraffic_InvalidTurn _ C g_InvalidTraffic) (fun C => T.k_InvalidTraffic_NoVehicle _ C g_InvalidTraffic) (fun C => T.k_InvalidTraffic_SameArm _ C g_InvalidTraffic) (fun C => T.k_InvalidTraffic_ArmTaken _ C g_InvalidTraffic) (fun C => T.k_InvalidTraffic_InvalidSign _ C g_InvalidTraffic) (T.v_InvalidTraffic _ g_InvalidTraffic) hu, rfl⟩
  · cases hm.symm.trans g_InvalidArm
    exact ⟨Fc false false true false false false false false, _, cls_body T x_InvalidArm.ec hz hf (fun C => T.k_InvalidArm_InvalidSigns _ C g_InvalidArm) (fun C => T.k_InvalidArm_InvalidTraffic _ C g_InvalidArm) (fun C => T.k_InvalidArm_InvalidArm _ C g_InvalidArm) (fun C => T.k_InvalidArm_InvalidTurn _ C g_InvalidArm) (fun C => T.k_InvalidArm_NoVehicle _ C g_InvalidArm) (fun C => T.k_InvalidArm_SameArm _ C g_InvalidArm) (fun C => T.k_InvalidArm_ArmTaken _ C g_InvalidArm) (fun C => T.k_InvalidArm_InvalidSign _ C g_InvalidArm) (T.v_InvalidArm _ g_InvalidArm) hu, rfl⟩
  · cases hm.symm.trans g_InvalidTurn
    exact ⟨Fc false false false true false false false false, _, cls_body T x_InvalidTurn.ec hz hf (fun C => T.k_InvalidTurn_InvalidSigns _ C g_InvalidTurn) (fun C => T.k_InvalidTurn_InvalidTraffic _ C g_InvalidTurn) (fun C => T.k_InvalidTurn_InvalidArm _ C g_InvalidTurn) (fun C => T.k_InvalidTurn_InvalidTurn _ C g_InvalidTurn) (fun C => T.k_InvalidTurn_NoVehicle _ C g_InvalidTurn) (fun C => T.k_InvalidTurn_SameArm _ C g_InvalidTurn) (fun C => T.k_InvalidTurn_ArmTaken _ C g_InvalidTurn) (fun C => T.k_InvalidTurn_InvalidSign _ C g_InvalidTurn) (T.v_InvalidTurn _ g_InvalidTurn) hu, rfl⟩
  · cases hm.symm.trans g_NoVehicle
    exact ⟨Fc false false false false true false false false, _, cls_body T x_NoVehicle.ec hz hf (fun C => T.k_NoVehicle_InvalidSigns _ C g_NoVehicle) (fun C => T.k_NoVehicle_InvalidTraffic _ C g_NoVehicle) (fun C => T.k_NoVehicle_InvalidArm _ C g_NoVehicle) (fun C => T.k_NoVehicle_InvalidTurn _ C g_NoVehicle) (fun C => T.k_NoVehicle_NoVehicle _ C g_NoVehicle) (fun C => T.k_NoVehicle_SameArm _ C g_NoVehicle) (fun C => T.k_NoVehicle_ArmTaken _ C g_NoVehicle) (fun C => T.k_NoVehicle_InvalidSign _ C g_NoVehicle) (T.v_NoVehicle _ g_NoVehicle) hu, rfl⟩
  · cases hm.symm.trans g_SameArm
    exact ⟨Fc false false false false false true false false, _, cls_body T x_SameArm.ec hz hf (fun C => T.k_SameArm_InvalidSigns _ C g_SameArm) (fun C => T.k_SameArm_InvalidTraffic _ C g_SameArm) (fun C => T.k_SameArm_InvalidArm _ C g_SameArm) (fun C => T.k_SameArm_InvalidTurn _ C g_SameArm) (fun C => T.k_SameArm_NoVehicle _ C g_SameArm) (fun C => T.k_SameArm_SameArm _ C g_SameArm) (fun C => T.k_SameArm_ArmTaken _ C g_SameArm) (fun C => T.k_SameArm_InvalidSign _ C g_SameArm) (T.v_SameArm _ g_SameArm) hu, rfl⟩
  · cases hm.symm.trans g_ArmTaken
    exact ⟨Fc false false false false false false true false, _, cls_body T x_ArmTaken.ec hz hf (fun C => T.k_ArmTaken_InvalidSigns _ C g_ArmTaken) (fun C => T.k_ArmTaken_InvalidTraffic _ C g_ArmTaken) (fun C => T.k_ArmTaken_InvalidArm _ C g_ArmTaken) (fun C => T.k_ArmTaken_InvalidTurn _ C g_ArmTaken) (fun C => T.k_ArmTaken_NoVehicle _ C g_ArmTaken) (fun C => T.k_ArmTaken_SameArm _ C g_ArmTaken) (fun C => T.k_ArmTaken_ArmTaken _ C g_ArmTaken) (fun C => T.k_ArmTaken_InvalidSign _ C g_ArmTaken) (T.v_ArmTaken _ g_ArmTaken) hu, rfl⟩
  · cases hm.symm.trans g_InvalidSign
    exact ⟨Fc false false false false false false false true, _, cls_body T x_InvalidSign.ec hz hf (fun C => T.k_InvalidSign_InvalidSigns _ C g_InvalidSign) (fun C => T.k_InvalidSign_InvalidTraffic _ C g_InvalidSign) (fun C => T.k_InvalidSign_InvalidArm _ C g_InvalidSign) (fun C => T.k_InvalidSign_InvalidTurn _ C g_InvalidSign) (fun C => T.k_InvalidSign_NoVehicle _ C g_InvalidSign) (fun C => T.k_InvalidSign_SameArm _ C g_InvalidSign) (fun C => T.k_InvalidSign_ArmTaken _ C g_InvalidSign) (fun C => T.k_InvalidSign_InvalidSign _ C g_InvalidSign) (T.v_InvalidSign _ g_InvalidSign) hu, rfl⟩
end
end Nk26

namespace Nk26
open PySem PySem.Spec PyProof.Rows L2 DL LamX NdefX
open L2H (RoomH PinOk cxH inv_startH roomH_of)
def cls : List Str := ["InvalidSigns", "InvalidTraffic", "InvalidArm", "InvalidTurn", "NoVehicle", "SameArm", "ArmTaken", "InvalidSign"]
section
variable {P : Program} {w : World} {K : PySem.W.Frag} {mg : Str → Option Value} {base : Heap}
theorem ok__law_result (T : Tx w K mg) {a : Addr} {fd : FuncData} (h : FnAt K mg "_law_result" (topS 79) ["call"] a fd) : FnOk P w K mg base CX0 9 a fd ["call"] (spRes P w K mg base 7 cls) := by
  obtain ⟨a_c, fd_c, h_c⟩ := T.h__law_class
  obtain ⟨C, gC, xC⟩ := T.x_CrossError
  have hcl : ∀ cl ∈ cls, ∃ D, mg cl = some (.ref D) ∧ PySem.W.exmOne K (.ref D) (.ref C) = some true := by
    intro cl hcl
    unfold cls at hcl
    simp only [List.mem_cons, List.not_mem_nil, or_false] at hcl
    rcases hcl with rfl | rfl | rfl | rfl | rfl | rfl | rfl | rfl
    · obtain ⟨D, gD, _⟩ := T.x_InvalidSigns
      exact ⟨D, gD, T.e_InvalidSigns_CrossError _ _ gD gC⟩
    · obtain ⟨D, gD, _⟩ := T.x_InvalidTraffic
      exact ⟨D, gD, T.e_InvalidTraffic_CrossError _ _ gD gC⟩
    · obtain ⟨D, gD, _⟩ := T.x_InvalidArm
      exact ⟨D, gD, T.e_InvalidArm_CrossError _ _ gD gC⟩
    · obtain ⟨D, gD, _⟩ := T.x_InvalidTurn
      exact ⟨D, gD, T.e_InvalidTurn_CrossError _ _ gD gC⟩
    · obtain ⟨D, gD, _⟩ := T.x_NoVehicle
      exact ⟨D, gD, T.e_NoVehicle_CrossError _ _ gD gC⟩
    · obtain ⟨D, gD, _⟩ := T.x_SameArm
      exact ⟨D, gD, T.e_SameArm_CrossError _ _ gD gC⟩
    · obtain ⟨D, gD, _⟩ := T.x_ArmTaken
      exact ⟨D, gD, T.e_ArmTaken_CrossError _ _ gD gC⟩
    · obtain ⟨D, gD, _⟩ := T.x_InvalidSign
      exact ⟨D, gD, T.e_InvalidSign_CrossError _ _ gD gC⟩
  refine fnRes (k := 8) h.F sc__law_result fun cdv A outer s H E hr => ?_
  exact pss_one (ps_res (k := 7) (kc := 1) rfl rfl sc__law_result.nd rfl rfl (by first | exact .inl rfl | exact .inr (.inl rfl) | exact .inr (.inr rfl)) rfl ⟨by rfl, by decide, .inl gC⟩ L2.takes0 (hr.mono (by decide)) hcl (ok__law_class T h_c) (fun a => ⟨(hr.mono (j := 1) (by decide)).dp, (hr.mono (j := 1) (by decide)).un⟩) rfl h_c.g h_c.F.kp h_c.b (by first | exact .inl rfl | exact .inr (.inl rfl) | exact .inr (.inr rfl)) (by decide) (by decide) (by decide) (by decide) (by decide))
theorem ok__law_all (T : Tx w K mg) {a : Addr} {fd : FuncData} (h : FnAt K mg "_law_all" (topS 80) ["calls", "name"] a fd) : FnOk P w K mg base CX0 10 a fd ["calls", "name"] (spAll P w K mg base 7 cls) := by
  obtain ⟨a_r, fd_r, h_r⟩ := T.h__law_result
  have nd := (sc__law_all).nd
  have hsh : ∀ cl ∈ cls, SeqAt.shaped (.tuple [.str "error", .str cl]) = true := by
    intro cl hcl
    unfold cls at hcl
    simp only [List.mem_cons, List.not_mem_nil, or_false] at hcl
    rcases hcl with rfl | rfl | rfl | rfl | rfl | rfl | rfl | rfl <;> kernel_rfl
  refine fnAll (k := 9) h.F sc__law_all fun cdv A outer s H E hr => ?_
  exact pss_one (ps_ret (pe_all (p3 := ⟨0, 0, 0, 0⟩) (pe_lc (own := [("call", 2)]) rfl nd (pi_list (pv 0)) (blkOk_by (by kernel_rfl)) (fun s H C cl fp => pg_name (i := 2) nd rfl (by first | exact .inl rfl | exact .inr rfl)) (fun s H C cl fp => pts_nil) (fun s H C cl fp => pe_el (ok__law_result T h_r) hr rfl h_r.g h_r.F.kp h_r.b hsh (pv 2) (pv 1) (nomark _))) (cr_all rfl) (by rfl) T.m_all (by decide +kernel)))
end
end Nk26

namespace Nk26
open PySem PySem.Spec PyProof.Rows L2 DL LamX NdefX
open L2H (RoomH PinOk cxH inv_startH roomH_of)
def lmA : Stmt → Lm
  | .Assign _ (.List [.Lambda a b s _] _) _ => (a, b, s)
  | .Expr (.Call _ [.Lambda a b s _] [] _) _ => (a, b, s)
  | _ => (⟨[], [], none, [], [], none, []⟩, .Constant .none 0 ⟨0, 0, 0, 0⟩, ⟨.function, [], false, false, []⟩)
def stA (i j : Nat) : Stmt := (defBody (topS i)).getD j (.Pass ⟨0, 0, 0, 0⟩)
def nm26 : Nat → Nat → Str := fun l _ => if l < 292 then "_law_signed.<locals>.<lambda>" else if l < 302 then "_law_driven.<locals>.<lambda>" else if l < 313 then "_law_armed.<locals>.<lambda>" else "law.<locals>.<lambda>"
def pk_signed_0 : Pk := ⟨["no"], [1], (rCall X_rank (aCons (dVar 0) (aCons (d1 negP (dC (.int 1))) aNil)))⟩
def pk_signed_1 : Pk := ⟨["no"], [1], (rCall X_waits_for (aCons (dVar 0) (aCons (dC .none) (aCons (d1 negP (dC (.int 1))) aNil))))⟩
def pk_signed_2 : Pk := ⟨["no"], [1], (rCall X_free (aCons (dVar 0) (aCons (dC .none) aNil)))⟩
def pk_signed_3 : Pk := ⟨["no"], [1], (rCall X_rounds (aCons (dVar 0) (aCons (dC .none) aNil)))⟩
def pk_signed_4 : Pk := ⟨["no"], [1], (rCall X_standing (aCons (dVar 0) (aCons (dC .none) aNil)))⟩
def pk_signed_5 : Pk := ⟨["no"], [1], (rCall X_standstills (aCons (dVar 0) aNil))⟩
def pk_signed_6 : Pk := ⟨["no"], [1], (rCall X_can_stand_still (aCons (dVar 0) aNil))⟩
def pk_signed_7 : Pk := ⟨["no"], [1], (rCall X_count_by_rounds (aCons (dVar 0) aNil))⟩
def pk_signed_8 : Pk := ⟨["no"], [1], (rCall X_slowest (aCons (dVar 0) aNil))⟩
def pk_signed_9 : Pk := ⟨["no"], [1], (rCall X_latest_round (aCons (dVar 0) (aCons (d1 negP (dC (.int 1))) aNil)))⟩
def pk_signed_10 : Pk := ⟨["no"], [1], (rCall X_with_sign (aCons (dVar 0) (aCons (d1 negP (dC (.int 1))) (aCons (dC .none) aNil))))⟩
def pk_signed_11 : Pk := ⟨["no"], [1], (rCall X_fewest_changed (aCons (dVar 0) aNil))⟩
def pk_signed_12 : Pk := ⟨["no"], [1], (rCall X_first_changed (aCons (dVar 0) aNil))⟩
def pk_signed_13 : Pk := ⟨["no"], [1], (rCall X_needless (aCons (dVar 0) aNil))⟩
def pk_signed_14 : Pk := ⟨["no"], [1], (rCall X_agree (aCons (dVar 0) (aCons (dC .none) aNil)))⟩
def pk_signed_15 : Pk := ⟨["posts", "no"], [0, 1], (rCall X_agree (aCons (dVar 0) (aCons (dVar 1) aNil)))⟩
def pk_signed_16 : Pk := ⟨["no"], [1], (rCall X_parting (aCons (dVar 0) (aCons (dC .none) aNil)))⟩
def pk_signed_17 : Pk := ⟨["posts", "no"], [0, 1], (rCall X_parting (aCons (dVar 0) (aCons (dVar 1) aNil)))⟩
def pk_signed_18 : Pk := ⟨["no"], [1], (rCall X_alike (aCons (dVar 0) aNil))⟩
def pk_signed_19 : Pk := ⟨["no"], [1], (rCall X_plainest (aCons (dVar 0) aNil))⟩
def pk_signed_20 : Pk := ⟨["no"], [1], (rCall X_turned (aCons (dVar 0) aNil))⟩
def ls_signed : List Lm := [lmA (stA 81 0), lmA (stA 81 1), lmA (stA 81 2), lmA (stA 81 3), lmA (stA 81 4), lmA (stA 81 5), lmA (stA 81 6), lmA (stA 81 7), lmA (stA 81 8), lmA (stA 81 9), lmA (stA 81 10), lmA (stA 81 11), lmA (stA 81 12), lmA (stA 81 13), lmA (stA 81 14), lmA (stA 81 15), lmA (stA 81 16), lmA (stA 81 17), lmA (stA 81 18), lmA (stA 81 19), lmA (stA 81 20)]
def pks_signed : List Pk := [pk_signed_0, pk_signed_1, pk_signed_2, pk_signed_3, pk_signed_4, pk_signed_5, pk_signed_6, pk_signed_7, pk_signed_8, pk_signed_9, pk_signed_10, pk_signed_11, pk_signed_12, pk_signed_13, pk_signed_14, pk_signed_15, pk_signed_16, pk_signed_17, pk_signed_18, pk_signed_19, pk_signed_20]
def pk_driven_0 : Pk := ⟨["no"], [1], (rCall X_in_the_way (aCons (dVar 0) (aCons (d1 negP (dC (.int 1))) (aCons (d1 negP (dC (.int 1))) aNil))))⟩
def pk_driven_1 : Pk := ⟨["no"], [1], (rCall X_conflicts (aCons (dVar 0) aNil))⟩
def pk_driven_2 : Pk := ⟨["no"], [1], (rCall X_can_join (aCons (dVar 0) (aCons (d1 negP (dC (.int 1))) (aCons (dC .none) aNil))))⟩
def pk_driven_3 : Pk := ⟨["no"], [1], (rCall X_largest_free (aCons (dVar 0) aNil))⟩
def pk_driven_4 : Pk := ⟨["posts", "no"], [0, 1], (rCall X_waits_for (aCons (dVar 0) (aCons (dVar 1) (aCons (d1 negP (dC (.int 1))) aNil))))⟩
def pk_driven_5 : Pk := ⟨["posts", "no"], [0, 1], (rCall X_free (aCons (dVar 0) (aCons (dVar 1) aNil)))⟩
def pk_driven_6 : Pk := ⟨["posts", "no"], [0, 1], (rCall X_rounds (aCons (dVar 0) (aCons (dVar 1) aNil)))⟩
def pk_driven_7 : Pk := ⟨["posts", "no"], [0, 1], (rCall X_standing (aCons (dVar 0) (aCons (dVar 1) aNil)))⟩
def ls_driven : List Lm := [lmA (stA 82 0), lmA (stA 82 1), lmA (stA 82 2), lmA (stA 82 3), lmA (stA 82 4), lmA (stA 82 5), lmA (stA 82 6), lmA (stA 82 7)]
def pks_driven : List Pk := [pk_driven_0, pk_driven_1, pk_driven_2, pk_driven_3, pk_driven_4, pk_driven_5, pk_driven_6, pk_driven_7]
def pk_armed_0 : Pk := ⟨["posts", "no"], [0, 2], (rCall X_rank (aCons (dVar 0) (aCons (dVar 1) aNil)))⟩
def pk_armed_1 : Pk := ⟨["no"], [2], (rCall X_leaves_by (aCons (dVar 0) (aCons (dC .none) aNil)))⟩
def pk_armed_2 : Pk := ⟨["no"], [2], (rCall X_quarters (aCons (dVar 0) (aCons (dC .none) aNil)))⟩
def pk_armed_3 : Pk := ⟨["cars", "no"], [1, 2], (rCall X_in_the_way (aCons (dVar 0) (aCons (dVar 1) (aCons (d1 negP (dC (.int 1))) aNil))))⟩
def pk_armed_4 : Pk := ⟨["cars", "no"], [1, 2], (rCall X_in_the_way (aCons (dVar 0) (aCons (dC (.int 0)) (aCons (dVar 1) aNil))))⟩
def pk_armed_5 : Pk := ⟨["cars", "no"], [1, 2], (rCall X_can_join (aCons (dVar 0) (aCons (dVar 1) (aCons (dC .none) aNil))))⟩
def pk_armed_6 : Pk := ⟨["posts", "cars", "no"], [0, 1, 2], (rCall X_waits_for (aCons (dVar 0) (aCons (dVar 1) (aCons (dVar 2) aNil))))⟩
def pk_armed_7 : Pk := ⟨["posts", "no"], [0, 2], (rCall X_latest_round (aCons (dVar 0) (aCons (dVar 1) aNil)))⟩
def pk_armed_8 : Pk := ⟨["posts", "no"], [0, 2], (rCall X_with_sign (aCons (dVar 0) (aCons (dVar 1) (aCons (dC .none) aNil))))⟩
def ls_armed : List Lm := [lmA (stA 83 0), lmA (stA 83 1), lmA (stA 83 2), lmA (stA 83 3), lmA (stA 83 4), lmA (stA 83 5), lmA (stA 83 6), lmA (stA 83 7), lmA (stA 83 8)]
def pks_armed : List Pk := [pk_armed_0, pk_armed_1, pk_armed_2, pk_armed_3, pk_armed_4, pk_armed_5, pk_armed_6, pk_armed_7, pk_armed_8]
section
variable {P : Program} {w : World} {K : PySem.W.Frag} {mg : Str → Option Value} {base : Heap}
theorem pk_signed_0_ok (T : Tx w K mg) : PkOk P w K mg base 7 2 ["posts", "no", "calls"] (defScope (topS 81)) (lmA (stA 81 0)) pk_signed_0 := by
  obtain ⟨a_f, fd_f, h_f⟩ := T.h_rank
  refine ⟨nscope_by (by kernel_rfl), fun nm q cl pm cv ctv => rfl, ndef_free (fr := pk_signed_0.fr) (by kernel_rfl), ndef_fr (sc := (defScope (topS 81))) (by kernel_rfl), rfl, by decide, fun nm q ar bd cl c A outer s H E f hr => ?_⟩
  exact der_call (L2.takes_of rfl rfl rfl rfl) (okR_rank T h_f) (hr.mono (by decide)) (by rfl) h_f.g h_f.F.kp h_f.b rfl (da_cons (de_var (pv 0)) (da_cons (de_un un_neg ud_neg de_int) da_nil)) (aCons_len (aCons_len aNil_len))
theorem pk_signed_1_ok (T : Tx w K mg) : PkOk P w K mg base 7 2 ["posts", "no", "calls"] (defScope (topS 81)) (lmA (stA 81 1)) pk_signed_1 := by
  obtain ⟨a_f, fd_f, h_f⟩ := T.h_waits_for
  refine ⟨nscope_by (by kernel_rfl), fun nm q cl pm cv ctv => rfl, ndef_free (fr := pk_signed_1.fr) (by kernel_rfl), ndef_fr (sc := (defScope (topS 81))) (by kernel_rfl), rfl, by decide, fun nm q ar bd cl c A outer s H E f hr => ?_⟩
  exact der_call (L2.takes_of rfl rfl rfl rfl) (okR_waits_for T h_f) (hr.mono (by decide)) (by rfl) h_f.g h_f.F.kp h_f.b rfl (da_cons (de_var (pv 0)) (da_cons de_non (da_cons (de_un un_neg ud_neg de_int) da_nil))) (aCons_len (aCons_len (aCons_len aNil_len)))
theorem pk_signed_2_ok (T : Tx w K mg) : PkOk P w K mg base 7 2 ["posts", "no", "calls"] (defScope (topS 81)) (lmA (stA 81 2)) pk_signed_2 := by
  obtain ⟨a_f, fd_f, h_f⟩ := T.h_free
  refine ⟨nscope_by (by kernel_rfl), fun nm q cl pm cv ctv => rfl, ndef_free (fr := pk_signed_2.fr) (by kernel_rfl), ndef_fr (sc := (defScope (topS 81))) (by kernel_rfl), rfl, by decide, fun nm q ar bd cl c A outer s H E f hr => ?_⟩
  exact der_call (L2.takes_of rfl rfl rfl rfl) (okR_free T h_f) (hr.mono (by decide)) (by rfl) h_f.g h_f.F.kp h_f.b rfl (da_cons (de_var (pv 0)) (da_cons de_non da_nil)) (aCons_len (aCons_len aNil_len))
theorem pk_signed_3_ok (T : Tx w K mg) : PkOk P w K mg base 7 2 ["posts", "no", "calls"] (defScope (topS 81)) (lmA (stA 81 3)) pk_signed_3 := by
  obtain ⟨a_f, fd_f, h_f⟩ := T.h_rounds
  refine ⟨nscope_by (by kernel_rfl), fun nm q cl pm cv ctv => rfl, ndef_free (fr := pk_signed_3.fr) (by kernel_rfl), ndef_fr (sc := (defScope (topS 81))) (by kernel_rfl), rfl, by decide, fun nm q ar bd cl c A outer s H E f hr => ?_⟩
  exact der_call (L2.takes_of rfl rfl rfl rfl) (okR_rounds T h_f) (hr.mono (by decide)) (by rfl) h_f.g h_f.F.kp h_f.b rfl (da_cons (de_var (pv 0)) (da_cons de_non da_nil)) (aCons_len (aCons_len aNil_len))
theorem pk_signed_4_ok (T : Tx w K mg) : PkOk P w K mg base 7 2 ["posts", "no", "calls"] (defScope (topS 81)) (lmA (stA 81 4)) pk_signed_4 := by
  obtain ⟨a_f, fd_f, h_f⟩ := T.h_standing
  refine ⟨nscope_by (by kernel_rfl), fun nm q cl pm cv ctv => rfl, ndef_free (fr := pk_signed_4.fr) (by kernel_rfl), ndef_fr (sc := (defScope (topS 81))) (by kernel_rfl), rfl, by decide, fun nm q ar bd cl c A outer s H E f hr => ?_⟩
  exact der_call (L2.takes_of rfl rfl rfl rfl) (okR_standing T h_f) (hr.mono (by decide)) (by rfl) h_f.g h_f.F.kp h_f.b rfl (da_cons (de_var (pv 0)) (da_cons de_non da_nil)) (aCons_len (aCons_len aNil_len))
theorem pk_signed_5_ok (T : Tx w K mg) : PkOk P w K mg base 7 2 ["posts", "no", "calls"] (defScope (topS 81)) (lmA (stA 81 5)) pk_signed_5 := by
  obtain ⟨a_f, fd_f, h_f⟩ := T.h_standstills
  refine ⟨nscope_by (by kernel_rfl), fun nm q cl pm cv ctv => rfl, ndef_free (fr := pk_signed_5.fr) (by kernel_rfl), ndef_fr (sc := (defScope (topS 81))) (by kernel_rfl), rfl, by decide, fun nm q ar bd cl c A outer s H E f hr => ?_⟩
  exact der_call (L2.takes_of rfl rfl rfl rfl) (okR_standstills T h_f) (hr.mono (by decide)) (by rfl) h_f.g h_f.F.kp h_f.b rfl (da_cons (de_var (pv 0)) da_nil) (aCons_len aNil_len)
theorem pk_signed_6_ok (T : Tx w K mg) : PkOk P w K mg base 7 2 ["posts", "no", "calls"] (defScope (topS 81)) (lmA (stA 81 6)) pk_signed_6 := by
  obtain ⟨a_f, fd_f, h_f⟩ := T.h_can_stand_still
  refine ⟨nscope_by (by kernel_rfl), fun nm q cl pm cv ctv => rfl, ndef_free (fr := pk_signed_6.fr) (by kernel_rfl), ndef_fr (sc := (defScope (topS 81))) (by kernel_rfl), rfl, by decide, fun nm q ar bd cl c A outer s H E f hr => ?_⟩
  exact der_call (L2.takes_of rfl rfl rfl rfl) (okR_can_stand_still T h_f) (hr.mono (by decide)) (by rfl) h_f.g h_f.F.kp h_f.b rfl (da_cons (de_var (pv 0)) da_nil) (aCons_len aNil_len)
theorem pk_signed_7_ok (T : Tx w K mg) : PkOk P w K mg base 7 2 ["posts", "no", "calls"] (defScope (topS 81)) (lmA (stA 81 7)) pk_signed_7 := by
  obtain ⟨a_f, fd_f, h_f⟩ := T.h_count_by_rounds
  refine ⟨nscope_by (by kernel_rfl), fun nm q cl pm cv ctv => rfl, ndef_free (fr := pk_signed_7.fr) (by kernel_rfl), ndef_fr (sc := (defScope (topS 81))) (by kernel_rfl), rfl, by decide, fun nm q ar bd cl c A outer s H E f hr => ?_⟩
  exact der_call (L2.takes_of rfl rfl rfl rfl) (okR_count_by_rounds T h_f) (hr.mono (by decide)) (by rfl) h_f.g h_f.F.kp h_f.b rfl (da_cons (de_var (pv 0)) da_nil) (aCons_len aNil_len)
theorem pk_signed_8_ok (T : Tx w K mg) : PkOk P w K mg base 7 2 ["posts", "no", "calls"] (defScope (topS 81)) (lmA (stA 81 8)) pk_signed_8 := by
  obtain ⟨a_f, fd_f, h_f⟩ := T.h_slowest
  refine ⟨nscope_by (by kernel_rfl), fun nm q cl pm cv ctv => rfl, ndef_free (fr := pk_signed_8.fr) (by kernel_rfl), ndef_fr (sc := (defScope (topS 81))) (by kernel_rfl), rfl, by decide, fun nm q ar bd cl c A outer s H E f hr => ?_⟩
  exact der_call (L2.takes_of rfl rfl rfl rfl) (okR_slowest T h_f) (hr.mono (by decide)) (by rfl) h_f.g h_f.F.kp h_f.b rfl (da_cons (de_var (pv 0)) da_nil) (aCons_len aNil_len)
theorem pk_signed_9_ok (T : Tx w K mg) : PkOk P w K mg base 7 2 ["posts", "no", "calls"] (defScope (topS 81)) (lmA (stA 81 9)) pk_signed_9 := by
  obtain ⟨a_f, fd_f, h_f⟩ := T.h_latest_round
  refine ⟨nscope_by (by kernel_rfl), fun nm q cl pm cv ctv => rfl, ndef_free (fr := pk_signed_9.fr) (by kernel_rfl), ndef_fr (sc := (defScope (topS 81))) (by kernel_rfl), rfl, by decide, fun nm q ar bd cl c A outer s H E f hr => ?_⟩
  exact der_call (L2.takes_of rfl rfl rfl rfl) (okR_latest_round T h_f) (hr.mono (by decide)) (by rfl) h_f.g h_f.F.kp h_f.b rfl (da_cons (de_var (pv 0)) (da_cons (de_un un_neg ud_neg de_int) da_nil)) (aCons_len (aCons_len aNil_len))
theorem pk_signed_10_ok (T : Tx w K mg) : PkOk P w K mg base 7 2 ["posts", "no", "calls"] (defScope (topS 81)) (lmA (stA 81 10)) pk_signed_10 := by
  obtain ⟨a_f, fd_f, h_f⟩ := T.h_with_sign
  refine ⟨nscope_by (by kernel_rfl), fun nm q cl pm cv ctv => rfl, ndef_free (fr := pk_signed_10.fr) (by kernel_rfl), ndef_fr (sc := (defScope (topS 81))) (by kernel_rfl), rfl, by decide, fun nm q ar bd cl c A outer s H E f hr => ?_⟩
  exact der_call (L2.takes_of rfl rfl rfl rfl) (okR_with_sign T h_f) (hr.mono (by decide)) (by rfl) h_f.g h_f.F.kp h_f.b rfl (da_cons (de_var (pv 0)) (da_cons (de_un un_neg ud_neg de_int) (da_cons de_non da_nil))) (aCons_len (aCons_len (aCons_len aNil_len)))
theorem pk_signed_11_ok (T : Tx w K mg) : PkOk P w K mg base 7 2 ["posts", "no", "calls"] (defScope (topS 81)) (lmA (stA 81 11)) pk_signed_11 := by
  obtain ⟨a_f, fd_f, h_f⟩ := T.h_fewest_changed
  refine ⟨nscope_by (by kernel_rfl), fun nm q cl pm cv ctv => rfl, ndef_free (fr := pk_signed_11.fr) (by kernel_rfl), ndef_fr (sc := (defScope (topS 81))) (by kernel_rfl), rfl, by decide, fun nm q ar bd cl c A outer s H E f hr => ?_⟩
  exact der_call (L2.takes_of rfl rfl rfl rfl) (okR_fewest_changed T h_f) (hr.mono (by decide)) (by rfl) h_f.g h_f.F.kp h_f.b rfl (da_cons (de_var (pv 0)) da_nil) (aCons_len aNil_len)
theorem pk_signed_12_ok (T : Tx w K mg) : PkOk P w K mg base 7 2 ["posts", "no", "calls"] (defScope (topS 81)) (lmA (stA 81 12)) pk_signed_12 := by
  obtain ⟨a_f, fd_f, h_f⟩ := T.h_first_changed
  refine ⟨nscope_by (by kernel_rfl), fun nm q cl pm cv ctv => rfl, ndef_free (fr := pk_signed_12.fr) (by kernel_rfl), ndef_fr (sc := (defScope (topS 81))) (by kernel_rfl), rfl, by decide, fun nm q ar bd cl c A outer s H E f hr => ?_⟩
  exact der_call (L2.takes_of rfl rfl rfl rfl) (okR_first_changed T h_f) (hr.mono (by decide)) (by rfl) h_f.g h_f.F.kp h_f.b rfl (da_cons (de_var (pv 0)) da_nil) (aCons_len aNil_len)
theorem pk_signed_13_ok (T : Tx w K mg) : PkOk P w K mg base 7 2 ["posts", "no", "calls"] (defScope (topS 81)) (lmA (stA 81 13)) pk_signed_13 := by
  obtain ⟨a_f, fd_f, h_f⟩ := T.h_needless
  refine ⟨nscope_by (by kernel_rfl), fun nm q cl pm cv ctv => rfl, ndef_free (fr := pk_signed_13.fr) (by kernel_rfl), ndef_fr (sc := (defScope (topS 81))) (by kernel_rfl), rfl, by decide, fun nm q ar bd cl c A outer s H E f hr => ?_⟩
  exact der_call (L2.takes_of rfl rfl rfl rfl) (okR_needless T h_f) (hr.mono (by decide)) (by rfl) h_f.g h_f.F.kp h_f.b rfl (da_cons (de_var (pv 0)) da_nil) (aCons_len aNil_len)
theorem pk_signed_14_ok (T : Tx w K mg) : PkOk P w K mg base 7 2 ["posts", "no", "calls"] (defScope (topS 81)) (lmA (stA 81 14)) pk_signed_14 := by
  obtain ⟨a_f, fd_f, h_f⟩ := T.h_agree
  refine ⟨nscope_by (by kernel_rfl), fun nm q cl pm cv ctv => rfl, ndef_free (fr := pk_signed_14.fr) (by kernel_rfl), ndef_fr (sc := (defScope (topS 81))) (by kernel_rfl), rfl, by decide, fun nm q ar bd cl c A outer s H E f hr => ?_⟩
  exact der_call (L2.takes_of rfl rfl rfl rfl) (okR_agree T h_f) (hr.mono (by decide)) (by rfl) h_f.g h_f.F.kp h_f.b rfl (da_cons (de_var (pv 0)) (da_cons de_non da_nil)) (aCons_len (aCons_len aNil_len))
theorem pk_signed_15_ok (T : Tx w K mg) : PkOk P w K mg base 7 2 ["posts", "no", "calls"] (defScope (topS 81)) (lmA (stA 81 15)) pk_signed_15 := by
  obtain ⟨a_f, fd_f, h_f⟩ := T.h_agree
  refine ⟨nscope_by (by kernel_rfl), fun nm q cl pm cv ctv => rfl, ndef_free (fr := pk_signed_15.fr) (by kernel_rfl), ndef_fr (sc := (defScope (topS 81))) (by kernel_rfl), rfl, by decide, fun nm q ar bd cl c A outer s H E f hr => ?_⟩
  exact der_call (L2.takes_of rfl rfl rfl rfl) (okR_agree T h_f) (hr.mono (by decide)) (by rfl) h_f.g h_f.F.kp h_f.b rfl (da_cons (de_var (pv 0)) (da_cons (de_var (pv 1)) da_nil)) (aCons_len (aCons_len aNil_len))
theorem pk_signed_16_ok (T : Tx w K mg) : PkOk P w K mg base 7 2 ["posts", "no", "calls"] (defScope (topS 81)) (lmA (stA 81 16)) pk_signed_16 := by
  obtain ⟨a_f, fd_f, h_f⟩ := T.h_parting
  refine ⟨nscope_by (by kernel_rfl), fun nm q cl pm cv ctv => rfl, ndef_free (fr := pk_signed_16.fr) (by kernel_rfl), ndef_fr (sc := (defScope (topS 81))) (by kernel_rfl), rfl, by decide, fun nm q ar bd cl c A outer s H E f hr => ?_⟩
  exact der_call (L2.takes_of rfl rfl rfl rfl) (okR_parting T h_f) (hr.mono (by decide)) (by rfl) h_f.g h_f.F.kp h_f.b rfl (da_cons (de_var (pv 0)) (da_cons de_non da_nil)) (aCons_len (aCons_len aNil_len))
theorem pk_signed_17_ok (T : Tx w K mg) : PkOk P w K mg base 7 2 ["posts", "no", "calls"] (defScope (topS 81)) (lmA (stA 81 17)) pk_signed_17 := by
  obtain ⟨a_f, fd_f, h_f⟩ := T.h_parting
  refine ⟨nscope_by (by kernel_rfl), fun nm q cl pm cv ctv => rfl, ndef_free (fr := pk_signed_17.fr) (by kernel_rfl), ndef_fr (sc := (defScope (topS 81))) (by kernel_rfl), rfl, by decide, fun nm q ar bd cl c A outer s H E f hr => ?_⟩
  exact der_call (L2.takes_of rfl rfl rfl rfl) (okR_parting T h_f) (hr.mono (by decide)) (by rfl) h_f.g h_f.F.kp h_f.b rfl (da_cons (de_var (pv 0)) (da_cons (de_var (pv 1)) da_nil)) (aCons_len (aCons_len aNil_len))
theorem pk_signed_18_ok (T : Tx w K mg) : PkOk P w K mg base 7 2 ["posts", "no", "calls"] (defScope (topS 81)) (lmA (stA 81 18)) pk_signed_18 := by
  obtain ⟨a_f, fd_f, h_f⟩ := T.h_alike
  refine ⟨nscope_by (by kernel_rfl), fun nm q cl pm cv ctv => rfl, ndef_free (fr := pk_signed_18.fr) (by kernel_rfl), ndef_fr (sc := (defScope (topS 81))) (by kernel_rfl), rfl, by decide, fun nm q ar bd cl c A outer s H E f hr => ?_⟩
  exact der_call (L2.takes_of rfl rfl rfl rfl) (okR_alike T h_f) (hr.mono (by decide)) (by rfl) h_f.g h_f.F.kp h_f.b rfl (da_cons (de_var (pv 0)) da_nil) (aCons_len aNil_len)
theorem pk_signed_19_ok (T : Tx w K mg) : PkOk P w K mg base 7 2 ["posts", "no", "calls"] (defScope (topS 81)) (lmA (stA 81 19)) pk_signed_19 := by
  obtain ⟨a_f, fd_f, h_f⟩ := T.h_plainest
  refine ⟨nscope_by (by kernel_rfl), fun nm q cl pm cv ctv => rfl, ndef_free (fr := pk_signed_19.fr) (by kernel_rfl), ndef_fr (sc := (defScope (topS 81))) (by kernel_rfl), rfl, by decide, fun nm q ar bd cl c A outer s H E f hr => ?_⟩
  exact der_call (L2.takes_of rfl rfl rfl rfl) (okR_plainest T h_f) (hr.mono (by decide)) (by rfl) h_f.g h_f.F.kp h_f.b rfl (da_cons (de_var (pv 0)) da_nil) (aCons_len aNil_len)
theorem pk_signed_20_ok (T : Tx w K mg) : PkOk P w K mg base 7 2 ["posts", "no", "calls"] (defScope (topS 81)) (lmA (stA 81 20)) pk_signed_20 := by
  obtain ⟨a_f, fd_f, h_f⟩ := T.h_turned
  refine ⟨nscope_by (by kernel_rfl), fun nm q cl pm cv ctv => rfl, ndef_free (fr := pk_signed_20.fr) (by kernel_rfl), ndef_fr (sc := (defScope (topS 81))) (by kernel_rfl), rfl, by decide, fun nm q ar bd cl c A outer s H E f hr => ?_⟩
  exact der_call (L2.takes_of rfl rfl rfl rfl) (okR_turned T h_f) (hr.mono (by decide)) (by rfl) h_f.g h_f.F.kp h_f.b rfl (da_cons (de_var (pv 0)) da_nil) (aCons_len aNil_len)
theorem pks_signed_ok (T : Tx w K mg) : Pks P w K mg base 7 2 ["posts", "no", "calls"] (defScope (topS 81)) ls_signed pks_signed := (.cons (pk_signed_0_ok T) (.cons (pk_signed_1_ok T) (.cons (pk_signed_2_ok T) (.cons (pk_signed_3_ok T) (.cons (pk_signed_4_ok T) (.cons (pk_signed_5_ok T) (.cons (pk_signed_6_ok T) (.cons (pk_signed_7_ok T) (.cons (pk_signed_8_ok T) (.cons (pk_signed_9_ok T) (.cons (pk_signed_10_ok T) (.cons (pk_signed_11_ok T) (.cons (pk_signed_12_ok T) (.cons (pk_signed_13_ok T) (.cons (pk_signed_14_ok T) (.cons (pk_signed_15_ok T) (.cons (pk_signed_16_ok T) (.cons (pk_signed_17_ok T) (.cons (pk_signed_18_ok T) (.cons (pk_signed_19_ok T) (.cons (pk_signed_20_ok T) .nil)))))))))))))))))))))
theorem ok__law_signed (T : Tx w K mg) {TT : List NTab} {a c Pt : Addr} {fd : FuncData} (h : FnAt K mg "_law_signed" (topS 81) ["posts", "no"] a fd) (hcode : fd.code = .ref c) (TB : LamX.TabB base mg c Pt) (hm : (Pt, nm26) ∈ TT) (hu : ∀ p ∈ TT, p.2 = nm26) : FnOk P w K mg base CX0 1 a fd ["posts", "no"] (spMk P w K mg base 7 2 TT pks_signed) := by
  have nd := (sc__law_signed).nd
  have hu2 : ∀ p ∈ TT, p.1 = Pt → p.2 = nm26 := fun p hp _ => hu p hp
  refine fnMk (k0 := 0) (i := 2) (ls := ls_signed) h.F hcode sc__law_signed rfl (by decide) (fun A outer s H E hr => ?_) (pks_signed_ok T) (by decide)
  exact (mkr_new (mk_new (i := 2) nd rfl (by first | exact .inl rfl | exact .inr rfl) (pe_lm TB rfl hm rfl hu2 rfl (ndef_free (fr := pk_signed_0.fr) (by kernel_rfl))))
    (mkr_app (mk_app (p2 := ⟨0, 0, 0, 0⟩) (pv 2) (pe_lm TB rfl hm rfl hu2 rfl (ndef_free (fr := pk_signed_1.fr) (by kernel_rfl))))
    (mkr_app (mk_app (p2 := ⟨0, 0, 0, 0⟩) (pv 2) (pe_lm TB rfl hm rfl hu2 rfl (ndef_free (fr := pk_signed_2.fr) (by kernel_rfl))))
    (mkr_app (mk_app (p2 := ⟨0, 0, 0, 0⟩) (pv 2) (pe_lm TB rfl hm rfl hu2 rfl (ndef_free (fr := pk_signed_3.fr) (by kernel_rfl))))
    (mkr_app (mk_app (p2 := ⟨0, 0, 0, 0⟩) (pv 2) (pe_lm TB rfl hm rfl hu2 rfl (ndef_free (fr := pk_signed_4.fr) (by kernel_rfl))))
    (mkr_app (mk_app (p2 := ⟨0, 0, 0, 0⟩) (pv 2) (pe_lm TB rfl hm rfl hu2 rfl (ndef_free (fr := pk_signed_5.fr) (by kernel_rfl))))
    (mkr_app (mk_app (p2 := ⟨0, 0, 0, 0⟩) (pv 2) (pe_lm TB rfl hm rfl hu2 rfl (ndef_free (fr := pk_signed_6.fr) (by kernel_rfl))))
    (mkr_app (mk_app (p2 := ⟨0, 0, 0, 0⟩) (pv 2) (pe_lm TB rfl hm rfl hu2 rfl (ndef_free (fr := pk_signed_7.fr) (by kernel_rfl))))
    (mkr_app (mk_app (p2 := ⟨0, 0, 0, 0⟩) (pv 2) (pe_lm TB rfl hm rfl hu2 rfl (ndef_free (fr := pk_signed_8.fr) (by kernel_rfl))))
    (mkr_app (mk_app (p2 := ⟨0, 0, 0, 0⟩) (pv 2) (pe_lm TB rfl hm rfl hu2 rfl (ndef_free (fr := pk_signed_9.fr) (by kernel_rfl))))
    (mkr_app (mk_app (p2 := ⟨0, 0, 0, 0⟩) (pv 2) (pe_lm TB rfl hm rfl hu2 rfl (ndef_free (fr := pk_signed_10.fr) (by kernel_rfl))))
    (mkr_app (mk_app (p2 := ⟨0, 0, 0, 0⟩) (pv 2) (pe_lm TB rfl hm rfl hu2 rfl (ndef_free (fr := pk_signed_11.fr) (by kernel_rfl))))
    (mkr_app (mk_app (p2 := ⟨0, 0, 0, 0⟩) (pv 2) (pe_lm TB rfl hm rfl hu2 rfl (ndef_free (fr := pk_signed_12.fr) (by kernel_rfl))))
    (mkr_app (mk_app (p2 := ⟨0, 0, 0, 0⟩) (pv 2) (pe_lm TB rfl hm rfl hu2 rfl (ndef_free (fr := pk_signed_13.fr) (by kernel_rfl))))
    (mkr_app (mk_app (p2 := ⟨0, 0, 0, 0⟩) (pv 2) (pe_lm TB rfl hm rfl hu2 rfl (ndef_free (fr := pk_signed_14.fr) (by kernel_rfl))))
    (mkr_app (mk_app (p2 := ⟨0, 0, 0, 0⟩) (pv 2) (pe_lm TB rfl hm rfl hu2 rfl (ndef_free (fr := pk_signed_15.fr) (by kernel_rfl))))
    (mkr_app (mk_app (p2 := ⟨0, 0, 0, 0⟩) (pv 2) (pe_lm TB rfl hm rfl hu2 rfl (ndef_free (fr := pk_signed_16.fr) (by kernel_rfl))))
    (mkr_app (mk_app (p2 := ⟨0, 0, 0, 0⟩) (pv 2) (pe_lm TB rfl hm rfl hu2 rfl (ndef_free (fr := pk_signed_17.fr) (by kernel_rfl))))
    (mkr_app (mk_app (p2 := ⟨0, 0, 0, 0⟩) (pv 2) (pe_lm TB rfl hm rfl hu2 rfl (ndef_free (fr := pk_signed_18.fr) (by kernel_rfl))))
    (mkr_app (mk_app (p2 := ⟨0, 0, 0, 0⟩) (pv 2) (pe_lm TB rfl hm rfl hu2 rfl (ndef_free (fr := pk_signed_19.fr) (by kernel_rfl))))
    (mkr_app (mk_app (p2 := ⟨0, 0, 0, 0⟩) (pv 2) (pe_lm TB rfl hm rfl hu2 rfl (ndef_free (fr := pk_signed_20.fr) (by kernel_rfl))))
    (mkr_end (pv 2)))))))))))))))))))))))
theorem pk_driven_0_ok (T : Tx w K mg) : PkOk P w K mg base 7 2 ["posts", "no", "calls"] (defScope (topS 82)) (lmA (stA 82 0)) pk_driven_0 := by
  obtain ⟨a_f, fd_f, h_f⟩ := T.h_in_the_way
  refine ⟨nscope_by (by kernel_rfl), fun nm q cl pm cv ctv => rfl, ndef_free (fr := pk_driven_0.fr) (by kernel_rfl), ndef_fr (sc := (defScope (topS 82))) (by kernel_rfl), rfl, by decide, fun nm q ar bd cl c A outer s H E f hr => ?_⟩
  exact der_call (L2.takes_of rfl rfl rfl rfl) (okR_in_the_way T h_f) (hr.mono (by decide)) (by rfl) h_f.g h_f.F.kp h_f.b rfl (da_cons (de_var (pv 0)) (da_cons (de_un un_neg ud_neg de_int) (da_cons (de_un un_neg ud_neg de_int) da_nil))) (aCons_len (aCons_len (aCons_len aNil_len)))
theorem pk_driven_1_ok (T : Tx w K mg) : PkOk P w K mg base 7 2 ["posts", "no", "calls"] (defScope (topS 82)) (lmA (stA 82 1)) pk_driven_1 := by
  obtain ⟨a_f, fd_f, h_f⟩ := T.h_conflicts
  refine ⟨nscope_by (by kernel_rfl), fun nm q cl pm cv ctv => rfl, ndef_free (fr := pk_driven_1.fr) (by kernel_rfl), ndef_fr (sc := (defScope (topS 82))) (by kernel_rfl), rfl, by decide, fun nm q ar bd cl c A outer s H E f hr => ?_⟩
  exact der_call (L2.takes_of rfl rfl rfl rfl) (okR_conflicts T h_f) (hr.mono (by decide)) (by rfl) h_f.g h_f.F.kp h_f.b rfl (da_cons (de_var (pv 0)) da_nil) (aCons_len aNil_len)
theorem pk_driven_2_ok (T : Tx w K mg) : PkOk P w K mg base 7 2 ["posts", "no", "calls"] (defScope (topS 82)) (lmA (stA 82 2)) pk_driven_2 := by
  obtain ⟨a_f, fd_f, h_f⟩ := T.h_can_join
  refine ⟨nscope_by (by kernel_rfl), fun nm q cl pm cv ctv => rfl, ndef_free (fr := pk_driven_2.fr) (by kernel_rfl), ndef_fr (sc := (defScope (topS 82))) (by kernel_rfl), rfl, by decide, fun nm q ar bd cl c A outer s H E f hr => ?_⟩
  exact der_call (L2.takes_of rfl rfl rfl rfl) (okR_can_join T h_f) (hr.mono (by decide)) (by rfl) h_f.g h_f.F.kp h_f.b rfl (da_cons (de_var (pv 0)) (da_cons (de_un un_neg ud_neg de_int) (da_cons de_non da_nil))) (aCons_len (aCons_len (aCons_len aNil_len)))
theorem pk_driven_3_ok (T : Tx w K mg) : PkOk P w K mg base 7 2 ["posts", "no", "calls"] (defScope (topS 82)) (lmA (stA 82 3)) pk_driven_3 := by
  obtain ⟨a_f, fd_f, h_f⟩ := T.h_largest_free
  refine ⟨nscope_by (by kernel_rfl), fun nm q cl pm cv ctv => rfl, ndef_free (fr := pk_driven_3.fr) (by kernel_rfl), ndef_fr (sc := (defScope (topS 82))) (by kernel_rfl), rfl, by decide, fun nm q ar bd cl c A outer s H E f hr => ?_⟩
  exact der_call (L2.takes_of rfl rfl rfl rfl) (okR_largest_free T h_f) (hr.mono (by decide)) (by rfl) h_f.g h_f.F.kp h_f.b rfl (da_cons (de_var (pv 0)) da_nil) (aCons_len aNil_len)
theorem pk_driven_4_ok (T : Tx w K mg) : PkOk P w K mg base 7 2 ["posts", "no", "calls"] (defScope (topS 82)) (lmA (stA 82 4)) pk_driven_4 := by
  obtain ⟨a_f, fd_f, h_f⟩ := T.h_waits_for
  refine ⟨nscope_by (by kernel_rfl), fun nm q cl pm cv ctv => rfl, ndef_free (fr := pk_driven_4.fr) (by kernel_rfl), ndef_fr (sc := (defScope (topS 82))) (by kernel_rfl), rfl, by decide, fun nm q ar bd cl c A outer s H E f hr => ?_⟩
  exact der_call (L2.takes_of rfl rfl rfl rfl) (okR_waits_for T h_f) (hr.mono (by decide)) (by rfl) h_f.g h_f.F.kp h_f.b rfl (da_cons (de_var (pv 0)) (da_cons (de_var (pv 1)) (da_cons (de_un un_neg ud_neg de_int) da_nil))) (aCons_len (aCons_len (aCons_len aNil_len)))
theorem pk_driven_5_ok (T : Tx w K mg) : PkOk P w K mg base 7 2 ["posts", "no", "calls"] (defScope (topS 82)) (lmA (stA 82 5)) pk_driven_5 := by
  obtain ⟨a_f, fd_f, h_f⟩ := T.h_free
  refine ⟨nscope_by (by kernel_rfl), fun nm q cl pm cv ctv => rfl, ndef_free (fr := pk_driven_5.fr) (by kernel_rfl), ndef_fr (sc := (defScope (topS 82))) (by kernel_rfl), rfl, by decide, fun nm q ar bd cl c A outer s H E f hr => ?_⟩
  exact der_call (L2.takes_of rfl rfl rfl rfl) (okR_free T h_f) (hr.mono (by decide)) (by rfl) h_f.g h_f.F.kp h_f.b rfl (da_cons (de_var (pv 0)) (da_cons (de_var (pv 1)) da_nil)) (aCons_len (aCons_len aNil_len))
theorem pk_driven_6_ok (T : Tx w K mg) : PkOk P w K mg base 7 2 ["posts", "no", "calls"] (defScope (topS 82)) (lmA (stA 82 6)) pk_driven_6 := by
  obtain ⟨a_f, fd_f, h_f⟩ := T.h_rounds
  refine ⟨nscope_by (by kernel_rfl), fun nm q cl pm cv ctv => rfl, ndef_free (fr := pk_driven_6.fr) (by kernel_rfl), ndef_fr (sc := (defScope (topS 82))) (by kernel_rfl), rfl, by decide, fun nm q ar bd cl c A outer s H E f hr => ?_⟩
  exact der_call (L2.takes_of rfl rfl rfl rfl) (okR_rounds T h_f) (hr.mono (by decide)) (by rfl) h_f.g h_f.F.kp h_f.b rfl (da_cons (de_var (pv 0)) (da_cons (de_var (pv 1)) da_nil)) (aCons_len (aCons_len aNil_len))
theorem pk_driven_7_ok (T : Tx w K mg) : PkOk P w K mg base 7 2 ["posts", "no", "calls"] (defScope (topS 82)) (lmA (stA 82 7)) pk_driven_7 := by
  obtain ⟨a_f, fd_f, h_f⟩ := T.h_standing
  refine ⟨nscope_by (by kernel_rfl), fun nm q cl pm cv ctv => rfl, ndef_free (fr := pk_driven_7.fr) (by kernel_rfl), ndef_fr (sc := (defScope (topS 82))) (by kernel_rfl), rfl, by decide, fun nm q ar bd cl c A outer s H E f hr => ?_⟩
  exact der_call (L2.takes_of rfl rfl rfl rfl) (okR_standing T h_f) (hr.mono (by decide)) (by rfl) h_f.g h_f.F.kp h_f.b rfl (da_cons (de_var (pv 0)) (da_cons (de_var (pv 1)) da_nil)) (aCons_len (aCons_len aNil_len))
theorem pks_driven_ok (T : Tx w K mg) : Pks P w K mg base 7 2 ["posts", "no", "calls"] (defScope (topS 82)) ls_driven pks_driven := (.cons (pk_driven_0_ok T) (.cons (pk_driven_1_ok T) (.cons (pk_driven_2_ok T) (.cons (pk_driven_3_ok T) (.cons (pk_driven_4_ok T) (.cons (pk_driven_5_ok T) (.cons (pk_driven_6_ok T) (.cons (pk_driven_7_ok T) .nil))))))))
theorem ok__law_driven (T : Tx w K mg) {TT : List NTab} {a c Pt : Addr} {fd : FuncData} (h : FnAt K mg "_law_driven" (topS 82) ["posts", "no"] a fd) (hcode : fd.code = .ref c) (TB : LamX.TabB base mg c Pt) (hm : (Pt, nm26) ∈ TT) (hu : ∀ p ∈ TT, p.2 = nm26) : FnOk P w K mg base CX0 1 a fd ["posts", "no"] (spMk P w K mg base 7 2 TT pks_driven) := by
  have nd := (sc__law_driven).nd
  have hu2 : ∀ p ∈ TT, p.1 = Pt → p.2 = nm26 := fun p hp _ => hu p hp
  refine fnMk (k0 := 0) (i := 2) (ls := ls_driven) h.F hcode sc__law_driven rfl (by decide) (fun A outer s H E hr => ?_) (pks_driven_ok T) (by decide)
  exact (mkr_new (mk_new (i := 2) nd rfl (by first | exact .inl rfl | exact .inr rfl) (pe_lm TB rfl hm rfl hu2 rfl (ndef_free (fr := pk_driven_0.fr) (by kernel_rfl))))
    (mkr_app (mk_app (p2 := ⟨0, 0, 0, 0⟩) (pv 2) (pe_lm TB rfl hm rfl hu2 rfl (ndef_free (fr := pk_driven_1.fr) (by kernel_rfl))))
    (mkr_app (mk_app (p2 := ⟨0, 0, 0, 0⟩) (pv 2) (pe_lm TB rfl hm rfl hu2 rfl (ndef_free (fr := pk_driven_2.fr) (by kernel_rfl))))
    (mkr_app (mk_app (p2 := ⟨0, 0, 0, 0⟩) (pv 2) (pe_lm TB rfl hm rfl hu2 rfl (ndef_free (fr := pk_driven_3.fr) (by kernel_rfl))))
    (mkr_app (mk_app (p2 := ⟨0, 0, 0, 0⟩) (pv 2) (pe_lm TB rfl hm rfl hu2 rfl (ndef_free (fr := pk_driven_4.fr) (by kernel_rfl))))
    (mkr_app (mk_app (p2 := ⟨0, 0, 0, 0⟩) (pv 2) (pe_lm TB rfl hm rfl hu2 rfl (ndef_free (fr := pk_driven_5.fr) (by kernel_rfl))))
    (mkr_app (mk_app (p2 := ⟨0, 0, 0, 0⟩) (pv 2) (pe_lm TB rfl hm rfl hu2 rfl (ndef_free (fr := pk_driven_6.fr) (by kernel_rfl))))
    (mkr_app (mk_app (p2 := ⟨0, 0, 0, 0⟩) (pv 2) (pe_lm TB rfl hm rfl hu2 rfl (ndef_free (fr := pk_driven_7.fr) (by kernel_rfl))))
    (mkr_end (pv 2))))))))))
theorem pk_armed_0_ok (T : Tx w K mg) : PkOk P w K mg base 7 3 ["posts", "cars", "no", "calls"] (defScope (topS 83)) (lmA (stA 83 0)) pk_armed_0 := by
  obtain ⟨a_f, fd_f, h_f⟩ := T.h_rank
  refine ⟨nscope_by (by kernel_rfl), fun nm q cl pm cv ctv => rfl, ndef_free (fr := pk_armed_0.fr) (by kernel_rfl), ndef_fr (sc := (defScope (topS 83))) (by kernel_rfl), rfl, by decide, fun nm q ar bd cl c A outer s H E f hr => ?_⟩
  exact der_call (L2.takes_of rfl rfl rfl rfl) (okR_rank T h_f) (hr.mono (by decide)) (by rfl) h_f.g h_f.F.kp h_f.b rfl (da_cons (de_var (pv 0)) (da_cons (de_var (pv 1)) da_nil)) (aCons_len (aCons_len aNil_len))
theorem pk_armed_1_ok (T : Tx w K mg) : PkOk P w K mg base 7 3 ["posts", "cars", "no", "calls"] (defScope (topS 83)) (lmA (stA 83 1)) pk_armed_1 := by
  obtain ⟨a_f, fd_f, h_f⟩ := T.h_leaves_by
  refine ⟨nscope_by (by kernel_rfl), fun nm q cl pm cv ctv => rfl, ndef_free (fr := pk_armed_1.fr) (by kernel_rfl), ndef_fr (sc := (defScope (topS 83))) (by kernel_rfl), rfl, by decide, fun nm q ar bd cl c A outer s H E f hr => ?_⟩
  exact der_call (L2.takes_of rfl rfl rfl rfl) (okR_leaves_by T h_f) (hr.mono (by decide)) (by rfl) h_f.g h_f.F.kp h_f.b rfl (da_cons (de_var (pv 0)) (da_cons de_non da_nil)) (aCons_len (aCons_len aNil_len))
theorem pk_armed_2_ok (T : Tx w K mg) : PkOk P w K mg base 7 3 ["posts", "cars", "no", "calls"] (defScope (topS 83)) (lmA (stA 83 2)) pk_armed_2 := by
  obtain ⟨a_f, fd_f, h_f⟩ := T.h_quarters
  refine ⟨nscope_by (by kernel_rfl), fun nm q cl pm cv ctv => rfl, ndef_free (fr := pk_armed_2.fr) (by kernel_rfl), ndef_fr (sc := (defScope (topS 83))) (by kernel_rfl), rfl, by decide, fun nm q ar bd cl c A outer s H E f hr => ?_⟩
  exact der_call (L2.takes_of rfl rfl rfl rfl) (okR_quarters T h_f) (hr.mono (by decide)) (by rfl) h_f.g h_f.F.kp h_f.b rfl (da_cons (de_var (pv 0)) (da_cons de_non da_nil)) (aCons_len (aCons_len aNil_len))
theorem pk_armed_3_ok (T : Tx w K mg) : PkOk P w K mg base 7 3 ["posts", "cars", "no", "calls"] (defScope (topS 83)) (lmA (stA 83 3)) pk_armed_3 := by
  obtain ⟨a_f, fd_f, h_f⟩ := T.h_in_the_way
  refine ⟨nscope_by (by kernel_rfl), fun nm q cl pm cv ctv => rfl, ndef_free (fr := pk_armed_3.fr) (by kernel_rfl), ndef_fr (sc := (defScope (topS 83))) (by kernel_rfl), rfl, by decide, fun nm q ar bd cl c A outer s H E f hr => ?_⟩
  exact der_call (L2.takes_of rfl rfl rfl rfl) (okR_in_the_way T h_f) (hr.mono (by decide)) (by rfl) h_f.g h_f.F.kp h_f.b rfl (da_cons (de_var (pv 0)) (da_cons (de_var (pv 1)) (da_cons (de_un un_neg ud_neg de_int) da_nil))) (aCons_len (aCons_len (aCons_len aNil_len)))
theorem pk_armed_4_ok (T : Tx w K mg) : PkOk P w K mg base 7 3 ["posts", "cars", "no", "calls"] (defScope (topS 83)) (lmA (stA 83 4)) pk_armed_4 := by
  obtain ⟨a_f, fd_f, h_f⟩ := T.h_in_the_way
  refine ⟨nscope_by (by kernel_rfl), fun nm q cl pm cv ctv => rfl, ndef_free (fr := pk_armed_4.fr) (by kernel_rfl), ndef_fr (sc := (defScope (topS 83))) (by kernel_rfl), rfl, by decide, fun nm q ar bd cl c A outer s H E f hr => ?_⟩
  exact der_call (L2.takes_of rfl rfl rfl rfl) (okR_in_the_way T h_f) (hr.mono (by decide)) (by rfl) h_f.g h_f.F.kp h_f.b rfl (da_cons (de_var (pv 0)) (da_cons de_int (da_cons (de_var (pv 1)) da_nil))) (aCons_len (aCons_len (aCons_len aNil_len)))
theorem pk_armed_5_ok (T : Tx w K mg) : PkOk P w K mg base 7 3 ["posts", "cars", "no", "calls"] (defScope (topS 83)) (lmA (stA 83 5)) pk_armed_5 := by
  obtain ⟨a_f, fd_f, h_f⟩ := T.h_can_join
  refine ⟨nscope_by (by kernel_rfl), fun nm q cl pm cv ctv => rfl, ndef_free (fr := pk_armed_5.fr) (by kernel_rfl), ndef_fr (sc := (defScope (topS 83))) (by kernel_rfl), rfl, by decide, fun nm q ar bd cl c A outer s H E f hr => ?_⟩
  exact der_call (L2.takes_of rfl rfl rfl rfl) (okR_can_join T h_f) (hr.mono (by decide)) (by rfl) h_f.g h_f.F.kp h_f.b rfl (da_cons (de_var (pv 0)) (da_cons (de_var (pv 1)) (da_cons de_non da_nil))) (aCons_len (aCons_len (aCons_len aNil_len)))
theorem pk_armed_6_ok (T : Tx w K mg) : PkOk P w K mg base 7 3 ["posts", "cars", "no", "calls"] (defScope (topS 83)) (lmA (stA 83 6)) pk_armed_6 := by
  obtain ⟨a_f, fd_f, h_f⟩ := T.h_waits_for
  refine ⟨nscope_by (by kernel_rfl), fun nm q cl pm cv ctv => rfl, ndef_free (fr := pk_armed_6.fr) (by kernel_rfl), ndef_fr (sc := (defScope (topS 83))) (by kernel_rfl), rfl, by decide, fun nm q ar bd cl c A outer s H E f hr => ?_⟩
  exact der_call (L2.takes_of rfl rfl rfl rfl) (okR_waits_for T h_f) (hr.mono (by decide)) (by rfl) h_f.g h_f.F.kp h_f.b rfl (da_cons (de_var (pv 0)) (da_cons (de_var (pv 1)) (da_cons (de_var (pv 2)) da_nil))) (aCons_len (aCons_len (aCons_len aNil_len)))
theorem pk_armed_7_ok (T : Tx w K mg) : PkOk P w K mg base 7 3 ["posts", "cars", "no", "calls"] (defScope (topS 83)) (lmA (stA 83 7)) pk_armed_7 := by
  obtain ⟨a_f, fd_f, h_f⟩ := T.h_latest_round
  refine ⟨nscope_by (by kernel_rfl), fun nm q cl pm cv ctv => rfl, ndef_free (fr := pk_armed_7.fr) (by kernel_rfl), ndef_fr (sc := (defScope (topS 83))) (by kernel_rfl), rfl, by decide, fun nm q ar bd cl c A outer s H E f hr => ?_⟩
  exact der_call (L2.takes_of rfl rfl rfl rfl) (okR_latest_round T h_f) (hr.mono (by decide)) (by rfl) h_f.g h_f.F.kp h_f.b rfl (da_cons (de_var (pv 0)) (da_cons (de_var (pv 1)) da_nil)) (aCons_len (aCons_len aNil_len))
theorem pk_armed_8_ok (T : Tx w K mg) : PkOk P w K mg base 7 3 ["posts", "cars", "no", "calls"] (defScope (topS 83)) (lmA (stA 83 8)) pk_armed_8 := by
  obtain ⟨a_f, fd_f, h_f⟩ := T.h_with_sign
  refine ⟨nscope_by (by kernel_rfl), fun nm q cl pm cv ctv => rfl, ndef_free (fr := pk_armed_8.fr) (by kernel_rfl), ndef_fr (sc := (defScope (topS 83))) (by kernel_rfl), rfl, by decide, fun nm q ar bd cl c A outer s H E f hr => ?_⟩
  exact der_call (L2.takes_of rfl rfl rfl rfl) (okR_with_sign T h_f) (hr.mono (by decide)) (by rfl) h_f.g h_f.F.kp h_f.b rfl (da_cons (de_var (pv 0)) (da_cons (de_var (pv 1)) (da_cons de_non da_nil))) (aCons_len (aCons_len (aCons_len aNil_len)))
theorem pks_armed_ok (T : Tx w K mg) : Pks P w K mg base 7 3 ["posts", "cars", "no", "calls"] (defScope (topS 83)) ls_armed pks_armed := (.cons (pk_armed_0_ok T) (.cons (pk_armed_1_ok T) (.cons (pk_armed_2_ok T) (.cons (pk_armed_3_ok T) (.cons (pk_armed_4_ok T) (.cons (pk_armed_5_ok T) (.cons (pk_armed_6_ok T) (.cons (pk_armed_7_ok T) (.cons (pk_armed_8_ok T) .nil)))))))))
theorem ok__law_armed (T : Tx w K mg) {TT : List NTab} {a c Pt : Addr} {fd : FuncData} (h : FnAt K mg "_law_armed" (topS 83) ["posts", "cars", "no"] a fd) (hcode : fd.code = .ref c) (TB : LamX.TabB base mg c Pt) (hm : (Pt, nm26) ∈ TT) (hu : ∀ p ∈ TT, p.2 = nm26) : FnOk P w K mg base CX0 1 a fd ["posts", "cars", "no"] (spMk P w K mg base 7 3 TT pks_armed) := by
  have nd := (sc__law_armed).nd
  have hu2 : ∀ p ∈ TT, p.1 = Pt → p.2 = nm26 := fun p hp _ => hu p hp
  refine fnMk (k0 := 0) (i := 3) (ls := ls_armed) h.F hcode sc__law_armed rfl (by decide) (fun A outer s H E hr => ?_) (pks_armed_ok T) (by decide)
  exact (mkr_new (mk_new (i := 3) nd rfl (by first | exact .inl rfl | exact .inr rfl) (pe_lm TB rfl hm rfl hu2 rfl (ndef_free (fr := pk_armed_0.fr) (by kernel_rfl))))
    (mkr_app (mk_app (p2 := ⟨0, 0, 0, 0⟩) (pv 3) (pe_lm TB rfl hm rfl hu2 rfl (ndef_free (fr := pk_armed_1.fr) (by kernel_rfl))))
    (mkr_app (mk_app (p2 := ⟨0, 0, 0, 0⟩) (pv 3) (pe_lm TB rfl hm rfl hu2 rfl (ndef_free (fr := pk_armed_2.fr) (by kernel_rfl))))
    (mkr_app (mk_app (p2 := ⟨0, 0, 0, 0⟩) (pv 3) (pe_lm TB rfl hm rfl hu2 rfl (ndef_free (fr := pk_armed_3.fr) (by kernel_rfl))))
    (mkr_app (mk_app (p2 := ⟨0, 0, 0, 0⟩) (pv 3) (pe_lm TB rfl hm rfl hu2 rfl (ndef_free (fr := pk_armed_4.fr) (by kernel_rfl))))
    (mkr_app (mk_app (p2 := ⟨0, 0, 0, 0⟩) (pv 3) (pe_lm TB rfl hm rfl hu2 rfl (ndef_free (fr := pk_armed_5.fr) (by kernel_rfl))))
    (mkr_app (mk_app (p2 := ⟨0, 0, 0, 0⟩) (pv 3) (pe_lm TB rfl hm rfl hu2 rfl (ndef_free (fr := pk_armed_6.fr) (by kernel_rfl))))
    (mkr_app (mk_app (p2 := ⟨0, 0, 0, 0⟩) (pv 3) (pe_lm TB rfl hm rfl hu2 rfl (ndef_free (fr := pk_armed_7.fr) (by kernel_rfl))))
    (mkr_app (mk_app (p2 := ⟨0, 0, 0, 0⟩) (pv 3) (pe_lm TB rfl hm rfl hu2 rfl (ndef_free (fr := pk_armed_8.fr) (by kernel_rfl))))
    (mkr_end (pv 3)))))))))))
end
end Nk26

namespace DL
open PySem PySem.Spec PyProof.Rows L2 LamX NdefX
/-! ### a def whose code object is told -/
theorem fun_okC {P : Program} {w : World} {K : PySem.W.Frag} {mg : Str → Option Value} {base : Heap} {x qual : Str} {st : Stmt} {f c : Addr} {fd : FuncData} {N ps : List Str} {k : Nat} {sp : Sp} (Fu : Fun K x qual st f fd) (hcode : fd.code = .ref c) (S : FnScope N ps (defScope st)) (len : ∀ vs H Q E, sp vs H Q E → vs.length = ps.length)
    (hb : ∀ (A : Around) (outer : List Env) (s : Shared) (H : Hp) (vs : List V) (Q : VK) (E : XK), Room k (A.deeper (envOfC qual (defScope st) s.heap.objs.size f (.ref c))) → sp vs H Q E →
      ∃ t, PSs (cxOf CX0 P w K mg base N qual (defScope st) f (.ref c) A outer s H E).nox (defBody st) t ∧ t { nx := fun _ H' => Q .non H', rt := Q } (L2.start N vs) H) : FnOk P w K mg base CX0 (k + 1) f fd ps sp := by
  obtain ⟨oc, od, kV, doc, pm, an, cdv, ct, osl, rfl, lk, hcd⟩ := Fu.ex
  obtain rfl : cdv = .ref c := hcode
  refine fn_of lk hcd S len fun A outer s H vs Q E hr hsp => ?_
  obtain ⟨t, h, q⟩ := hb A outer s H vs Q E hr hsp
  exact ⟨t, h.nox, q⟩
theorem code_of {K : PySem.W.Frag} {h : Heap} {mg : Str → Option Value} {x : Str} {st : Stmt} {ps : List Str} {f c Pt : Addr} {fd : FuncData} (X : K.In h) (G : h.Ns mainGlobals mg) (ht : PySem.W.tabIn K x = some (c, Pt)) (F : FnAt K mg x st ps f fd) : fd.code = .ref c := by
  obtain ⟨oc, od, kV, doc, pm, an, cdv, ct, osl, rfl, lk, hcd⟩ := F.F.ex
  exact PySem.W.law_code X G ht F.g (X _ _ lk) rfl
theorem rcall_eq {g : List PyData → Option Str} {fs : DA} {ρ : List Sl} {ds : List PyData} {c : Str} (h2 : g ds = some c) (h1 : fs ρ = some ds) : rCall g fs ρ = some (c, ρ) := by
  unfold rCall
  rw [h1, Option.bind_some, h2]
  rfl
theorem pkd_one {K : PySem.W.Frag} {V : Hp} {σ : L2.St} {cl : Str} {fr : List Str} {j : Nat} {g : List PyData → Option Str} {fs : DA} {v : L2.V} {d : PyData} {ds : List PyData} (h : σ[j]? = some (some v)) (dq : Dq K V v d) (h2 : g ds = some cl) (h1 : fs [.d d] = some ds) : PkD K V σ cl ⟨fr, [j], rCall g fs⟩ :=
  ⟨[v], [d], _, by show [slotAt σ j] = [some v]; rw [slotAt_of h], .cons dq .nil, rcall_eq h2 h1⟩
theorem pkd_two {K : PySem.W.Frag} {V : Hp} {σ : L2.St} {cl : Str} {fr : List Str} {j j' : Nat} {g : List PyData → Option Str} {fs : DA} {v v' : L2.V} {d d' : PyData} {ds : List PyData} (h : σ[j]? = some (some v)) (dq : Dq K V v d) (h' : σ[j']? = some (some v')) (dq' : Dq K V v' d') (h2 : g ds = some cl) (h1 : fs [.d d, .d d'] = some ds) : PkD K V σ cl ⟨fr, [j, j'], rCall g fs⟩ :=
  ⟨[v, v'], [d, d'], _, by show [slotAt σ j, slotAt σ j'] = [some v, some v']; rw [slotAt_of h, slotAt_of h'], .cons dq (.cons dq' .nil), rcall_eq h2 h1⟩
theorem pkd_no {K : PySem.W.Frag} {V : Hp} {σ : L2.St} {cl : Str} {fr : List Str} {g : List PyData → Option Str} {fs : DA} {ds : List PyData} (h2 : g ds = some cl) (h1 : fs [] = some ds) : PkD K V σ cl ⟨fr, [], rCall g fs⟩ :=
  ⟨[], [], _, rfl, .nil, rcall_eq h2 h1⟩
/-! ### the law's promise -/
def spLw (K : PySem.W.Frag) (T : List NTab) : Sp := fun vs H Q _ => vs.length = 1 ∧ TabsN T H ∧ ∃ (a : Addr) (ns : List Int), vs = [.ref a] ∧ ns.length ≤ 63 ∧ SqL K H a (ns.map V.int) ∧ ∀ H', Q (.bl true) H'
/-- behind the statements by data -/
def uR (K : PySem.W.Frag) (T : List NTab) (Gd : List Sl → Prop) : TS := fun D σ H => ∃ V ρ, NoZ V ∧ Ex V H ∧ TabsN T H ∧ Gd ρ ∧ (∀ (i : Nat) (d : PyData), ρ[i]? = some (.d d) → ∃ v, σ[i]? = some (some v) ∧ Dq K V v d) ∧ ∀ H', D.rt (.bl true) H'
theorem fnLw {P : Program} {w : World} {K : PySem.W.Frag} {mg : Str → Option Value} {base : Heap} {T : List NTab} {x qual : Str} {st : Stmt} {f c : Addr} {fd : FuncData} {N : List Str} {p0 : Str} {k : Nat} {F : DS} {Gd : List Sl → Prop} (Fu : Fun K x qual st f fd) (hcode : fd.code = .ref c) (S : FnScope N [p0] (defScope st))
    (hF : ∀ ns : List Int, ns.length ≤ 63 → ∃ ρ, F (startD N.length [scr ns]) = some (.nx ρ) ∧ Gd ρ)
    (hb : ∀ (A : Around) (outer : List Env) (s : Shared) (H : Hp) (E : XK), Room k (A.deeper (envOfC qual (defScope st) s.heap.objs.size f (.ref c))) → PSs (cxOf CX0 P w K mg base N qual (defScope st) f (.ref c) A outer s H E).nox (defBody st) (tK K F (uR K T Gd))) :
    FnOk P w K mg base CX0 (k + 1) f fd [p0] (spLw K T) := by
  refine fun_okC Fu hcode S (fun vs H Q E h => h.1) fun A outer s H vs Q E hr h => ⟨_, hb A outer s H E hr, ?_⟩
  obtain ⟨_, hT, a, ns, rfl, hl, hS, q⟩ := h
  obtain ⟨ρ, h1, h2⟩ := hF ns hl
  refine ⟨H, Bs.of H, H, _, ρ, start_ok (N := N) .refl (.cons (.lk hS (da_ints ns)) .nil), h1, fun σ' V' H' E' => ?_⟩
  refine ⟨cutV V', ρ, cut_noz, cut_ex.trans E'.sub, hT.ext fun b o e => E'.gr.h b o e, h2, fun i d e => ?_, fun H2 => q H2⟩
  exact env_at E' i d e
end DL

namespace Nk26
open PySem PySem.Spec PyProof.Rows L2 DL LamX NdefX
open L2H (RoomH PinOk cxH inv_startH roomH_of)
def forB : Stmt → List Stmt
  | .For _ _ b _ _ => b
  | _ => []
def stF (i j k : Nat) : Stmt := (forB (stA i j)).getD k (.Pass ⟨0, 0, 0, 0⟩)
def tstE : Stmt → Expr
  | .If e _ _ _ => e
  | .Return (some e) _ => e
  | _ => .Constant .none 0 ⟨0, 0, 0, 0⟩
def opN : Expr → Expr
  | .UnaryOp _ e _ => e
  | e => e
def bopN (i : Nat) : Expr → Expr
  | .BoolOp _ es _ => es.getD i (.Constant .none 0 ⟨0, 0, 0, 0⟩)
  | e => e
def lmL : Expr → Lm
  | .Call _ [.List [.Lambda a b s _] _, _] [] _ => (a, b, s)
  | _ => (⟨[], [], none, [], [], none, []⟩, .Constant .none 0 ⟨0, 0, 0, 0⟩, ⟨.function, [], false, false, []⟩)
def pk_law_0 : Pk := ⟨["turn"], [7], (rCall X_leaves_by (aCons (dC (.int 0)) (aCons (dVar 0) aNil)))⟩
def pk_law_1 : Pk := ⟨["turn"], [7], (rCall X_quarters (aCons (dC (.int 0)) (aCons (dVar 0) aNil)))⟩
def pk_law_2 : Pk := ⟨["turn"], [7], (rCall X_can_join (aCons (dC (.str "LSR.")) (aCons (dC (.int 0)) (aCons (dVar 0) aNil))))⟩
def pk_law_3 : Pk := ⟨[], [], (rCall X_in_the_way (aCons (dC (.str ".LSR")) (aCons (dC (.int 0)) (aCons (dC (.int 0)) aNil))))⟩
def pk_law_4 : Pk := ⟨[], [], (rCall X_in_the_way (aCons (dC (.str ".LSR")) (aCons (dC (.int 1)) (aCons (dC (.int 0)) aNil))))⟩
def pk_law_5 : Pk := ⟨["posts"], [1], (rCall X_waits_for (aCons (dVar 0) (aCons (dC (.str "LSR.")) (aCons (dC (.int 3)) aNil))))⟩
def pk_law_6 : Pk := ⟨[], [], (rCall X_in_the_way (aCons (dC (.str "LSR.")) (aCons (dC (.int 1)) (aCons (dC (.int 1)) aNil))))⟩
def pk_law_7 : Pk := ⟨["posts", "post"], [1, 10], (rCall X_with_sign (aCons (dVar 0) (aCons (dC (.int 0)) (aCons (dVar 1) aNil))))⟩
def pk_law_8 : Pk := ⟨[], [], (rCall X_can_join (aCons (dC (.str "LSR.")) (aCons (dC (.int 0)) (aCons (dC (.str "L")) aNil))))⟩
def ls_turn : List Lm := [(lmA (stF 84 6 0)), (lmA (stF 84 6 1)), (lmA (stF 84 6 2))]
def pks_turn : List Pk := [pk_law_0, pk_law_1, pk_law_2]
def ls_empty : List Lm := [(lmA (stA 84 7)), (lmA (stA 84 8)), (lmA (stA 84 9))]
def pks_empty : List Pk := [pk_law_3, pk_law_4, pk_law_5]
def ls_same : List Lm := [(lmL (opN (bopN 1 (tstE (stA 84 10)))))]
def pks_same : List Pk := [pk_law_6]
def ls_post : List Lm := [(lmL (opN (tstE (stF 84 11 0))))]
def pks_post : List Pk := [pk_law_7]
def ls_taken : List Lm := [(lmL (bopN 0 (tstE (stA 84 12))))]
def pks_taken : List Pk := [pk_law_8]
def F_pre : DS := (sSeq (sMulti [1, 2, 3] (mD (dCall D__law_posts (aCons (dVar 0) (aCons (dC (.int 0)) aNil))) (mD (dCall D__law_cars (aCons (dVar 0) (aCons (dC (.int 4)) aNil))) (mD (dCall D__law_pick (aCons (dVar 0) (aCons (dC (.int 8)) (aCons (dC (.int 8)) aNil)))) mNil)))) (sSeq (sSet 4 (d2 ixP (dTup (aCons (dC .none) (aCons (dC (.str "")) (aCons (dC (.str "PG-")) (aCons (dC (.str "PG-TT")) (aCons (dC (.str "PG-S")) (aCons (dC (.str "pg-t")) (aCons (dC (.int 5)) (aCons (dL (aSmall (aCons (dC (.str "P")) (aCons (dC (.str "P")) (aCons (dC (.str "P")) (aCons (dC (.str "P")) aNil)))))) aNil))))))))) (dVar 3))) (sSeq (sSet 5 (d2 ixP (dTup (aCons (dC .none) (aCons (dC (.str "")) (aCons (dC (.str "LSR")) (aCons (dC (.str "LSR..")) (aCons (dC (.str "LSRU")) (aCons (dC (.str "lsr.")) (aCons (dC (.int 5)) (aCons (dL (aSmall (aCons (dC (.str "L")) (aCons (dC (.str "S")) (aCons (dC (.str "R")) (aCons (dC (.str ".")) aNil)))))) aNil))))))))) (dVar 3))) (sSeq (sSet 6 (d2 ixP (dTup (aCons (dC .none) (aCons (d1 negP (dC (.int 1))) (aCons (dC (.int 4)) (aCons (dC (.bool true)) (aCons (dC (.str "0")) (aCons (dTup (aCons (dC (.int 0)) aNil)) (aCons (dL (aSmall (aCons (dC (.int 0)) aNil))) (aCons (dC (.int 99)) aNil))))))))) (dVar 3))) sSkip))))
section
variable {P : Program} {w : World} {K : PySem.W.Frag} {mg : Str → Option Value} {base : Heap}
theorem pk_law_0_ok (T : Tx w K mg) : PkOk P w K mg base 7 11 ["script", "posts", "cars", "at", "no", "bad", "arm", "turn", "calls", "empty", "post"] (defScope (topS 84)) (lmA (stF 84 6 0)) pk_law_0 := by
  obtain ⟨a_f, fd_f, h_f⟩ := T.h_leaves_by
  refine ⟨nscope_by (by kernel_rfl), fun nm q cl pm cv ctv => rfl, ndef_free (fr := pk_law_0.fr) (by kernel_rfl), ndef_fr (sc := (defScope (topS 84))) (by kernel_rfl), rfl, by decide, fun nm q ar bd cl c A outer s H E f hr => ?_⟩
  exact der_call (L2.takes_of rfl rfl rfl rfl) (okR_leaves_by T h_f) (hr.mono (by decide)) (by rfl) h_f.g h_f.F.kp h_f.b rfl (da_cons de_int (da_cons (de_var (pv 0)) da_nil)) (aCons_len (aCons_len aNil_len))
theorem pk_law_1_ok (T : Tx w K mg) : PkOk P w K mg base 7 11 ["script", "posts", "cars", "at", "no", "bad", "arm", "turn", "calls", "empty", "post"] (defScope (topS 84)) (lmA (stF 84 6 1)) pk_law_1 := by
  obtain ⟨a_f, fd_f, h_f⟩ := T.h_quarters
  refine ⟨nscope_by (by kernel_rfl), fun nm q cl pm cv ctv => rfl, ndef_free (fr := pk_law_1.fr) (by kernel_rfl), ndef_fr (sc := (defScope (topS 84))) (by kernel_rfl), rfl, by decide, fun nm q ar bd cl c A outer s H E f hr => ?_⟩
  exact der_call (L2.takes_of rfl rfl rfl rfl) (okR_quarters T h_f) (hr.mono (by decide)) (by rfl) h_f.g h_f.F.kp h_f.b rfl (da_cons de_int (da_cons (de_var (pv 0)) da_nil)) (aCons_len (aCons_len aNil_len))
theorem pk_law_2_ok (T : Tx w K mg) : PkOk P w K mg base 7 11 ["script", "posts", "cars", "at", "no", "bad", "arm", "turn", "calls", "empty", "post"] (defScope (topS 84)) (lmA (stF 84 6 2)) pk_law_2 := by
  obtain ⟨a_f, fd_f, h_f⟩ := T.h_can_join
  refine ⟨nscope_by (by kernel_rfl), fun nm q cl pm cv ctv => rfl, ndef_free (fr := pk_law_2.fr) (by kernel_rfl), ndef_fr (sc := (defScope (topS 84))) (by kernel_rfl), rfl, by decide, fun nm q ar bd cl c A outer s H E f hr => ?_⟩
  exact der_call (L2.takes_of rfl rfl rfl rfl) (okR_can_join T h_f) (hr.mono (by decide)) (by rfl) h_f.g h_f.F.kp h_f.b rfl (da_cons de_str (da_cons de_int (da_cons (de_var (pv 0)) da_nil))) (aCons_len (aCons_len (aCons_len aNil_len)))
theorem pk_law_3_ok (T : Tx w K mg) : PkOk P w K mg base 7 11 ["script", "posts", "cars", "at", "no", "bad", "arm", "turn", "calls", "empty", "post"] (defScope (topS 84)) (lmA (stA 84 7)) pk_law_3 := by
  obtain ⟨a_f, fd_f, h_f⟩ := T.h_in_the_way
  refine ⟨nscope_by (by kernel_rfl), fun nm q cl pm cv ctv => rfl, ndef_free (fr := pk_law_3.fr) (by kernel_rfl), ndef_fr (sc := (defScope (topS 84))) (by kernel_rfl), rfl, by decide, fun nm q ar bd cl c A outer s H E f hr => ?_⟩
  exact der_call (L2.takes_of rfl rfl rfl rfl) (okR_in_the_way T h_f) (hr.mono (by decide)) (by rfl) h_f.g h_f.F.kp h_f.b rfl (da_cons de_str (da_cons de_int (da_cons de_int da_nil))) (aCons_len (aCons_len (aCons_len aNil_len)))
theorem pk_law_4_ok (T : Tx w K mg) : PkOk P w K mg base 7 11 ["script", "posts", "cars", "at", "no", "bad", "arm", "turn", "calls", "empty", "post"] (defScope (topS 84)) (lmA (stA 84 8)) pk_law_4 := by
  obtain ⟨a_f, fd_f, h_f⟩ := T.h_in_the_way
  refine ⟨nscope_by (by kernel_rfl), fun nm q cl pm cv ctv => rfl, ndef_free (fr := pk_law_4.fr) (by kernel_rfl), ndef_fr (sc := (defScope (topS 84))) (by kernel_rfl), rfl, by decide, fun nm q ar bd cl c A outer s H E f hr => ?_⟩
  exact der_call (L2.takes_of rfl rfl rfl rfl) (okR_in_the_way T h_f) (hr.mono (by decide)) (by rfl) h_f.g h_f.F.kp h_f.b rfl (da_cons de_str (da_cons de_int (da_cons de_int da_nil))) (aCons_len (aCons_len (aCons_len aNil_len)))
theorem pk_law_5_ok (T : Tx w K mg) : PkOk P w K mg base 7 11 ["script", "posts", "cars", "at", "no", "bad", "arm", "turn", "calls", "empty", "post"] (defScope (topS 84)) (lmA (stA 84 9)) pk_law_5 := by
  obtain ⟨a_f, fd_f, h_f⟩ := T.h_waits_for
  refine ⟨nscope_by (by kernel_rfl), fun nm q cl pm cv ctv => rfl, ndef_free (fr := pk_law_5.fr) (by kernel_rfl), ndef_fr (sc := (defScope (topS 84))) (by kernel_rfl), rfl, by decide, fun nm q ar bd cl c A outer s H E f hr => ?_⟩
  exact der_call (L2.takes_of rfl rfl rfl rfl) (okR_waits_for T h_f) (hr.mono (by decide)) (by rfl) h_f.g h_f.F.kp h_f.b rfl (da_cons (de_var (pv 0)) (da_cons de_str (da_cons de_int da_nil))) (aCons_len (aCons_len (aCons_len aNil_len)))
theorem pk_law_6_ok (T : Tx w K mg) : PkOk P w K mg base 7 11 ["script", "posts", "cars", "at", "no", "bad", "arm", "turn", "calls", "empty", "post"] (defScope (topS 84)) (lmL (opN (bopN 1 (tstE (stA 84 10))))) pk_law_6 := by
  obtain ⟨a_f, fd_f, h_f⟩ := T.h_in_the_way
  refine ⟨nscope_by (by kernel_rfl), fun nm q cl pm cv ctv => rfl, ndef_free (fr := pk_law_6.fr) (by kernel_rfl), ndef_fr (sc := (defScope (topS 84))) (by kernel_rfl), rfl, by decide, fun nm q ar bd cl c A outer s H E f hr => ?_⟩
  exact der_call (L2.takes_of rfl rfl rfl rfl) (okR_in_the_way T h_f) (hr.mono (by decide)) (by rfl) h_f.g h_f.F.kp h_f.b rfl (da_cons de_str (da_cons de_int (da_cons de_int da_nil))) (aCons_len (aCons_len (aCons_len aNil_len)))
theorem pk_law_7_ok (T : Tx w K mg) : PkOk P w K mg base 7 11 ["script", "posts", "cars", "at", "no", "bad", "arm", "turn", "calls", "empty", "post"] (defScope (topS 84)) (lmL (opN (tstE (stF 84 11 0)))) pk_law_7 := by
  obtain ⟨a_f, fd_f, h_f⟩ := T.h_with_sign
  refine ⟨nscope_by (by kernel_rfl), fun nm q cl pm cv ctv => rfl, ndef_free (fr := pk_law_7.fr) (by kernel_rfl), ndef_fr (sc := (defScope (topS 84))) (by kernel_rfl), rfl, by decide, fun nm q ar bd cl c A outer s H E f hr => ?_⟩
  exact der_call (L2.takes_of rfl rfl rfl rfl) (okR_with_sign T h_f) (hr.mono (by decide)) (by rfl) h_f.g h_f.F.kp h_f.b rfl (da_cons (de_var (pv 0)) (da_cons de_int (da_cons (de_var (pv 1)) da_nil))) (aCons_len (aCons_len (aCons_len aNil_len)))
theorem pk_law_8_ok (T : Tx w K mg) : PkOk P w K mg base 7 11 ["script", "posts", "cars", "at", "no", "bad", "arm", "turn", "calls", "empty", "post"] (defScope (topS 84)) (lmL (bopN 0 (tstE (stA 84 12)))) pk_law_8 := by
  obtain ⟨a_f, fd_f, h_f⟩ := T.h_can_join
  refine ⟨nscope_by (by kernel_rfl), fun nm q cl pm cv ctv => rfl, ndef_free (fr := pk_law_8.fr) (by kernel_rfl), ndef_fr (sc := (defScope (topS 84))) (by kernel_rfl), rfl, by decide, fun nm q ar bd cl c A outer s H E f hr => ?_⟩
  exact der_call (L2.takes_of rfl rfl rfl rfl) (okR_can_join T h_f) (hr.mono (by decide)) (by rfl) h_f.g h_f.F.kp h_f.b rfl (da_cons de_str (da_cons de_int (da_cons de_str da_nil))) (aCons_len (aCons_len (aCons_len aNil_len)))
theorem pks_turn_ok (T : Tx w K mg) : Pks P w K mg base 7 11 ["script", "posts", "cars", "at", "no", "bad", "arm", "turn", "calls", "empty", "post"] (defScope (topS 84)) ls_turn pks_turn := (.cons (pk_law_0_ok T) (.cons (pk_law_1_ok T) (.cons (pk_law_2_ok T) .nil)))
theorem pks_empty_ok (T : Tx w K mg) : Pks P w K mg base 7 11 ["script", "posts", "cars", "at", "no", "bad", "arm", "turn", "calls", "empty", "post"] (defScope (topS 84)) ls_empty pks_empty := (.cons (pk_law_3_ok T) (.cons (pk_law_4_ok T) (.cons (pk_law_5_ok T) .nil)))
theorem pks_same_ok (T : Tx w K mg) : Pks P w K mg base 7 11 ["script", "posts", "cars", "at", "no", "bad", "arm", "turn", "calls", "empty", "post"] (defScope (topS 84)) ls_same pks_same := (.cons (pk_law_6_ok T) .nil)
theorem pks_post_ok (T : Tx w K mg) : Pks P w K mg base 7 11 ["script", "posts", "cars", "at", "no", "bad", "arm", "turn", "calls", "empty", "post"] (defScope (topS 84)) ls_post pks_post := (.cons (pk_law_7_ok T) .nil)
theorem pks_taken_ok (T : Tx w K mg) : Pks P w K mg base 7 11 ["script", "posts", "cars", "at", "no", "bad", "arm", "turn", "calls", "empty", "post"] (defScope (topS 84)) ls_taken pks_taken := (.cons (pk_law_8_ok T) .nil)
end
end Nk26

namespace Nk26
open PySem L2 DL
def badN : List PyData := [.none, .str "", .str "PG-", .str "PG-TT", .str "PG-S", .str "pg-t", .int 5, .list [.str "P", .str "P", .str "P", .str "P"]]
def badB : List PyData := [.none, .str "", .str "LSR", .str "LSR..", .str "LSRU", .str "lsr.", .int 5, .list [.str "L", .str "S", .str "R", .str "."]]
def badA : List PyData := [.none, .int (-1), .int 4, .bool true, .str "0", .tuple [.int 0], .list [.int 0], .int 99]
theorem xs_bad : ∀ x ∈ badN, X_check_signs [x] = some ("InvalidSigns" : Str) := by
  have h : badN.all (fun x => isX (some ("InvalidSigns" : Str)) (X_check_signs [x])) = true := by decide +kernel
  exact fun x hx => of_isX (List.all_eq_true.mp h x hx)
theorem xs_good {s : Nat} (hs : s < 256) : X_check_signs [.str (sS s)] = none :=
  of_isX (allB_all (p := fun s => isX none (X_check_signs [.str (sS s)])) (by decide +kernel : allB 256 _ = true) s hs)
theorem xt_bad : ∀ x ∈ badB, X_check_traffic [x] = some ("InvalidTraffic" : Str) := by
  have h : badB.all (fun x => isX (some ("InvalidTraffic" : Str)) (X_check_traffic [x])) = true := by decide +kernel
  exact fun x hx => of_isX (List.all_eq_true.mp h x hx)
theorem xt_good {t : Nat} (ht : t < 256) : X_check_traffic [.str (tS t)] = none :=
  of_isX (allB_all (p := fun t => isX none (X_check_traffic [.str (tS t)])) (by decide +kernel : allB 256 _ = true) t ht)
theorem xa_bad : ∀ x ∈ badA, X_check_arm [x] = some ("InvalidArm" : Str) := by
  have h : badA.all (fun x => isX (some ("InvalidArm" : Str)) (X_check_arm [x])) = true := by decide +kernel
  exact fun x hx => of_isX (List.all_eq_true.mp h x hx)
theorem xa_0 : X_check_arm [.int 0] = none := of_isX (by decide +kernel)
theorem ca_0 : D_check_arm [.int 0] = some .none := of_isN (by decide +kernel)
theorem x_two {s : Nat} (hs : s < 256) {y : PyData} (h : y ∈ badN) : X_check_two [.str (sS s), y] = some ("InvalidSigns" : Str) := by
  unfold X_check_two fnRen R_check_two
  rw [show startD 2 [.str (sS s), y] = [.d (.str (sS s)), .d y] from rfl]
  simp only [rOr, rCall, rSkip, rIf, rRaise, rNo, sExpr, dCall, aCons, aNil, dVar, dC, d1, List.getElem?_cons_zero, List.getElem?_cons_succ, Option.bind_some, Option.map_some, Option.map_none, xs_good hs, check_signs_ok hs, xs_bad y h]
theorem x_both {s : Nat} (hs : s < 256) {y : PyData} (h : y ∈ badB) : X_check_both [.str (sS s), y] = some ("InvalidTraffic" : Str) := by
  unfold X_check_both fnRen R_check_both
  rw [show startD 2 [.str (sS s), y] = [.d (.str (sS s)), .d y] from rfl]
  simp only [rOr, rCall, rSkip, rIf, rRaise, rNo, sExpr, dCall, aCons, aNil, dVar, dC, d1, List.getElem?_cons_zero, List.getElem?_cons_succ, Option.bind_some, Option.map_some, Option.map_none, xs_good hs, check_signs_ok hs, xt_bad y h]
theorem x_both0 {s : Nat} (hs : s < 256) {t : Nat} (ht : t < 256) : X_check_both [.str (sS s), .str (tS t)] = none := by
  unfold X_check_both fnRen R_check_both
  rw [show startD 2 [.str (sS s), .str (tS t)] = [.d (.str (sS s)), .d (.str (tS t))] from rfl]
  simp only [rOr, rCall, rSkip, rIf, rRaise, rNo, sExpr, dCall, aCons, aNil, dVar, dC, d1, List.getElem?_cons_zero, List.getElem?_cons_succ, Option.bind_some, Option.map_some, Option.map_none, xs_good hs, check_signs_ok hs, xt_good ht]
theorem a_agree {s : Nat} (hs : s < 256) {y : PyData} (h : y ∈ badN) : X_agree [.str (sS s), y] = some ("InvalidSigns" : Str) := by
  unfold X_agree fnRen R_agree
  rw [show startD 2 [.str (sS s), y] = [.d (.str (sS s)), .d y] from rfl]
  simp only [rOr, rCall, rSkip, rIf, rRaise, rNo, sExpr, dCall, aCons, aNil, dVar, dC, d1, List.getElem?_cons_zero, List.getElem?_cons_succ, Option.bind_some, Option.map_some, Option.map_none, x_two hs h]
theorem a_parting {s : Nat} (hs : s < 256) {y : PyData} (h : y ∈ badN) : X_parting [.str (sS s), y] = some ("InvalidSigns" : Str) := by
  unfold X_parting fnRen R_parting
  rw [show startD 7 [.str (sS s), y] = [.d (.str (sS s)), .d y, .un, .un, .un, .un, .un] from rfl]
  simp only [rOr, rCall, rSkip, rIf, rRaise, rNo, sExpr, dCall, aCons, aNil, dVar, dC, d1, List.getElem?_cons_zero, List.getElem?_cons_succ, Option.bind_some, Option.map_some, Option.map_none, x_two hs h]
theorem b_waits_for {s : Nat} (hs : s < 256) {y : PyData} (h : y ∈ badB) : X_waits_for [.str (sS s), y, .int (-1)] = some ("InvalidTraffic" : Str) := by
  unfold X_waits_for fnRen R_waits_for
  rw [show startD 3 [.str (sS s), y, .int (-1)] = [.d (.str (sS s)), .d y, .d (.int (-1))] from rfl]
  simp only [rOr, rCall, rSkip, rIf, rRaise, rNo, sExpr, dCall, aCons, aNil, dVar, dC, d1, List.getElem?_cons_zero, List.getElem?_cons_succ, Option.bind_some, Option.map_some, Option.map_none, x_both hs h]
theorem b_free {s : Nat} (hs : s < 256) {y : PyData} (h : y ∈ badB) : X_free [.str (sS s), y] = some ("InvalidTraffic" : Str) := by
  unfold X_free fnRen R_free
  rw [show startD 2 [.str (sS s), y] = [.d (.str (sS s)), .d y] from rfl]
  simp only [rOr, rCall, rSkip, rIf, rRaise, rNo, sExpr, dCall, aCons, aNil, dVar, dC, d1, List.getElem?_cons_zero, List.getElem?_cons_succ, Option.bind_some, Option.map_some, Option.map_none, x_both hs h]
theorem b_rounds {s : Nat} (hs : s < 256) {y : PyData} (h : y ∈ badB) : X_rounds [.str (sS s), y] = some ("InvalidTraffic" : Str) := by
  unfold X_rounds fnRen R_rounds
  rw [show startD 2 [.str (sS s), y] = [.d (.str (sS s)), .d y] from rfl]
  simp only [rOr, rCall, rSkip, rIf, rRaise, rNo, sExpr, dCall, aCons, aNil, dVar, dC, d1, List.getElem?_cons_zero, List.getElem?_cons_succ, Option.bind_some, Option.map_some, Option.map_none, x_both hs h]
theorem b_standing {s : Nat} (hs : s < 256) {y : PyData} (h : y ∈ badB) : X_standing [.str (sS s), y] = some ("InvalidTraffic" : Str) := by
  unfold X_standing fnRen R_standing
  rw [show startD 2 [.str (sS s), y] = [.d (.str (sS s)), .d y] from rfl]
  simp only [rOr, rCall, rSkip, rIf, rRaise, rNo, sExpr, dCall, aCons, aNil, dVar, dC, d1, List.getElem?_cons_zero, List.getElem?_cons_succ, Option.bind_some, Option.map_some, Option.map_none, x_both hs h]
theorem c_rank {s : Nat} (hs : s < 256) {y : PyData} (h : y ∈ badA) : X_rank [.str (sS s), y] = some ("InvalidArm" : Str) := by
  unfold X_rank fnRen R_rank
  rw [show startD 2 [.str (sS s), y] = [.d (.str (sS s)), .d y] from rfl]
  simp only [rOr, rCall, rSkip, rIf, rRaise, rNo, sExpr, dCall, aCons, aNil, dVar, dC, d1, List.getElem?_cons_zero, List.getElem?_cons_succ, Option.bind_some, Option.map_some, Option.map_none, xs_good hs, check_signs_ok hs, xa_bad y h]
theorem c_latest_round {s : Nat} (hs : s < 256) {y : PyData} (h : y ∈ badA) : X_latest_round [.str (sS s), y] = some ("InvalidArm" : Str) := by
  unfold X_latest_round fnRen R_latest_round
  rw [show startD 8 [.str (sS s), y] = [.d (.str (sS s)), .d y, .un, .un, .un, .un, .un, .un] from rfl]
  simp only [rOr, rCall, rSkip, rIf, rRaise, rNo, sExpr, dCall, aCons, aNil, dVar, dC, d1, List.getElem?_cons_zero, List.getElem?_cons_succ, Option.bind_some, Option.map_some, Option.map_none, xs_good hs, check_signs_ok hs, xa_bad y h]
theorem c_with_sign {s : Nat} (hs : s < 256) {y : PyData} (h : y ∈ badA) : X_with_sign [.str (sS s), y, .none] = some ("InvalidArm" : Str) := by
  unfold X_with_sign fnRen R_with_sign
  rw [show startD 3 [.str (sS s), y, .none] = [.d (.str (sS s)), .d y, .d (.none)] from rfl]
  simp only [rOr, rCall, rSkip, rIf, rRaise, rNo, sExpr, dCall, aCons, aNil, dVar, dC, d1, List.getElem?_cons_zero, List.getElem?_cons_succ, Option.bind_some, Option.map_some, Option.map_none, xs_good hs, check_signs_ok hs, xa_bad y h]
theorem c_way1 {t : Nat} (ht : t < 256) {y : PyData} (h : y ∈ badA) : X_in_the_way [.str (tS t), y, .int (-1)] = some ("InvalidArm" : Str) := by
  unfold X_in_the_way fnRen R_in_the_way
  rw [show startD 3 [.str (tS t), y, .int (-1)] = [.d (.str (tS t)), .d y, .d (.int (-1))] from rfl]
  simp only [rOr, rCall, rSkip, rIf, rRaise, rNo, sExpr, dCall, aCons, aNil, dVar, dC, d1, List.getElem?_cons_zero, List.getElem?_cons_succ, Option.bind_some, Option.map_some, Option.map_none, xt_good ht, check_traffic_ok ht, xa_bad y h]
theorem c_way2 {t : Nat} (ht : t < 256) {y : PyData} (h : y ∈ badA) : X_in_the_way [.str (tS t), .int 0, y] = some ("InvalidArm" : Str) := by
  unfold X_in_the_way fnRen R_in_the_way
  rw [show startD 3 [.str (tS t), .int 0, y] = [.d (.str (tS t)), .d (.int 0), .d y] from rfl]
  simp only [rOr, rCall, rSkip, rIf, rRaise, rNo, sExpr, dCall, aCons, aNil, dVar, dC, d1, List.getElem?_cons_zero, List.getElem?_cons_succ, Option.bind_some, Option.map_some, Option.map_none, xt_good ht, check_traffic_ok ht, xa_0, ca_0, xa_bad y h]
theorem c_can_join {t : Nat} (ht : t < 256) {y : PyData} (h : y ∈ badA) : X_can_join [.str (tS t), y, .none] = some ("InvalidArm" : Str) := by
  unfold X_can_join fnRen R_can_join
  rw [show startD 5 [.str (tS t), y, .none] = [.d (.str (tS t)), .d y, .d (.none), .un, .un] from rfl]
  simp only [rOr, rCall, rSkip, rIf, rRaise, rNo, sExpr, dCall, aCons, aNil, dVar, dC, d1, List.getElem?_cons_zero, List.getElem?_cons_succ, Option.bind_some, Option.map_some, Option.map_none, xt_good ht, check_traffic_ok ht, xa_bad y h]
theorem c_waits_for {s : Nat} (hs : s < 256) {t : Nat} (ht : t < 256) {y : PyData} (h : y ∈ badA) : X_waits_for [.str (sS s), .str (tS t), y] = some ("InvalidArm" : Str) := by
  unfold X_waits_for fnRen R_waits_for
  rw [show startD 3 [.str (sS s), .str (tS t), y] = [.d (.str (sS s)), .d (.str (tS t)), .d y] from rfl]
  simp only [rOr, rCall, rSkip, rIf, rRaise, rNo, sExpr, dCall, aCons, aNil, dVar, dC, d1, List.getElem?_cons_zero, List.getElem?_cons_succ, Option.bind_some, Option.map_some, Option.map_none, x_both0 hs ht, check_both_ok hs ht, xa_bad y h]
theorem s_rank : ∀ y ∈ badN, X_rank [y, .int (-1)] = some ("InvalidSigns" : Str) := by
  have h : badN.all (fun y => isX (some ("InvalidSigns" : Str)) (X_rank [y, .int (-1)])) = true := by decide +kernel
  exact fun y hy => of_isX (List.all_eq_true.mp h y hy)
theorem s_waits_for : ∀ y ∈ badN, X_waits_for [y, .none, .int (-1)] = some ("InvalidSigns" : Str) := by
  have h : badN.all (fun y => isX (some ("InvalidSigns" : Str)) (X_waits_for [y, .none, .int (-1)])) = true := by decide +kernel
  exact fun y hy => of_isX (List.all_eq_true.mp h y hy)
theorem s_free : ∀ y ∈ badN, X_free [y, .none] = some ("InvalidSigns" : Str) := by
  have h : badN.all (fun y => isX (some ("InvalidSigns" : Str)) (X_free [y, .none])) = true := by decide +kernel
  exact fun y hy => of_isX (List.all_eq_true.mp h y hy)
theorem s_rounds : ∀ y ∈ badN, X_rounds [y, .none] = some ("InvalidSigns" : Str) := by
  have h : badN.all (fun y => isX (some ("InvalidSigns" : Str)) (X_rounds [y, .none])) = true := by decide +kernel
  exact fun y hy => of_isX (List.all_eq_true.mp h y hy)
theorem s_standing : ∀ y ∈ badN, X_standing [y, .none] = some ("InvalidSigns" : Str) := by
  have h : badN.all (fun y => isX (some ("InvalidSigns" : Str)) (X_standing [y, .none])) = true := by decide +kernel
  exact fun y hy => of_isX (List.all_eq_true.mp h y hy)
theorem s_standstills : ∀ y ∈ badN, X_standstills [y] = some ("InvalidSigns" : Str) := by
  have h : badN.all (fun y => isX (some ("InvalidSigns" : Str)) (X_standstills [y])) = true := by decide +kernel
  exact fun y hy => of_isX (List.all_eq_true.mp h y hy)
theorem s_can_stand_still : ∀ y ∈ badN, X_can_stand_still [y] = some ("InvalidSigns" : Str) := by
  have h : badN.all (fun y => isX (some ("InvalidSigns" : Str)) (X_can_stand_still [y])) = true := by decide +kernel
  exact fun y hy => of_isX (List.all_eq_true.mp h y hy)
theorem s_count_by_rounds : ∀ y ∈ badN, X_count_by_rounds [y] = some ("InvalidSigns" : Str) := by
  have h : badN.all (fun y => isX (some ("InvalidSigns" : Str)) (X_count_by_rounds [y])) = true := by decide +kernel
  exact fun y hy => of_isX (List.all_eq_true.mp h y hy)
theorem s_slowest : ∀ y ∈ badN, X_slowest [y] = some ("InvalidSigns" : Str) := by
  have h : badN.all (fun y => isX (some ("InvalidSigns" : Str)) (X_slowest [y])) = true := by decide +kernel
  exact fun y hy => of_isX (List.all_eq_true.mp h y hy)
theorem s_latest_round : ∀ y ∈ badN, X_latest_round [y, .int (-1)] = some ("InvalidSigns" : Str) := by
  have h : badN.all (fun y => isX (some ("InvalidSigns" : Str)) (X_latest_round [y, .int (-1)])) = true := by decide +kernel
  exact fun y hy => of_isX (List.all_eq_true.mp h y hy)
theorem s_with_sign : ∀ y ∈ badN, X_with_sign [y, .int (-1), .none] = some ("InvalidSigns" : Str) := by
  have h : badN.all (fun y => isX (some ("InvalidSigns" : Str)) (X_with_sign [y, .int (-1), .none])) = true := by decide +kernel
  exact fun y hy => of_isX (List.all_eq_true.mp h y hy)
theorem s_fewest_changed : ∀ y ∈ badN, X_fewest_changed [y] = some ("InvalidSigns" : Str) := by
  have h : badN.all (fun y => isX (some ("InvalidSigns" : Str)) (X_fewest_changed [y])) = true := by decide +kernel
  exact fun y hy => of_isX (List.all_eq_true.mp h y hy)
theorem s_first_changed : ∀ y ∈ badN, X_first_changed [y] = some ("InvalidSigns" : Str) := by
  have h : badN.all (fun y => isX (some ("InvalidSigns" : Str)) (X_first_changed [y])) = true := by decide +kernel
  exact fun y hy => of_isX (List.all_eq_true.mp h y hy)
theorem s_needless : ∀ y ∈ badN, X_needless [y] = some ("InvalidSigns" : Str) := by
  have h : badN.all (fun y => isX (some ("InvalidSigns" : Str)) (X_needless [y])) = true := by decide +kernel
  exact fun y hy => of_isX (List.all_eq_true.mp h y hy)
theorem s_agree : ∀ y ∈ badN, X_agree [y, .none] = some ("InvalidSigns" : Str) := by
  have h : badN.all (fun y => isX (some ("InvalidSigns" : Str)) (X_agree [y, .none])) = true := by decide +kernel
  exact fun y hy => of_isX (List.all_eq_true.mp h y hy)
theorem s_parting : ∀ y ∈ badN, X_parting [y, .none] = some ("InvalidSigns" : Str) := by
  have h : badN.all (fun y => isX (some ("InvalidSigns" : Str)) (X_parting [y, .none])) = true := by decide +kernel
  exact fun y hy => of_isX (List.all_eq_true.mp h y hy)
theorem s_alike : ∀ y ∈ badN, X_alike [y] = some ("InvalidSigns" : Str) := by
  have h : badN.all (fun y => isX (some ("InvalidSigns" : Str)) (X_alike [y])) = true := by decide +kernel
  exact fun y hy => of_isX (List.all_eq_true.mp h y hy)
theorem s_plainest : ∀ y ∈ badN, X_plainest [y] = some ("InvalidSigns" : Str) := by
  have h : badN.all (fun y => isX (some ("InvalidSigns" : Str)) (X_plainest [y])) = true := by decide +kernel
  exact fun y hy => of_isX (List.all_eq_true.mp h y hy)
theorem s_turned : ∀ y ∈ badN, X_turned [y] = some ("InvalidSigns" : Str) := by
  have h : badN.all (fun y => isX (some ("InvalidSigns" : Str)) (X_turned [y])) = true := by decide +kernel
  exact fun y hy => of_isX (List.all_eq_true.mp h y hy)
theorem d_in_the_way : ∀ y ∈ badB, X_in_the_way [y, .int (-1), .int (-1)] = some ("InvalidTraffic" : Str) := by
  have h : badB.all (fun y => isX (some ("InvalidTraffic" : Str)) (X_in_the_way [y, .int (-1), .int (-1)])) = true := by decide +kernel
  exact fun y hy => of_isX (List.all_eq_true.mp h y hy)
theorem d_conflicts : ∀ y ∈ badB, X_conflicts [y] = some ("InvalidTraffic" : Str) := by
  have h : badB.all (fun y => isX (some ("InvalidTraffic" : Str)) (X_conflicts [y])) = true := by decide +kernel
  exact fun y hy => of_isX (List.all_eq_true.mp h y hy)
theorem d_can_join : ∀ y ∈ badB, X_can_join [y, .int (-1), .none] = some ("InvalidTraffic" : Str) := by
  have h : badB.all (fun y => isX (some ("InvalidTraffic" : Str)) (X_can_join [y, .int (-1), .none])) = true := by decide +kernel
  exact fun y hy => of_isX (List.all_eq_true.mp h y hy)
theorem d_largest_free : ∀ y ∈ badB, X_largest_free [y] = some ("InvalidTraffic" : Str) := by
  have h : badB.all (fun y => isX (some ("InvalidTraffic" : Str)) (X_largest_free [y])) = true := by decide +kernel
  exact fun y hy => of_isX (List.all_eq_true.mp h y hy)
theorem c_leaves_by : ∀ y ∈ badA, X_leaves_by [y, .none] = some ("InvalidArm" : Str) := by
  have h : badA.all (fun y => isX (some ("InvalidArm" : Str)) (X_leaves_by [y, .none])) = true := by decide +kernel
  exact fun y hy => of_isX (List.all_eq_true.mp h y hy)
theorem c_quarters : ∀ y ∈ badA, X_quarters [y, .none] = some ("InvalidArm" : Str) := by
  have h : badA.all (fun y => isX (some ("InvalidArm" : Str)) (X_quarters [y, .none])) = true := by decide +kernel
  exact fun y hy => of_isX (List.all_eq_true.mp h y hy)
theorem signed_raise {s : Nat} (hs : s < 256) {y : PyData} (h : y ∈ badN) : ∀ p ∈ pks_signed, ∃ ρ, p.R ((pkD [.str (sS s), y] p).map Sl.d) = some (("InvalidSigns" : Str), ρ) := by
  intro p hp
  simp only [pks_signed, List.mem_cons, List.not_mem_nil, or_false] at hp
  rcases hp with rfl | rfl | rfl | rfl | rfl | rfl | rfl | rfl | rfl | rfl | rfl | rfl | rfl | rfl | rfl | rfl | rfl | rfl | rfl | rfl | rfl
  · exact ⟨_, rcall_eq (g := X_rank) (fs := (aCons (dVar 0) (aCons (d1 negP (dC (.int 1))) aNil))) (ρ := [.d (y)]) (s_rank y h) rfl⟩
  · exact ⟨_, rcall_eq (g := X_waits_for) (fs := (aCons (dVar 0) (aCons (dC .none) (aCons (d1 negP (dC (.int 1))) aNil)))) (ρ := [.d (y)]) (s_waits_for y h) rfl⟩
  · exact ⟨_, rcall_eq (g := X_free) (fs := (aCons (dVar 0) (aCons (dC .none) aNil))) (ρ := [.d (y)]) (s_free y h) rfl⟩
  · exact ⟨_, rcall_eq (g := X_rounds) (fs := (aCons (dVar 0) (aCons (dC .none) aNil))) (ρ := [.d (y)]) (s_rounds y h) rfl⟩
  · exact ⟨_, rcall_eq (g := X_standing) (fs := (aCons (dVar 0) (aCons (dC .none) aNil))) (ρ := [.d (y)]) (s_standing y h) rfl⟩
  · exact ⟨_, rcall_eq (g := X_standstills) (fs := (aCons (dVar 0) aNil)) (ρ := [.d (y)]) (s_standstills y h) rfl⟩
  · exact ⟨_, rcall_eq (g := X_can_stand_still) (fs := (aCons (dVar 0) aNil)) (ρ := [.d (y)]) (s_can_stand_still y h) rfl⟩
  · exact ⟨_, rcall_eq (g := X_count_by_rounds) (fs := (aCons (dVar 0) aNil)) (ρ := [.d (y)]) (s_count_by_rounds y h) rfl⟩
  · exact ⟨_, rcall_eq (g := X_slowest) (fs := (aCons (dVar 0) aNil)) (ρ := [.d (y)]) (s_slowest y h) rfl⟩
  · exact ⟨_, rcall_eq (g := X_latest_round) (fs := (aCons (dVar 0) (aCons (d1 negP (dC (.int 1))) aNil))) (ρ := [.d (y)]) (s_latest_round y h) rfl⟩
  · exact ⟨_, rcall_eq (g := X_with_sign) (fs := (aCons (dVar 0) (aCons (d1 negP (dC (.int 1))) (aCons (dC .none) aNil)))) (ρ := [.d (y)]) (s_with_sign y h) rfl⟩
  · exact ⟨_, rcall_eq (g := X_fewest_changed) (fs := (aCons (dVar 0) aNil)) (ρ := [.d (y)]) (s_fewest_changed y h) rfl⟩
  · exact ⟨_, rcall_eq (g := X_first_changed) (fs := (aCons (dVar 0) aNil)) (ρ := [.d (y)]) (s_first_changed y h) rfl⟩
  · exact ⟨_, rcall_eq (g := X_needless) (fs := (aCons (dVar 0) aNil)) (ρ := [.d (y)]) (s_needless y h) rfl⟩
  · exact ⟨_, rcall_eq (g := X_agree) (fs := (aCons (dVar 0) (aCons (dC .none) aNil))) (ρ := [.d (y)]) (s_agree y h) rfl⟩
  · exact ⟨_, rcall_eq (g := X_agree) (fs := (aCons (dVar 0) (aCons (dVar 1) aNil))) (ρ := [.d (.str (sS s)), .d (y)]) (a_agree hs h) rfl⟩
  · exact ⟨_, rcall_eq (g := X_parting) (fs := (aCons (dVar 0) (aCons (dC .none) aNil))) (ρ := [.d (y)]) (s_parting y h) rfl⟩
  · exact ⟨_, rcall_eq (g := X_parting) (fs := (aCons (dVar 0) (aCons (dVar 1) aNil))) (ρ := [.d (.str (sS s)), .d (y)]) (a_parting hs h) rfl⟩
  · exact ⟨_, rcall_eq (g := X_alike) (fs := (aCons (dVar 0) aNil)) (ρ := [.d (y)]) (s_alike y h) rfl⟩
  · exact ⟨_, rcall_eq (g := X_plainest) (fs := (aCons (dVar 0) aNil)) (ρ := [.d (y)]) (s_plainest y h) rfl⟩
  · exact ⟨_, rcall_eq (g := X_turned) (fs := (aCons (dVar 0) aNil)) (ρ := [.d (y)]) (s_turned y h) rfl⟩
theorem driven_raise {s : Nat} (hs : s < 256) {y : PyData} (h : y ∈ badB) : ∀ p ∈ pks_driven, ∃ ρ, p.R ((pkD [.str (sS s), y] p).map Sl.d) = some (("InvalidTraffic" : Str), ρ) := by
  intro p hp
  simp only [pks_driven, List.mem_cons, List.not_mem_nil, or_false] at hp
  rcases hp with rfl | rfl | rfl | rfl | rfl | rfl | rfl | rfl
  · exact ⟨_, rcall_eq (g := X_in_the_way) (fs := (aCons (dVar 0) (aCons (d1 negP (dC (.int 1))) (aCons (d1 negP (dC (.int 1))) aNil)))) (ρ := [.d (y)]) (d_in_the_way y h) rfl⟩
  · exact ⟨_, rcall_eq (g := X_conflicts) (fs := (aCons (dVar 0) aNil)) (ρ := [.d (y)]) (d_conflicts y h) rfl⟩
  · exact ⟨_, rcall_eq (g := X_can_join) (fs := (aCons (dVar 0) (aCons (d1 negP (dC (.int 1))) (aCons (dC .none) aNil)))) (ρ := [.d (y)]) (d_can_join y h) rfl⟩
  · exact ⟨_, rcall_eq (g := X_largest_free) (fs := (aCons (dVar 0) aNil)) (ρ := [.d (y)]) (d_largest_free y h) rfl⟩
  · exact ⟨_, rcall_eq (g := X_waits_for) (fs := (aCons (dVar 0) (aCons (dVar 1) (aCons (d1 negP (dC (.int 1))) aNil)))) (ρ := [.d (.str (sS s)), .d (y)]) (b_waits_for hs h) rfl⟩
  · exact ⟨_, rcall_eq (g := X_free) (fs := (aCons (dVar 0) (aCons (dVar 1) aNil))) (ρ := [.d (.str (sS s)), .d (y)]) (b_free hs h) rfl⟩
  · exact ⟨_, rcall_eq (g := X_rounds) (fs := (aCons (dVar 0) (aCons (dVar 1) aNil))) (ρ := [.d (.str (sS s)), .d (y)]) (b_rounds hs h) rfl⟩
  · exact ⟨_, rcall_eq (g := X_standing) (fs := (aCons (dVar 0) (aCons (dVar 1) aNil))) (ρ := [.d (.str (sS s)), .d (y)]) (b_standing hs h) rfl⟩
theorem armed_raise {s : Nat} (hs : s < 256) {t : Nat} (ht : t < 256) {y : PyData} (h : y ∈ badA) : ∀ p ∈ pks_armed, ∃ ρ, p.R ((pkD [.str (sS s), .str (tS t), y] p).map Sl.d) = some (("InvalidArm" : Str), ρ) := by
  intro p hp
  simp only [pks_armed, List.mem_cons, List.not_mem_nil, or_false] at hp
  rcases hp with rfl | rfl | rfl | rfl | rfl | rfl | rfl | rfl | rfl
  · exact ⟨_, rcall_eq (g := X_rank) (fs := (aCons (dVar 0) (aCons (dVar 1) aNil))) (ρ := [.d (.str (sS s)), .d (y)]) (c_rank hs h) rfl⟩
  · exact ⟨_, rcall_eq (g := X_leaves_by) (fs := (aCons (dVar 0) (aCons (dC .none) aNil))) (ρ := [.d (y)]) (c_leaves_by y h) rfl⟩
  · exact ⟨_, rcall_eq (g := X_quarters) (fs := (aCons (dVar 0) (aCons (dC .none) aNil))) (ρ := [.d (y)]) (c_quarters y h) rfl⟩
  · exact ⟨_, rcall_eq (g := X_in_the_way) (fs := (aCons (dVar 0) (aCons (dVar 1) (aCons (d1 negP (dC (.int 1))) aNil)))) (ρ := [.d (.str (tS t)), .d (y)]) (c_way1 ht h) rfl⟩
  · exact ⟨_, rcall_eq (g := X_in_the_way) (fs := (aCons (dVar 0) (aCons (dC (.int 0)) (aCons (dVar 1) aNil)))) (ρ := [.d (.str (tS t)), .d (y)]) (c_way2 ht h) rfl⟩
  · exact ⟨_, rcall_eq (g := X_can_join) (fs := (aCons (dVar 0) (aCons (dVar 1) (aCons (dC .none) aNil)))) (ρ := [.d (.str (tS t)), .d (y)]) (c_can_join ht h) rfl⟩
  · exact ⟨_, rcall_eq (g := X_waits_for) (fs := (aCons (dVar 0) (aCons (dVar 1) (aCons (dVar 2) aNil)))) (ρ := [.d (.str (sS s)), .d (.str (tS t)), .d (y)]) (c_waits_for hs ht h) rfl⟩
  · exact ⟨_, rcall_eq (g := X_latest_round) (fs := (aCons (dVar 0) (aCons (dVar 1) aNil))) (ρ := [.d (.str (sS s)), .d (y)]) (c_latest_round hs h) rfl⟩
  · exact ⟨_, rcall_eq (g := X_with_sign) (fs := (aCons (dVar 0) (aCons (dVar 1) (aCons (dC .none) aNil)))) (ρ := [.d (.str (sS s)), .d (y)]) (c_with_sign hs h) rfl⟩
def trnD : List PyData := [.none, .str "", .str "U", .str "LS", .str ".", .int 5, .str "l"]
def pstD : List PyData := [.none, .str "", .str "S", .str "PG", .int 5, .str "p"]
theorem l_leaves_by : ∀ y ∈ trnD, X_leaves_by [.int 0, y] = some ("InvalidTurn" : Str) := by
  have h : trnD.all (fun y => isX (some ("InvalidTurn" : Str)) (X_leaves_by [.int 0, y])) = true := by decide +kernel
  exact fun y hy => of_isX (List.all_eq_true.mp h y hy)
theorem l_quarters : ∀ y ∈ trnD, X_quarters [.int 0, y] = some ("InvalidTurn" : Str) := by
  have h : trnD.all (fun y => isX (some ("InvalidTurn" : Str)) (X_quarters [.int 0, y])) = true := by decide +kernel
  exact fun y hy => of_isX (List.all_eq_true.mp h y hy)
theorem l_can_join : ∀ y ∈ trnD, X_can_join [.str "LSR.", .int 0, y] = some ("InvalidTurn" : Str) := by
  have h : trnD.all (fun y => isX (some ("InvalidTurn" : Str)) (X_can_join [.str "LSR.", .int 0, y])) = true := by decide +kernel
  exact fun y hy => of_isX (List.all_eq_true.mp h y hy)
theorem l_way1 : X_in_the_way [.str ".LSR", .int 0, .int 0] = some ("NoVehicle" : Str) := of_isX (by decide +kernel)
theorem l_way2 : X_in_the_way [.str ".LSR", .int 1, .int 0] = some ("NoVehicle" : Str) := of_isX (by decide +kernel)
theorem l_same : X_in_the_way [.str "LSR.", .int 1, .int 1] = some ("SameArm" : Str) := of_isX (by decide +kernel)
theorem l_taken : X_can_join [.str "LSR.", .int 0, .str "L"] = some ("ArmTaken" : Str) := of_isX (by decide +kernel)
theorem l_waits_for {s : Nat} (hs : s < 256) : X_waits_for [.str (sS s), .str "LSR.", .int 3] = some ("NoVehicle" : Str) :=
  of_isX (allB_all (p := fun s => isX (some ("NoVehicle" : Str)) (X_waits_for [.str (sS s), .str "LSR.", .int 3])) (by decide +kernel : allB 256 _ = true) s hs)
theorem l_with_sign {s : Nat} (hs : s < 256) : ∀ y ∈ pstD, X_with_sign [.str (sS s), .int 0, y] = some ("InvalidSign" : Str) := fun y hy =>
  of_isX (List.all_eq_true.mp (allB_all (p := fun s => pstD.all fun y => isX (some ("InvalidSign" : Str)) (X_with_sign [.str (sS s), .int 0, y])) (by decide +kernel : allB 256 _ = true) s hs) y hy)
def isE : Option PyData → Bool
  | some (.list []) => true
  | _ => false
theorem of_isE {x : Option PyData} (h : isE x = true) : x = some (.list []) := by
  cases x with
  | none => cases h
  | some y =>
    cases y with
    | list l => cases l with
      | nil => rfl
      | cons _ _ => cases h
    | _ => cases h
theorem l_rounds {s : Nat} (hs : s < 256) : D_rounds [.str (sS s), .str "...."] = some (.list []) :=
  of_isE (allB_all (p := fun s => isE (D_rounds [.str (sS s), .str "...."])) (by decide +kernel : allB 256 _ = true) s hs)
end Nk26

namespace Nk26
open PySem L2 DL
def Gd : List Sl → Prop := fun ρ => ∃ (ns : List Int) (s t : Nat) (n : Int) (x y z : PyData), s < 256 ∧ t < 256 ∧ x ∈ badN ∧ y ∈ badB ∧ z ∈ badA ∧ ρ = [.d (scr ns), .d (.str (sS s)), .d (.str (tS t)), .d (.int n), .d x, .d y, .d z, .un, .un, .un, .un]
theorem pre_ok (ns : List Int) (hn : ns.length ≤ 63) : ∃ ρ, F_pre (startD 11 [scr ns]) = some (.nx ρ) ∧ Gd ρ := by
  obtain ⟨a, b, c, d, hp⟩ := posts_ok ns 0 (by decide) (by decide) hn
  obtain ⟨a', b', c', d', hc⟩ := cars_ok ns 4 (by decide) (by decide) hn
  obtain ⟨n, hk, k0, k1⟩ := pick_ok ns 8 8 (by decide) (by decide) (by decide) hn
  rw [st4_sS] at hp
  rw [st4_tS] at hc
  have i1 : ∃ x, x ∈ badN ∧ ixP (.tuple badN) (.int n) = some x := by
    rcases lt8 k0 k1 with rfl | rfl | rfl | rfl | rfl | rfl | rfl | rfl <;> exact ⟨_, by simp [badN], rfl⟩
  have i2 : ∃ x, x ∈ badB ∧ ixP (.tuple badB) (.int n) = some x := by
    rcases lt8 k0 k1 with rfl | rfl | rfl | rfl | rfl | rfl | rfl | rfl <;> exact ⟨_, by simp [badB], rfl⟩
  have i3 : ∃ x, x ∈ badA ∧ ixP (.tuple badA) (.int n) = some x := by
    rcases lt8 k0 k1 with rfl | rfl | rfl | rfl | rfl | rfl | rfl | rfl <;> exact ⟨_, by simp [badA], rfl⟩
  obtain ⟨x, hx, ix⟩ := i1
  obtain ⟨y, hy, iy⟩ := i2
  obtain ⟨z, hz, iz⟩ := i3
  refine ⟨_, ?_, ns, pk a b c d, pk a' b' c' d', n, x, y, z, pk_lt _ _ _ _, pk_lt _ _ _ _, hx, hy, hz, rfl⟩
  have t1 : ∀ ρ, (dTup (aCons (dC .none) (aCons (dC (.str "")) (aCons (dC (.str "PG-")) (aCons (dC (.str "PG-TT")) (aCons (dC (.str "PG-S")) (aCons (dC (.str "pg-t")) (aCons (dC (.int 5)) (aCons (dL (aSmall (aCons (dC (.str "P")) (aCons (dC (.str "P")) (aCons (dC (.str "P")) (aCons (dC (.str "P")) aNil)))))) aNil))))))))) ρ = some (.tuple badN) := fun ρ => rfl
  have t2 : ∀ ρ, (dTup (aCons (dC .none) (aCons (dC (.str "")) (aCons (dC (.str "LSR")) (aCons (dC (.str "LSR..")) (aCons (dC (.str "LSRU")) (aCons (dC (.str "lsr.")) (aCons (dC (.int 5)) (aCons (dL (aSmall (aCons (dC (.str "L")) (aCons (dC (.str "S")) (aCons (dC (.str "R")) (aCons (dC (.str ".")) aNil)))))) aNil))))))))) ρ = some (.tuple badB) := fun ρ => rfl
  have t3 : ∀ ρ, (dTup (aCons (dC .none) (aCons (d1 negP (dC (.int 1))) (aCons (dC (.int 4)) (aCons (dC (.bool true)) (aCons (dC (.str "0")) (aCons (dTup (aCons (dC (.int 0)) aNil)) (aCons (dL (aSmall (aCons (dC (.int 0)) aNil))) (aCons (dC (.int 99)) aNil))))))))) ρ = some (.tuple badA) := fun ρ => rfl
  rw [show startD 11 [scr ns] = [.d (scr ns), .un, .un, .un, .un, .un, .un, .un, .un, .un, .un] from rfl]
  unfold F_pre
  simp only [sSeq, sMulti, mD, mNil, setsD, sSet, sSkip, d2, dCall, aCons, aNil, dVar, t1, t2, t3, List.getElem?_cons_zero, List.getElem?_cons_succ, Option.bind_some, Option.map_some, List.set]
  simp only [dC, Option.bind_some, Option.map_some, hp, hc, hk, ix, iy, iz, List.length_cons, List.length_nil, if_true, setsD, List.getElem?_cons_zero, List.getElem?_cons_succ, List.set]
end Nk26

namespace Nk26
open PySem PySem.Spec PyProof.Rows L2 DL LamX NdefX
open L2H (RoomH PinOk cxH inv_startH roomH_of)
def xsT : List L2.V := [.non, .str "", .str "U", .str "LS", .str ".", .int 5, .str "l"]
def xsP : List L2.V := [.non, .str "", .str "S", .str "PG", .int 5, .str "p"]
theorem turn_pkd {K : PySem.W.Frag} {V : Hp} {σ : L2.St} {v : L2.V} (h : σ[7]? = some (some v)) (hv : v ∈ xsT) : ∀ p ∈ pks_turn, PkD K V σ "InvalidTurn" p := by
  have hd : ∃ d ∈ trnD, Dq K V v d := by
    simp only [xsT, List.mem_cons, List.not_mem_nil, or_false] at hv
    rcases hv with rfl | rfl | rfl | rfl | rfl | rfl | rfl
    · exact ⟨.none, by simp [trnD], .non⟩
    · exact ⟨.str "", by simp [trnD], .str _⟩
    · exact ⟨.str "U", by simp [trnD], .str _⟩
    · exact ⟨.str "LS", by simp [trnD], .str _⟩
    · exact ⟨.str ".", by simp [trnD], .str _⟩
    · exact ⟨.int 5, by simp [trnD], .int _⟩
    · exact ⟨.str "l", by simp [trnD], .str _⟩
  obtain ⟨d, hd, dq⟩ := hd
  intro p hp
  simp only [pks_turn, List.mem_cons, List.not_mem_nil, or_false] at hp
  rcases hp with rfl | rfl | rfl
  · exact pkd_one h dq (l_leaves_by d hd) rfl
  · exact pkd_one h dq (l_quarters d hd) rfl
  · exact pkd_one h dq (l_can_join d hd) rfl
theorem empty_pkd {K : PySem.W.Frag} {V : Hp} {σ : L2.St} {v : L2.V} {s : Nat} (hs : s < 256) (h : σ[1]? = some (some v)) (dq : Dq K V v (.str (sS s))) : ∀ p ∈ pks_empty, PkD K V σ "NoVehicle" p := by
  intro p hp
  simp only [pks_empty, List.mem_cons, List.not_mem_nil, or_false] at hp
  rcases hp with rfl | rfl | rfl
  · exact pkd_no l_way1 rfl
  · exact pkd_no l_way2 rfl
  · exact pkd_one h dq (l_waits_for hs) rfl
theorem same_pkd {K : PySem.W.Frag} {V : Hp} {σ : L2.St} : ∀ p ∈ pks_same, PkD K V σ "SameArm" p := by
  intro p hp
  simp only [pks_same, List.mem_cons, List.not_mem_nil, or_false] at hp
  subst hp
  exact pkd_no l_same rfl
theorem taken_pkd {K : PySem.W.Frag} {V : Hp} {σ : L2.St} : ∀ p ∈ pks_taken, PkD K V σ "ArmTaken" p := by
  intro p hp
  simp only [pks_taken, List.mem_cons, List.not_mem_nil, or_false] at hp
  subst hp
  exact pkd_no l_taken rfl
theorem post_pkd {K : PySem.W.Frag} {V : Hp} {σ : L2.St} {v u : L2.V} {s : Nat} (hs : s < 256) (h : σ[1]? = some (some v)) (dq : Dq K V v (.str (sS s))) (h2 : σ[10]? = some (some u)) (hu : u ∈ xsP) : ∀ p ∈ pks_post, PkD K V σ "InvalidSign" p := by
  have hd : ∃ d ∈ pstD, Dq K V u d := by
    simp only [xsP, List.mem_cons, List.not_mem_nil, or_false] at hu
    rcases hu with rfl | rfl | rfl | rfl | rfl | rfl
    · exact ⟨.none, by simp [pstD], .non⟩
    · exact ⟨.str "", by simp [pstD], .str _⟩
    · exact ⟨.str "S", by simp [pstD], .str _⟩
    · exact ⟨.str "PG", by simp [pstD], .str _⟩
    · exact ⟨.int 5, by simp [pstD], .int _⟩
    · exact ⟨.str "p", by simp [pstD], .str _⟩
  obtain ⟨d, hd, dq2⟩ := hd
  intro p hp
  simp only [pks_post, List.mem_cons, List.not_mem_nil, or_false] at hp
  subst hp
  exact pkd_two h dq h2 dq2 (l_with_sign hs d hd) rfl
section
variable {P : Program} {w : World} {K : PySem.W.Frag} {mg : Str → Option Value} {base : Heap}
variable {TT : List NTab} {a c Pt : Addr} {A : Around} {outer : List Env} {s : Shared} {H : Hp} {E : XK} {V : Hp} {vp vc vn vb va : L2.V} {s0 t0 : Nat} {x y u : PyData} {aa as_ ad ar : Addr} {fda fds fdd fdr : FuncData}
theorem law_4 (T : Tx w K mg) (hr : Room 10 (A.deeper (envOfC "law" (defScope (topS 84)) s.heap.objs.size a (.ref c)))) (z : NoZ V) (hs : s0 < 256) (dp : Dq K V vp (.str (sS s0))) (ha : FnAt K mg "_law_all" (topS 80) ["calls", "name"] aa fda) (hs_ : FnAt K mg "_law_signed" (topS 81) ["posts", "no"] as_ fds) (Fs : FnOk P w K mg base CX0 1 as_ fds ["posts", "no"] (spMk P w K mg base 7 2 TT pks_signed)) (hd_ : FnAt K mg "_law_driven" (topS 82) ["posts", "no"] ad fdd) (Fd : FnOk P w K mg base CX0 1 ad fdd ["posts", "no"] (spMk P w K mg base 7 2 TT pks_driven)) (dn : Dq K V vn x) (hx : x ∈ badN) (db : Dq K V vb y) (hy : y ∈ badB) : PS (cxOf CX0 P w K mg base ["script", "posts", "cars", "at", "no", "bad", "arm", "turn", "calls", "empty", "post"] "law" (defScope (topS 84)) a (.ref c) A outer s H E).nox (stA 84 4) (pS (LW TT V 11 [(1, vp), (2, vc), (4, vn), (5, vb), (6, va)])) :=
  ps_ifI (ct_or (ct_not (pe_mkr (vs := [vp, vn]) (ds := [.str (sS s0), x]) (iok_LW z) z (by simp [cls]) (ok__law_all T ha) hr (by rfl) ha.g ha.F.kp ha.b Fs (hr.mono (by decide)) (by rfl) hs_.g hs_.F.kp hs_.b rfl (by decide) (.cons dp (.cons dn .nil)) (signed_raise hs hx) (pa_cons (pv 1) (pa_cons (pv 4) pa_nil)) (fun σ H Q l q => ⟨vp, l.at_ (1, vp) (by simp), vn, l.at_ (4, vn) (by simp), q⟩))) (ct_not (pe_mkr (vs := [vp, vb]) (ds := [.str (sS s0), y]) (iok_LW z) z (by simp [cls]) (ok__law_all T ha) hr (by rfl) ha.g ha.F.kp ha.b Fd (hr.mono (by decide)) (by rfl) hd_.g hd_.F.kp hd_.b rfl (by decide) (.cons dp (.cons db .nil)) (driven_raise hs hy) (pa_cons (pv 1) (pa_cons (pv 5) pa_nil)) (fun σ H Q l q => ⟨vp, l.at_ (1, vp) (by simp), vb, l.at_ (5, vb) (by simp), q⟩))))
theorem law_5 (T : Tx w K mg) (hr : Room 10 (A.deeper (envOfC "law" (defScope (topS 84)) s.heap.objs.size a (.ref c)))) (z : NoZ V) (hs : s0 < 256) (dp : Dq K V vp (.str (sS s0))) (ha : FnAt K mg "_law_all" (topS 80) ["calls", "name"] aa fda) (hr_ : FnAt K mg "_law_armed" (topS 83) ["posts", "cars", "no"] ar fdr) (Fr : FnOk P w K mg base CX0 1 ar fdr ["posts", "cars", "no"] (spMk P w K mg base 7 3 TT pks_armed)) (dc : Dq K V vc (.str (tS t0))) (ht : t0 < 256) (da : Dq K V va u) (hz : u ∈ badA) : PS (cxOf CX0 P w K mg base ["script", "posts", "cars", "at", "no", "bad", "arm", "turn", "calls", "empty", "post"] "law" (defScope (topS 84)) a (.ref c) A outer s H E).nox (stA 84 5) (pS (LW TT V 11 [(1, vp), (2, vc), (4, vn), (5, vb), (6, va)])) :=
  ps_ifI (ct_not (pe_mkr (vs := [vp, vc, va]) (ds := [.str (sS s0), .str (tS t0), u]) (iok_LW z) z (by simp [cls]) (ok__law_all T ha) hr (by rfl) ha.g ha.F.kp ha.b Fr (hr.mono (by decide)) (by rfl) hr_.g hr_.F.kp hr_.b rfl (by decide) (.cons dp (.cons dc (.cons da .nil))) (armed_raise hs ht hz) (pa_cons (pv 1) (pa_cons (pv 2) (pa_cons (pv 6) pa_nil))) (fun σ H Q l q => ⟨vp, l.at_ (1, vp) (by simp), vc, l.at_ (2, vc) (by simp), va, l.at_ (6, va) (by simp), q⟩)))
theorem law_6 (T : Tx w K mg) (hr : Room 10 (A.deeper (envOfC "law" (defScope (topS 84)) s.heap.objs.size a (.ref c)))) (z : NoZ V) (hs : s0 < 256) (dp : Dq K V vp (.str (sS s0))) (ha : FnAt K mg "_law_all" (topS 80) ["calls", "name"] aa fda) (TB : LamX.TabB base mg c Pt) (hm : (Pt, nm26) ∈ TT) (hu : ∀ p ∈ TT, p.1 = Pt → p.2 = nm26) : PS (cxOf CX0 P w K mg base ["script", "posts", "cars", "at", "no", "bad", "arm", "turn", "calls", "empty", "post"] "law" (defScope (topS 84)) a (.ref c) A outer s H E).nox (stA 84 6) (pS (LW TT V 11 [(1, vp), (2, vc), (4, vn), (5, vb), (6, va)])) := by
  have nd := (sc_law).nd
  refine ps_forI (i := 7) (xs := xsT) z (by simp) (by decide) PassesOwn.never rfl (pe_tup (pa_cons pe_non (pa_cons pe_str (pa_cons pe_str (pa_cons pe_str (pa_cons pe_str (pa_cons pe_int (pa_cons pe_str pa_nil)))))))) (fun σ H Q h => ⟨line_of (by simp), h⟩) nd rfl (by first | exact .inl rfl | exact .inr rfl) fun V2 e2 z2 v hv => ?_
  exact aft_new z2 (by simp) (by decide) (mk_new (i := 8) nd rfl (by first | exact .inl rfl | exact .inr rfl) (pe_lm TB rfl hm rfl hu rfl (ndef_free (fr := pk_law_0.fr) (by kernel_rfl))))
    (aft_app z2 (by simp) (mk_app (p2 := ⟨0, 0, 0, 0⟩) (pv 8) (pe_lm TB rfl hm rfl hu rfl (ndef_free (fr := pk_law_1.fr) (by kernel_rfl))))
    (aft_app z2 (by simp) (mk_app (p2 := ⟨0, 0, 0, 0⟩) (pv 8) (pe_lm TB rfl hm rfl hu rfl (ndef_free (fr := pk_law_2.fr) (by kernel_rfl))))
    (aft_if z2 (ct_not (pe_slot z2 (by simp) (by simp [cls]) (fun _ => rfl) rfl (pks_turn_ok T) (ok__law_all T ha) hr (by rfl) ha.g ha.F.kp ha.b (pv 8) (fun σ H l => turn_pkd (l.at_ (7, v) (by simp)) hv))))))
theorem law_11 (T : Tx w K mg) (hr : Room 10 (A.deeper (envOfC "law" (defScope (topS 84)) s.heap.objs.size a (.ref c)))) (z : NoZ V) (hs : s0 < 256) (dp : Dq K V vp (.str (sS s0))) (ha : FnAt K mg "_law_all" (topS 80) ["calls", "name"] aa fda) (TB : LamX.TabB base mg c Pt) (hm : (Pt, nm26) ∈ TT) (hu : ∀ p ∈ TT, p.1 = Pt → p.2 = nm26) : PS (cxOf CX0 P w K mg base ["script", "posts", "cars", "at", "no", "bad", "arm", "turn", "calls", "empty", "post"] "law" (defScope (topS 84)) a (.ref c) A outer s H E).nox (stA 84 11) (pS (LW TT V 11 [(1, vp), (2, vc), (4, vn), (5, vb), (6, va)])) := by
  have nd := (sc_law).nd
  refine ps_forI (i := 10) (xs := xsP) z (by simp) (by decide) PassesOwn.never rfl (pe_tup (pa_cons pe_non (pa_cons pe_str (pa_cons pe_str (pa_cons pe_str (pa_cons pe_int (pa_cons pe_str pa_nil))))))) (fun σ H Q h => ⟨line_of (by simp), h⟩) nd rfl (by first | exact .inl rfl | exact .inr rfl) fun V2 e2 z2 v hv => ?_
  exact pss_one (ps_ifI (ct_not (pe_inl (p5 := ⟨0, 0, 0, 0⟩) (p6 := ⟨0, 0, 0, 0⟩) (iok_LW z2) z2 (by simp [cls]) (fun _ => rfl) rfl (pks_post_ok T) (ok__law_all T ha) hr (by rfl) ha.g ha.F.kp ha.b (pe_lm TB rfl hm rfl hu rfl (ndef_free (fr := pk_law_7.fr) (by kernel_rfl))) (fun σ H l => post_pkd hs (l.at_ (1, vp) (by simp)) (dp_mono e2 dp) (l.at_ (10, v) (by simp)) hv))))
theorem law_12 (T : Tx w K mg) (hr : Room 10 (A.deeper (envOfC "law" (defScope (topS 84)) s.heap.objs.size a (.ref c)))) (z : NoZ V) (hs : s0 < 256) (dp : Dq K V vp (.str (sS s0))) (ha : FnAt K mg "_law_all" (topS 80) ["calls", "name"] aa fda) (TB : LamX.TabB base mg c Pt) (hm : (Pt, nm26) ∈ TT) (hu : ∀ p ∈ TT, p.1 = Pt → p.2 = nm26) : PSs (cxOf CX0 P w K mg base ["script", "posts", "cars", "at", "no", "bad", "arm", "turn", "calls", "empty", "post"] "law" (defScope (topS 84)) a (.ref c) A outer s H E).nox [stA 84 12] (rS (LW TT V 11 [(1, vp), (2, vc), (4, vn), (5, vb), (6, va)])) := by
  obtain ⟨a_rounds, fd_rounds, h_rounds⟩ := T.h_rounds
  refine ps_retI (rest' := []) (pe_inl (p5 := ⟨0, 0, 0, 0⟩) (p6 := ⟨0, 0, 0, 0⟩) (iok_LW z) z (by simp [cls]) (fun _ => rfl) rfl (pks_taken_ok T) (ok__law_all T ha) hr (by rfl) ha.g ha.F.kp ha.b (pe_lm TB rfl hm rfl hu rfl (ndef_free (fr := pk_law_8.fr) (by kernel_rfl))) (fun σ H l => taken_pkd)) (de_cmp (op_eqD hr.units) od_eq (de_call (ok_rounds T h_rounds) (hr.mono (by decide)) (by rfl) h_rounds.g h_rounds.F.kp h_rounds.b rfl (da_cons (de_var (pv 1)) (da_cons de_str da_nil)) (aCons_len (aCons_len aNil_len))) (de_lst da_nil) (nomark _)) (fun σ H Q l q => ?_)
  refine ⟨V, Bs.of H, V, [.un, .d (.str (sS s0))], .bool true, env_of l.ex (by rw [l.len]; simp) (fun i t e => ?_), ?_, fun v V' H' g dq => by cases dq; exact q H'⟩
  · match i, e with
    | 0, e => exact .inl (Option.some.inj e).symm
    | 1, e => exact .inr ⟨_, vp, (Option.some.inj e).symm, l.at_ (1, vp) (by simp), dp⟩
  · simp only [d2, dCall, aCons, dVar, dC, aNil, dL, aSmall, List.getElem?_cons_zero, List.getElem?_cons_succ, Option.bind_some, Option.map_some, l_rounds hs]
    rfl
theorem law_7 (T : Tx w K mg) (hr : Room 10 (A.deeper (envOfC "law" (defScope (topS 84)) s.heap.objs.size a (.ref c)))) (z : NoZ V) (hs : s0 < 256) (dp : Dq K V vp (.str (sS s0))) (ha : FnAt K mg "_law_all" (topS 80) ["calls", "name"] aa fda) (TB : LamX.TabB base mg c Pt) (hm : (Pt, nm26) ∈ TT) (hu : ∀ p ∈ TT, p.1 = Pt → p.2 = nm26) : PSs (cxOf CX0 P w K mg base ["script", "posts", "cars", "at", "no", "bad", "arm", "turn", "calls", "empty", "post"] "law" (defScope (topS 84)) a (.ref c) A outer s H E).nox ((defBody (topS 84)).drop 7) (rS (LW TT V 11 [(1, vp), (2, vc), (4, vn), (5, vb), (6, va)])) := by
  have nd := (sc_law).nd
  exact aft_newR z (by simp) (by decide) (mk_new (i := 9) nd rfl (by first | exact .inl rfl | exact .inr rfl) (pe_lm TB rfl hm rfl hu rfl (ndef_free (fr := pk_law_3.fr) (by kernel_rfl))))
    (aft_appR z (by simp) (mk_app (p2 := ⟨0, 0, 0, 0⟩) (pv 9) (pe_lm TB rfl hm rfl hu rfl (ndef_free (fr := pk_law_4.fr) (by kernel_rfl))))
    (aft_appR z (by simp) (mk_app (p2 := ⟨0, 0, 0, 0⟩) (pv 9) (pe_lm TB rfl hm rfl hu rfl (ndef_free (fr := pk_law_5.fr) (by kernel_rfl))))
    (aft_ifR z (ct_or (ct_not (pe_slot z (by simp) (by simp [cls]) (fun _ => rfl) rfl (pks_empty_ok T) (ok__law_all T ha) hr (by rfl) ha.g ha.F.kp ha.b (pv 9) (fun σ H l => empty_pkd hs (l.at_ (1, vp) (by simp)) dp)))
      (ct_not (pe_inl (p5 := ⟨0, 0, 0, 0⟩) (p6 := ⟨0, 0, 0, 0⟩) (iok_LL z) z (by simp [cls]) (fun _ => rfl) rfl (pks_same_ok T) (ok__law_all T ha) hr (by rfl) ha.g ha.F.kp ha.b (pe_lm TB rfl hm rfl hu rfl (ndef_free (fr := pk_law_6.fr) (by kernel_rfl))) (fun σ H l => same_pkd))))
    (pI_cons (law_11 T hr z hs dp ha TB hm hu) (law_12 T hr z hs dp ha TB hm hu)))))
theorem ok_law (T : Tx w K mg) {fd : FuncData} (h : FnAt K mg "law" (topS 84) ["script"] a fd) (hcode : fd.code = .ref c) (ha : FnAt K mg "_law_all" (topS 80) ["calls", "name"] aa fda) (hs_ : FnAt K mg "_law_signed" (topS 81) ["posts", "no"] as_ fds) (Fs : FnOk P w K mg base CX0 1 as_ fds ["posts", "no"] (spMk P w K mg base 7 2 TT pks_signed)) (hd_ : FnAt K mg "_law_driven" (topS 82) ["posts", "no"] ad fdd) (Fd : FnOk P w K mg base CX0 1 ad fdd ["posts", "no"] (spMk P w K mg base 7 2 TT pks_driven)) (hr_ : FnAt K mg "_law_armed" (topS 83) ["posts", "cars", "no"] ar fdr) (Fr : FnOk P w K mg base CX0 1 ar fdr ["posts", "cars", "no"] (spMk P w K mg base 7 3 TT pks_armed)) (TB : LamX.TabB base mg c Pt) (hm : (Pt, nm26) ∈ TT) (hu : ∀ p ∈ TT, p.1 = Pt → p.2 = nm26) : FnOk P w K mg base CX0 11 a fd ["script"] (spLw K TT) := by
  obtain ⟨a__law_posts, fd__law_posts, h__law_posts⟩ := T.h__law_posts
  obtain ⟨a__law_cars, fd__law_cars, h__law_cars⟩ := T.h__law_cars
  obtain ⟨a__law_pick, fd__law_pick, h__law_pick⟩ := T.h__law_pick
  have nd := (sc_law).nd
  refine fnLw (k := 10) (F := F_pre) (Gd := Gd) h.F hcode sc_law pre_ok fun A outer s H E hr => ?_
  exact (dk_cons (ds_multi (n := 3) rfl (dm_d (de_call (ok__law_posts T h__law_posts) (hr.mono (by decide)) (by rfl) h__law_posts.g h__law_posts.F.kp h__law_posts.b rfl (da_cons (de_var (pv 0)) (da_cons de_int da_nil)) (aCons_len (aCons_len aNil_len))) (dm_d (de_call (ok__law_cars T h__law_cars) (hr.mono (by decide)) (by rfl) h__law_cars.g h__law_cars.F.kp h__law_cars.b rfl (da_cons (de_var (pv 0)) (da_cons de_int da_nil)) (aCons_len (aCons_len aNil_len))) (dm_d (de_call (ok__law_pick T h__law_pick) (hr.mono (by decide)) (by rfl) h__law_pick.g h__law_pick.F.kp h__law_pick.b rfl (da_cons (de_var (pv 0)) (da_cons de_int (da_cons de_int da_nil))) (aCons_len (aCons_len (aCons_len aNil_len)))) dm_nil))) (dgn_cons (pg_name (i := 1) nd rfl (by first | exact .inl rfl | exact .inr rfl)) (dgn_cons (pg_name (i := 2) nd rfl (by first | exact .inl rfl | exact .inr rfl)) (dgn_cons (pg_name (i := 3) nd rfl (by first | exact .inl rfl | exact .inr rfl)) dgn_nil))))
    (dk_cons (ds_set (i := 4) nd rfl (by first | exact .inl rfl | exact .inr rfl) (de_ix ix_seq od_ix (de_tup (da_cons de_non (da_cons de_str (da_cons de_str (da_cons de_str (da_cons de_str (da_cons de_str (da_cons de_int (da_cons (de_lst (da_cons de_str (da_cons de_str (da_cons de_str (da_cons de_str da_nil))))) da_nil))))))))) (de_var (pv 3)) (fun _ _ => rfl)))
    (dk_cons (ds_set (i := 5) nd rfl (by first | exact .inl rfl | exact .inr rfl) (de_ix ix_seq od_ix (de_tup (da_cons de_non (da_cons de_str (da_cons de_str (da_cons de_str (da_cons de_str (da_cons de_str (da_cons de_int (da_cons (de_lst (da_cons de_str (da_cons de_str (da_cons de_str (da_cons de_str da_nil))))) da_nil))))))))) (de_var (pv 3)) (fun _ _ => rfl)))
    (dk_cons (ds_set (i := 6) nd rfl (by first | exact .inl rfl | exact .inr rfl) (de_ix ix_seq od_ix (de_tup (da_cons de_non (da_cons (de_un un_neg ud_neg de_int) (da_cons de_int (da_cons de_bl (da_cons de_str (da_cons (de_tup (da_cons de_int da_nil)) (da_cons (de_lst (da_cons de_int da_nil)) (da_cons de_int da_nil))))))))) (de_var (pv 3)) (fun _ _ => rfl)))
    (dk_end ⟨fun pins s' σ H' D I ⟨V, ρ, z, ex, tab, ⟨ns, s0, t0, n, x, y, u, hs, ht, hx, hy, hz, e⟩, at_, q⟩ => by
    subst e
    obtain ⟨vp, p1, dp⟩ := at_ 1 _ rfl
    obtain ⟨vc, p2, dc⟩ := at_ 2 _ rfl
    obtain ⟨vn, p4, dn⟩ := at_ 4 _ rfl
    obtain ⟨vb, p5, db⟩ := at_ 5 _ rfl
    obtain ⟨va, p6, da⟩ := at_ 6 _ rfl
    exact (pI_cons (law_4 T hr z hs dp ha hs_ Fs hd_ Fd dn hx db hy) (pI_cons (law_5 T hr z hs dp ha hr_ Fr dc ht da hz) (pI_cons (law_6 T hr z hs dp ha TB hm hu) (law_7 T hr z hs dp ha TB hm hu)))).run pins s' σ H' D I ⟨⟨I.len, fun p hp => by
      simp only [List.mem_cons, List.not_mem_nil, or_false] at hp
      rcases hp with rfl | rfl | rfl | rfl | rfl
      · exact p1
      · exact p2
      · exact p4
      · exact p5
      · exact p6, ex, tab⟩, q⟩⟩)))))
end
end Nk26

namespace Nk26
open PySem PySem.Spec PyProof.Rows L2 DL
theorem tx_mk {w : World} {K : PySem.W.Frag} {hh : Heap} {mg : Str → Option Value} (X : K.In hh) (G : hh.Ns mainGlobals mg)
    {f0 : Addr} {od0 an0 : Option Addr} {sl0 : Array (Option Value)} {oc0 kV0 dc0 pm0 cd0 ct0 : Value} (a0 : PySem.W.nsIn K mainGlobals "is_signs" = some (some (.ref f0))) (l0 : K.lookup f0 = some ⟨oc0, od0, .func (PySem.W.fnOf "is_signs" "is_signs" (defArgs (topS 17)) (defBody (topS 17)) (defScope (topS 17)) .none kV0 dc0 pm0 an0 cd0 ct0), sl0⟩) (c0 : PySem.W.codeIn K cd0 "is_signs" = true) (k0 : PySem.W.keepIn K (.ref f0) = true)
    {f1 : Addr} {od1 an1 : Option Addr} {sl1 : Array (Option Value)} {oc1 kV1 dc1 pm1 cd1 ct1 : Value} (a1 : PySem.W.nsIn K mainGlobals "is_traffic" = some (some (.ref f1))) (l1 : K.lookup f1 = some ⟨oc1, od1, .func (PySem.W.fnOf "is_traffic" "is_traffic" (defArgs (topS 18)) (defBody (topS 18)) (defScope (topS 18)) .none kV1 dc1 pm1 an1 cd1 ct1), sl1⟩) (c1 : PySem.W.codeIn K cd1 "is_traffic" = true) (k1 : PySem.W.keepIn K (.ref f1) = true)
    {f2 : Addr} {od2 an2 : Option Addr} {sl2 : Array (Option Value)} {oc2 kV2 dc2 pm2 cd2 ct2 : Value} (a2 : PySem.W.nsIn K mainGlobals "check_signs" = some (some (.ref f2))) (l2 : K.lookup f2 = some ⟨oc2, od2, .func (PySem.W.fnOf "check_signs" "check_signs" (defArgs (topS 19)) (defBody (topS 19)) (defScope (topS 19)) .none kV2 dc2 pm2 an2 cd2 ct2), sl2⟩) (c2 : PySem.W.codeIn K cd2 "check_signs" = true) (k2 : PySem.W.keepIn K (.ref f2) = true)
    {f3 : Addr} {od3 an3 : Option Addr} {sl3 : Array (Option Value)} {oc3 kV3 dc3 pm3 cd3 ct3 : Value} (a3 : PySem.W.nsIn K mainGlobals "check_traffic" = some (some (.ref f3))) (l3 : K.lookup f3 = some ⟨oc3, od3, .func (PySem.W.fnOf "check_traffic" "check_traffic" (defArgs (topS 20)) (defBody (topS 20)) (defScope (topS 20)) .none kV3 dc3 pm3 an3 cd3 ct3), sl3⟩) (c3 : PySem.W.codeIn K cd3 "check_traffic" = true) (k3 : PySem.W.keepIn K (.ref f3) = true)
    {f4 : Addr} {od4 an4 : Option Addr} {sl4 : Array (Option Value)} {oc4 kV4 dc4 pm4 cd4 ct4 : Value} (a4 : PySem.W.nsIn K mainGlobals "check_arm" = some (some (.ref f4))) (l4 : K.lookup f4 = some ⟨oc4, od4, .func (PySem.W.fnOf "check_arm" "check_arm" (defArgs (topS 21)) (defBody (topS 21)) (defScope (topS 21)) .none kV4 dc4 pm4 an4 cd4 ct4), sl4⟩) (c4 : PySem.W.codeIn K cd4 "check_arm" = true) (k4 : PySem.W.keepIn K (.ref f4) = true)
    {f5 : Addr} {od5 an5 : Option Addr} {sl5 : Array (Option Value)} {oc5 kV5 dc5 pm5 cd5 ct5 : Value} (a5 : PySem.W.nsIn K mainGlobals "check_turn" = some (some (.ref f5))) (l5 : K.lookup f5 = some ⟨oc5, od5, .func (PySem.W.fnOf "check_turn" "check_turn" (defArgs (topS 22)) (defBody (topS 22)) (defScope (topS 22)) .none kV5 dc5 pm5 an5 cd5 ct5), sl5⟩) (c5 : PySem.W.codeIn K cd5 "check_turn" = true) (k5 : PySem.W.keepIn K (.ref f5) = true)
    {f6 : Addr} {od6 an6 : Option Addr} {sl6 : Array (Option Value)} {oc6 kV6 dc6 pm6 cd6 ct6 : Value} (a6 : PySem.W.nsIn K mainGlobals "find_rank" = some (some (.ref f6))) (l6 : K.lookup f6 = some ⟨oc6, od6, .func (PySem.W.fnOf "find_rank" "find_rank" (defArgs (topS 23)) (defBody (topS 23)) (defScope (topS 23)) .none kV6 dc6 pm6 an6 cd6 ct6), sl6⟩) (c6 : PySem.W.codeIn K cd6 "find_rank" = true) (k6 : PySem.W.keepIn K (.ref f6) = true)
    {f7 : Addr} {od7 an7 : Option Addr} {sl7 : Array (Option Value)} {oc7 kV7 dc7 pm7 cd7 ct7 : Value} (a7 : PySem.W.nsIn K mainGlobals "rank" = some (some (.ref f7))) (l7 : K.lookup f7 = some ⟨oc7, od7, .func (PySem.W.fnOf "rank" "rank" (defArgs (topS 24)) (defBody (topS 24)) (defScope (topS 24)) .none kV7 dc7 pm7 an7 cd7 ct7), sl7⟩) (c7 : PySem.W.codeIn K cd7 "rank" = true) (k7 : PySem.W.keepIn K (.ref f7) = true)
    {f8 : Addr} {od8 an8 : Option Addr} {sl8 : Array (Option Value)} {oc8 kV8 dc8 pm8 cd8 ct8 : Value} (a8 : PySem.W.nsIn K mainGlobals "leaves_by" = some (some (.ref f8))) (l8 : K.lookup f8 = some ⟨oc8, od8, .func (PySem.W.fnOf "leaves_by" "leaves_by" (defArgs (topS 25)) (defBody (topS 25)) (defScope (topS 25)) .none kV8 dc8 pm8 an8 cd8 ct8), sl8⟩) (c8 : PySem.W.codeIn K cd8 "leaves_by" = true) (k8 : PySem.W.keepIn K (.ref f8) = true)
    {f9 : Addr} {od9 an9 : Option Addr} {sl9 : Array (Option Value)} {oc9 kV9 dc9 pm9 cd9 ct9 : Value} (a9 : PySem.W.nsIn K mainGlobals "find_quarters" = some (some (.ref f9))) (l9 : K.lookup f9 = some ⟨oc9, od9, .func (PySem.W.fnOf "find_quarters" "find_quarters" (defArgs (topS 26)) (defBody (topS 26)) (defScope (topS 26)) .none kV9 dc9 pm9 an9 cd9 ct9), sl9⟩) (c9 : PySem.W.codeIn K cd9 "find_quarters" = true) (k9 : PySem.W.keepIn K (.ref f9) = true)
    {f10 : Addr} {od10 an10 : Option Addr} {sl10 : Array (Option Value)} {oc10 kV10 dc10 pm10 cd10 ct10 : Value} (a10 : PySem.W.nsIn K mainGlobals "quarters" = some (some (.ref f10))) (l10 : K.lookup f10 = some ⟨oc10, od10, .func (PySem.W.fnOf "quarters" "quarters" (defArgs (topS 27)) (defBody (topS 27)) (defScope (topS 27)) .none kV10 dc10 pm10 an10 cd10 ct10), sl10⟩) (c10 : PySem.W.codeIn K cd10 "quarters" = true) (k10 : PySem.W.keepIn K (.ref f10) = true)
    {f11 : Addr} {od11 an11 : Option Addr} {sl11 : Array (Option Value)} {oc11 kV11 dc11 pm11 cd11 ct11 : Value} (a11 : PySem.W.nsIn K mainGlobals "find_vehicles" = some (some (.ref f11))) (l11 : K.lookup f11 = some ⟨oc11, od11, .func (PySem.W.fnOf "find_vehicles" "find_vehicles" (defArgs (topS 28)) (defBody (topS 28)) (defScope (topS 28)) .none kV11 dc11 pm11 an11 cd11 ct11), sl11⟩) (c11 : PySem.W.codeIn K cd11 "find_vehicles" = true) (k11 : PySem.W.keepIn K (.ref f11) = true)
    {f12 : Addr} {od12 an12 : Option Addr} {sl12 : Array (Option Value)} {oc12 kV12 dc12 pm12 cd12 ct12 : Value} (a12 : PySem.W.nsIn K mainGlobals "do_meet" = some (some (.ref f12))) (l12 : K.lookup f12 = some ⟨oc12, od12, .func (PySem.W.fnOf "do_meet" "do_meet" (defArgs (topS 31)) (defBody (topS 31)) (defScope (topS 31)) .none kV12 dc12 pm12 an12 cd12 ct12), sl12⟩) (c12 : PySem.W.codeIn K cd12 "do_meet" = true) (k12 : PySem.W.keepIn K (.ref f12) = true)
    {f13 : Addr} {od13 an13 : Option Addr} {sl13 : Array (Option Value)} {oc13 kV13 dc13 pm13 cd13 ct13 : Value} (a13 : PySem.W.nsIn K mainGlobals "check_vehicle" = some (some (.ref f13))) (l13 : K.lookup f13 = some ⟨oc13, od13, .func (PySem.W.fnOf "check_vehicle" "check_vehicle" (defArgs (topS 32)) (defBody (topS 32)) (defScope (topS 32)) .none kV13 dc13 pm13 an13 cd13 ct13), sl13⟩) (c13 : PySem.W.codeIn K cd13 "check_vehicle" = true) (k13 : PySem.W.keepIn K (.ref f13) = true)
    {f14 : Addr} {od14 an14 : Option Addr} {sl14 : Array (Option Value)} {oc14 kV14 dc14 pm14 cd14 ct14 : Value} (a14 : PySem.W.nsIn K mainGlobals "in_the_way" = some (some (.ref f14))) (l14 : K.lookup f14 = some ⟨oc14, od14, .func (PySem.W.fnOf "in_the_way" "in_the_way" (defArgs (topS 33)) (defBody (topS 33)) (defScope (topS 33)) .none kV14 dc14 pm14 an14 cd14 ct14), sl14⟩) (c14 : PySem.W.codeIn K cd14 "in_the_way" = true) (k14 : PySem.W.keepIn K (.ref f14) = true)
    {f15 : Addr} {od15 an15 : Option Addr} {sl15 : Array (Option Value)} {oc15 kV15 dc15 pm15 cd15 ct15 : Value} (a15 : PySem.W.nsIn K mainGlobals "conflicts" = some (some (.ref f15))) (l15 : K.lookup f15 = some ⟨oc15, od15, .func (PySem.W.fnOf "conflicts" "conflicts" (defArgs (topS 34)) (defBody (topS 34)) (defScope (topS 34)) .none kV15 dc15 pm15 an15 cd15 ct15), sl15⟩) (c15 : PySem.W.codeIn K cd15 "conflicts" = true) (k15 : PySem.W.keepIn K (.ref f15) = true)
    {f16 : Addr} {od16 an16 : Option Addr} {sl16 : Array (Option Value)} {oc16 kV16 dc16 pm16 cd16 ct16 : Value} (a16 : PySem.W.nsIn K mainGlobals "can_join" = some (some (.ref f16))) (l16 : K.lookup f16 = some ⟨oc16, od16, .func (PySem.W.fnOf "can_join" "can_join" (defArgs (topS 35)) (defBody (topS 35)) (defScope (topS 35)) .none kV16 dc16 pm16 an16 cd16 ct16), sl16⟩) (c16 : PySem.W.codeIn K cd16 "can_join" = true) (k16 : PySem.W.keepIn K (.ref f16) = true)
    {f17 : Addr} {od17 an17 : Option Addr} {sl17 : Array (Option Value)} {oc17 kV17 dc17 pm17 cd17 ct17 : Value} (a17 : PySem.W.nsIn K mainGlobals "largest_free" = some (some (.ref f17))) (l17 : K.lookup f17 = some ⟨oc17, od17, .func (PySem.W.fnOf "largest_free" "largest_free" (defArgs (topS 36)) (defBody (topS 36)) (defScope (topS 36)) .none kV17 dc17 pm17 an17 cd17 ct17), sl17⟩) (c17 : PySem.W.codeIn K cd17 "largest_free" = true) (k17 : PySem.W.keepIn K (.ref f17) = true)
    {f18 : Addr} {od18 an18 : Option Addr} {sl18 : Array (Option Value)} {oc18 kV18 dc18 pm18 cd18 ct18 : Value} (a18 : PySem.W.nsIn K mainGlobals "does_wait" = some (some (.ref f18))) (l18 : K.lookup f18 = some ⟨oc18, od18, .func (PySem.W.fnOf "does_wait" "does_wait" (defArgs (topS 38)) (defBody (topS 38)) (defScope (topS 38)) .none kV18 dc18 pm18 an18 cd18 ct18), sl18⟩) (c18 : PySem.W.codeIn K cd18 "does_wait" = true) (k18 : PySem.W.keepIn K (.ref f18) = true)
    {f19 : Addr} {od19 an19 : Option Addr} {sl19 : Array (Option Value)} {oc19 kV19 dc19 pm19 cd19 ct19 : Value} (a19 : PySem.W.nsIn K mainGlobals "find_waits" = some (some (.ref f19))) (l19 : K.lookup f19 = some ⟨oc19, od19, .func (PySem.W.fnOf "find_waits" "find_waits" (defArgs (topS 39)) (defBody (topS 39)) (defScope (topS 39)) .none kV19 dc19 pm19 an19 cd19 ct19), sl19⟩) (c19 : PySem.W.codeIn K cd19 "find_waits" = true) (k19 : PySem.W.keepIn K (.ref f19) = true)
    {f20 : Addr} {od20 an20 : Option Addr} {sl20 : Array (Option Value)} {oc20 kV20 dc20 pm20 cd20 ct20 : Value} (a20 : PySem.W.nsIn K mainGlobals "check_both" = some (some (.ref f20))) (l20 : K.lookup f20 = some ⟨oc20, od20, .func (PySem.W.fnOf "check_both" "check_both" (defArgs (topS 40)) (defBody (topS 40)) (defScope (topS 40)) .none kV20 dc20 pm20 an20 cd20 ct20), sl20⟩) (c20 : PySem.W.codeIn K cd20 "check_both" = true) (k20 : PySem.W.keepIn K (.ref f20) = true)
    {f21 : Addr} {od21 an21 : Option Addr} {sl21 : Array (Option Value)} {oc21 kV21 dc21 pm21 cd21 ct21 : Value} (a21 : PySem.W.nsIn K mainGlobals "waits_for" = some (some (.ref f21))) (l21 : K.lookup f21 = some ⟨oc21, od21, .func (PySem.W.fnOf "waits_for" "waits_for" (defArgs (topS 41)) (defBody (topS 41)) (defScope (topS 41)) .none kV21 dc21 pm21 an21 cd21 ct21), sl21⟩) (c21 : PySem.W.codeIn K cd21 "waits_for" = true) (k21 : PySem.W.keepIn K (.ref f21) = true)
    {f22 : Addr} {od22 an22 : Option Addr} {sl22 : Array (Option Value)} {oc22 kV22 dc22 pm22 cd22 ct22 : Value} (a22 : PySem.W.nsIn K mainGlobals "find_free" = some (some (.ref f22))) (l22 : K.lookup f22 = some ⟨oc22, od22, .func (PySem.W.fnOf "find_free" "find_free" (defArgs (topS 42)) (defBody (topS 42)) (defScope (topS 42)) .none kV22 dc22 pm22 an22 cd22 ct22), sl22⟩) (c22 : PySem.W.codeIn K cd22 "find_free" = true) (k22 : PySem.W.keepIn K (.ref f22) = true)
    {f23 : Addr} {od23 an23 : Option Addr} {sl23 : Array (Option Value)} {oc23 kV23 dc23 pm23 cd23 ct23 : Value} (a23 : PySem.W.nsIn K mainGlobals "free" = some (some (.ref f23))) (l23 : K.lookup f23 = some ⟨oc23, od23, .func (PySem.W.fnOf "free" "free" (defArgs (topS 43)) (defBody (topS 43)) (defScope (topS 43)) .none kV23 dc23 pm23 an23 cd23 ct23), sl23⟩) (c23 : PySem.W.codeIn K cd23 "free" = true) (k23 : PySem.W.keepIn K (.ref f23) = true)
    {f24 : Addr} {od24 an24 : Option Addr} {sl24 : Array (Option Value)} {oc24 kV24 dc24 pm24 cd24 ct24 : Value} (a24 : PySem.W.nsIn K mainGlobals "run" = some (some (.ref f24))) (l24 : K.lookup f24 = some ⟨oc24, od24, .func (PySem.W.fnOf "run" "run" (defArgs (topS 44)) (defBody (topS 44)) (defScope (topS 44)) .none kV24 dc24 pm24 an24 cd24 ct24), sl24⟩) (c24 : PySem.W.codeIn K cd24 "run" = true) (k24 : PySem.W.keepIn K (.ref f24) = true)
    {f25 : Addr} {od25 an25 : Option Addr} {sl25 : Array (Option Value)} {oc25 kV25 dc25 pm25 cd25 ct25 : Value} (a25 : PySem.W.nsIn K mainGlobals "rounds" = some (some (.ref f25))) (l25 : K.lookup f25 = some ⟨oc25, od25, .func (PySem.W.fnOf "rounds" "rounds" (defArgs (topS 45)) (defBody (topS 45)) (defScope (topS 45)) .none kV25 dc25 pm25 an25 cd25 ct25), sl25⟩) (c25 : PySem.W.codeIn K cd25 "rounds" = true) (k25 : PySem.W.keepIn K (.ref f25) = true)
    {f26 : Addr} {od26 an26 : Option Addr} {sl26 : Array (Option Value)} {oc26 kV26 dc26 pm26 cd26 ct26 : Value} (a26 : PySem.W.nsIn K mainGlobals "standing" = some (some (.ref f26))) (l26 : K.lookup f26 = some ⟨oc26, od26, .func (PySem.W.fnOf "standing" "standing" (defArgs (topS 46)) (defBody (topS 46)) (defScope (topS 46)) .none kV26 dc26 pm26 an26 cd26 ct26), sl26⟩) (c26 : PySem.W.codeIn K cd26 "standing" = true) (k26 : PySem.W.keepIn K (.ref f26) = true)
    {f27 : Addr} {od27 an27 : Option Addr} {sl27 : Array (Option Value)} {oc27 kV27 dc27 pm27 cd27 ct27 : Value} (a27 : PySem.W.nsIn K mainGlobals "standstills" = some (some (.ref f27))) (l27 : K.lookup f27 = some ⟨oc27, od27, .func (PySem.W.fnOf "standstills" "standstills" (defArgs (topS 50)) (defBody (topS 50)) (defScope (topS 50)) .none kV27 dc27 pm27 an27 cd27 ct27), sl27⟩) (c27 : PySem.W.codeIn K cd27 "standstills" = true) (k27 : PySem.W.keepIn K (.ref f27) = true)
    {f28 : Addr} {od28 an28 : Option Addr} {sl28 : Array (Option Value)} {oc28 kV28 dc28 pm28 cd28 ct28 : Value} (a28 : PySem.W.nsIn K mainGlobals "can_stand_still" = some (some (.ref f28))) (l28 : K.lookup f28 = some ⟨oc28, od28, .func (PySem.W.fnOf "can_stand_still" "can_stand_still" (defArgs (topS 52)) (defBody (topS 52)) (defScope (topS 52)) .none kV28 dc28 pm28 an28 cd28 ct28), sl28⟩) (c28 : PySem.W.codeIn K cd28 "can_stand_still" = true) (k28 : PySem.W.keepIn K (.ref f28) = true)
    {f29 : Addr} {od29 an29 : Option Addr} {sl29 : Array (Option Value)} {oc29 kV29 dc29 pm29 cd29 ct29 : Value} (a29 : PySem.W.nsIn K mainGlobals "count_by_rounds" = some (some (.ref f29))) (l29 : K.lookup f29 = some ⟨oc29, od29, .func (PySem.W.fnOf "count_by_rounds" "count_by_rounds" (defArgs (topS 53)) (defBody (topS 53)) (defScope (topS 53)) .none kV29 dc29 pm29 an29 cd29 ct29), sl29⟩) (c29 : PySem.W.codeIn K cd29 "count_by_rounds" = true) (k29 : PySem.W.keepIn K (.ref f29) = true)
    {f30 : Addr} {od30 an30 : Option Addr} {sl30 : Array (Option Value)} {oc30 kV30 dc30 pm30 cd30 ct30 : Value} (a30 : PySem.W.nsIn K mainGlobals "slowest" = some (some (.ref f30))) (l30 : K.lookup f30 = some ⟨oc30, od30, .func (PySem.W.fnOf "slowest" "slowest" (defArgs (topS 54)) (defBody (topS 54)) (defScope (topS 54)) .none kV30 dc30 pm30 an30 cd30 ct30), sl30⟩) (c30 : PySem.W.codeIn K cd30 "slowest" = true) (k30 : PySem.W.keepIn K (.ref f30) = true)
    {f31 : Addr} {od31 an31 : Option Addr} {sl31 : Array (Option Value)} {oc31 kV31 dc31 pm31 cd31 ct31 : Value} (a31 : PySem.W.nsIn K mainGlobals "latest_round" = some (some (.ref f31))) (l31 : K.lookup f31 = some ⟨oc31, od31, .func (PySem.W.fnOf "latest_round" "latest_round" (defArgs (topS 55)) (defBody (topS 55)) (defScope (topS 55)) .none kV31 dc31 pm31 an31 cd31 ct31), sl31⟩) (c31 : PySem.W.codeIn K cd31 "latest_round" = true) (k31 : PySem.W.keepIn K (.ref f31) = true)
    {f32 : Addr} {od32 an32 : Option Addr} {sl32 : Array (Option Value)} {oc32 kV32 dc32 pm32 cd32 ct32 : Value} (a32 : PySem.W.nsIn K mainGlobals "with_sign" = some (some (.ref f32))) (l32 : K.lookup f32 = some ⟨oc32, od32, .func (PySem.W.fnOf "with_sign" "with_sign" (defArgs (topS 59)) (defBody (topS 59)) (defScope (topS 59)) .none kV32 dc32 pm32 an32 cd32 ct32), sl32⟩) (c32 : PySem.W.codeIn K cd32 "with_sign" = true) (k32 : PySem.W.keepIn K (.ref f32) = true)
    {f33 : Addr} {od33 an33 : Option Addr} {sl33 : Array (Option Value)} {oc33 kV33 dc33 pm33 cd33 ct33 : Value} (a33 : PySem.W.nsIn K mainGlobals "fewest_changed" = some (some (.ref f33))) (l33 : K.lookup f33 = some ⟨oc33, od33, .func (PySem.W.fnOf "fewest_changed" "fewest_changed" (defArgs (topS 61)) (defBody (topS 61)) (defScope (topS 61)) .none kV33 dc33 pm33 an33 cd33 ct33), sl33⟩) (c33 : PySem.W.codeIn K cd33 "fewest_changed" = true) (k33 : PySem.W.keepIn K (.ref f33) = true)
    {f34 : Addr} {od34 an34 : Option Addr} {sl34 : Array (Option Value)} {oc34 kV34 dc34 pm34 cd34 ct34 : Value} (a34 : PySem.W.nsIn K mainGlobals "first_changed" = some (some (.ref f34))) (l34 : K.lookup f34 = some ⟨oc34, od34, .func (PySem.W.fnOf "first_changed" "first_changed" (defArgs (topS 62)) (defBody (topS 62)) (defScope (topS 62)) .none kV34 dc34 pm34 an34 cd34 ct34), sl34⟩) (c34 : PySem.W.codeIn K cd34 "first_changed" = true) (k34 : PySem.W.keepIn K (.ref f34) = true)
    {f35 : Addr} {od35 an35 : Option Addr} {sl35 : Array (Option Value)} {oc35 kV35 dc35 pm35 cd35 ct35 : Value} (a35 : PySem.W.nsIn K mainGlobals "needless" = some (some (.ref f35))) (l35 : K.lookup f35 = some ⟨oc35, od35, .func (PySem.W.fnOf "needless" "needless" (defArgs (topS 64)) (defBody (topS 64)) (defScope (topS 64)) .none kV35 dc35 pm35 an35 cd35 ct35), sl35⟩) (c35 : PySem.W.codeIn K cd35 "needless" = true) (k35 : PySem.W.keepIn K (.ref f35) = true)
    {f36 : Addr} {od36 an36 : Option Addr} {sl36 : Array (Option Value)} {oc36 kV36 dc36 pm36 cd36 ct36 : Value} (a36 : PySem.W.nsIn K mainGlobals "check_two" = some (some (.ref f36))) (l36 : K.lookup f36 = some ⟨oc36, od36, .func (PySem.W.fnOf "check_two" "check_two" (defArgs (topS 66)) (defBody (topS 66)) (defScope (topS 66)) .none kV36 dc36 pm36 an36 cd36 ct36), sl36⟩) (c36 : PySem.W.codeIn K cd36 "check_two" = true) (k36 : PySem.W.keepIn K (.ref f36) = true)
    {f37 : Addr} {od37 an37 : Option Addr} {sl37 : Array (Option Value)} {oc37 kV37 dc37 pm37 cd37 ct37 : Value} (a37 : PySem.W.nsIn K mainGlobals "agree" = some (some (.ref f37))) (l37 : K.lookup f37 = some ⟨oc37, od37, .func (PySem.W.fnOf "agree" "agree" (defArgs (topS 67)) (defBody (topS 67)) (defScope (topS 67)) .none kV37 dc37 pm37 an37 cd37 ct37), sl37⟩) (c37 : PySem.W.codeIn K cd37 "agree" = true) (k37 : PySem.W.keepIn K (.ref f37) = true)
    {f38 : Addr} {od38 an38 : Option Addr} {sl38 : Array (Option Value)} {oc38 kV38 dc38 pm38 cd38 ct38 : Value} (a38 : PySem.W.nsIn K mainGlobals "parting" = some (some (.ref f38))) (l38 : K.lookup f38 = some ⟨oc38, od38, .func (PySem.W.fnOf "parting" "parting" (defArgs (topS 68)) (defBody (topS 68)) (defScope (topS 68)) .none kV38 dc38 pm38 an38 cd38 ct38), sl38⟩) (c38 : PySem.W.codeIn K cd38 "parting" = true) (k38 : PySem.W.keepIn K (.ref f38) = true)
    {f39 : Addr} {od39 an39 : Option Addr} {sl39 : Array (Option Value)} {oc39 kV39 dc39 pm39 cd39 ct39 : Value} (a39 : PySem.W.nsIn K mainGlobals "alike" = some (some (.ref f39))) (l39 : K.lookup f39 = some ⟨oc39, od39, .func (PySem.W.fnOf "alike" "alike" (defArgs (topS 71)) (defBody (topS 71)) (defScope (topS 71)) .none kV39 dc39 pm39 an39 cd39 ct39), sl39⟩) (c39 : PySem.W.codeIn K cd39 "alike" = true) (k39 : PySem.W.keepIn K (.ref f39) = true)
    {f40 : Addr} {od40 an40 : Option Addr} {sl40 : Array (Option Value)} {oc40 kV40 dc40 pm40 cd40 ct40 : Value} (a40 : PySem.W.nsIn K mainGlobals "plainest" = some (some (.ref f40))) (l40 : K.lookup f40 = some ⟨oc40, od40, .func (PySem.W.fnOf "plainest" "plainest" (defArgs (topS 72)) (defBody (topS 72)) (defScope (topS 72)) .none kV40 dc40 pm40 an40 cd40 ct40), sl40⟩) (c40 : PySem.W.codeIn K cd40 "plainest" = true) (k40 : PySem.W.keepIn K (.ref f40) = true)
    {f41 : Addr} {od41 an41 : Option Addr} {sl41 : Array (Option Value)} {oc41 kV41 dc41 pm41 cd41 ct41 : Value} (a41 : PySem.W.nsIn K mainGlobals "turned" = some (some (.ref f41))) (l41 : K.lookup f41 = some ⟨oc41, od41, .func (PySem.W.fnOf "turned" "turned" (defArgs (topS 73)) (defBody (topS 73)) (defScope (topS 73)) .none kV41 dc41 pm41 an41 cd41 ct41), sl41⟩) (c41 : PySem.W.codeIn K cd41 "turned" = true) (k41 : PySem.W.keepIn K (.ref f41) = true)
    {f42 : Addr} {od42 an42 : Option Addr} {sl42 : Array (Option Value)} {oc42 kV42 dc42 pm42 cd42 ct42 : Value} (a42 : PySem.W.nsIn K mainGlobals "_law_pick" = some (some (.ref f42))) (l42 : K.lookup f42 = some ⟨oc42, od42, .func (PySem.W.fnOf "_law_pick" "_law_pick" (defArgs (topS 75)) (defBody (topS 75)) (defScope (topS 75)) .none kV42 dc42 pm42 an42 cd42 ct42), sl42⟩) (c42 : PySem.W.codeIn K cd42 "_law_pick" = true) (k42 : PySem.W.keepIn K (.ref f42) = true)
    {f43 : Addr} {od43 an43 : Option Addr} {sl43 : Array (Option Value)} {oc43 kV43 dc43 pm43 cd43 ct43 : Value} (a43 : PySem.W.nsIn K mainGlobals "_law_posts" = some (some (.ref f43))) (l43 : K.lookup f43 = some ⟨oc43, od43, .func (PySem.W.fnOf "_law_posts" "_law_posts" (defArgs (topS 76)) (defBody (topS 76)) (defScope (topS 76)) .none kV43 dc43 pm43 an43 cd43 ct43), sl43⟩) (c43 : PySem.W.codeIn K cd43 "_law_posts" = true) (k43 : PySem.W.keepIn K (.ref f43) = true)
    {f44 : Addr} {od44 an44 : Option Addr} {sl44 : Array (Option Value)} {oc44 kV44 dc44 pm44 cd44 ct44 : Value} (a44 : PySem.W.nsIn K mainGlobals "_law_cars" = some (some (.ref f44))) (l44 : K.lookup f44 = some ⟨oc44, od44, .func (PySem.W.fnOf "_law_cars" "_law_cars" (defArgs (topS 77)) (defBody (topS 77)) (defScope (topS 77)) .none kV44 dc44 pm44 an44 cd44 ct44), sl44⟩) (c44 : PySem.W.codeIn K cd44 "_law_cars" = true) (k44 : PySem.W.keepIn K (.ref f44) = true)
    {f45 : Addr} {od45 an45 : Option Addr} {sl45 : Array (Option Value)} {oc45 kV45 dc45 pm45 cd45 ct45 : Value} (a45 : PySem.W.nsIn K mainGlobals "_law_class" = some (some (.ref f45))) (l45 : K.lookup f45 = some ⟨oc45, od45, .func (PySem.W.fnOf "_law_class" "_law_class" (defArgs (topS 78)) (defBody (topS 78)) (defScope (topS 78)) .none kV45 dc45 pm45 an45 cd45 ct45), sl45⟩) (c45 : PySem.W.codeIn K cd45 "_law_class" = true) (k45 : PySem.W.keepIn K (.ref f45) = true)
    {f46 : Addr} {od46 an46 : Option Addr} {sl46 : Array (Option Value)} {oc46 kV46 dc46 pm46 cd46 ct46 : Value} (a46 : PySem.W.nsIn K mainGlobals "_law_result" = some (some (.ref f46))) (l46 : K.lookup f46 = some ⟨oc46, od46, .func (PySem.W.fnOf "_law_result" "_law_result" (defArgs (topS 79)) (defBody (topS 79)) (defScope (topS 79)) .none kV46 dc46 pm46 an46 cd46 ct46), sl46⟩) (c46 : PySem.W.codeIn K cd46 "_law_result" = true) (k46 : PySem.W.keepIn K (.ref f46) = true)
    {f47 : Addr} {od47 an47 : Option Addr} {sl47 : Array (Option Value)} {oc47 kV47 dc47 pm47 cd47 ct47 : Value} (a47 : PySem.W.nsIn K mainGlobals "_law_all" = some (some (.ref f47))) (l47 : K.lookup f47 = some ⟨oc47, od47, .func (PySem.W.fnOf "_law_all" "_law_all" (defArgs (topS 80)) (defBody (topS 80)) (defScope (topS 80)) .none kV47 dc47 pm47 an47 cd47 ct47), sl47⟩) (c47 : PySem.W.codeIn K cd47 "_law_all" = true) (k47 : PySem.W.keepIn K (.ref f47) = true)
    {f48 : Addr} {od48 an48 : Option Addr} {sl48 : Array (Option Value)} {oc48 kV48 dc48 pm48 cd48 ct48 : Value} (a48 : PySem.W.nsIn K mainGlobals "_law_signed" = some (some (.ref f48))) (l48 : K.lookup f48 = some ⟨oc48, od48, .func (PySem.W.fnOf "_law_signed" "_law_signed" (defArgs (topS 81)) (defBody (topS 81)) (defScope (topS 81)) .none kV48 dc48 pm48 an48 cd48 ct48), sl48⟩) (c48 : PySem.W.codeIn K cd48 "_law_signed" = true) (k48 : PySem.W.keepIn K (.ref f48) = true)
    {f49 : Addr} {od49 an49 : Option Addr} {sl49 : Array (Option Value)} {oc49 kV49 dc49 pm49 cd49 ct49 : Value} (a49 : PySem.W.nsIn K mainGlobals "_law_driven" = some (some (.ref f49))) (l49 : K.lookup f49 = some ⟨oc49, od49, .func (PySem.W.fnOf "_law_driven" "_law_driven" (defArgs (topS 82)) (defBody (topS 82)) (defScope (topS 82)) .none kV49 dc49 pm49 an49 cd49 ct49), sl49⟩) (c49 : PySem.W.codeIn K cd49 "_law_driven" = true) (k49 : PySem.W.keepIn K (.ref f49) = true)
    {f50 : Addr} {od50 an50 : Option Addr} {sl50 : Array (Option Value)} {oc50 kV50 dc50 pm50 cd50 ct50 : Value} (a50 : PySem.W.nsIn K mainGlobals "_law_armed" = some (some (.ref f50))) (l50 : K.lookup f50 = some ⟨oc50, od50, .func (PySem.W.fnOf "_law_armed" "_law_armed" (defArgs (topS 83)) (defBody (topS 83)) (defScope (topS 83)) .none kV50 dc50 pm50 an50 cd50 ct50), sl50⟩) (c50 : PySem.W.codeIn K cd50 "_law_armed" = true) (k50 : PySem.W.keepIn K (.ref f50) = true)
    {f51 : Addr} {od51 an51 : Option Addr} {sl51 : Array (Option Value)} {oc51 kV51 dc51 pm51 cd51 ct51 : Value} (a51 : PySem.W.nsIn K mainGlobals "law" = some (some (.ref f51))) (l51 : K.lookup f51 = some ⟨oc51, od51, .func (PySem.W.fnOf "law" "law" (defArgs (topS 84)) (defBody (topS 84)) (defScope (topS 84)) .none kV51 dc51 pm51 an51 cd51 ct51), sl51⟩) (c51 : PySem.W.codeIn K cd51 "law" = true) (k51 : PySem.W.keepIn K (.ref f51) = true)
    (z_ValueError : PySem.W.nsIn K mainGlobals "ValueError" = some none)
    (z_all : PySem.W.nsIn K mainGlobals "all" = some none)
    (z_any : PySem.W.nsIn K mainGlobals "any" = some none)
    (z_bool : PySem.W.nsIn K mainGlobals "bool" = some none)
    (z_enumerate : PySem.W.nsIn K mainGlobals "enumerate" = some none)
    (z_int : PySem.W.nsIn K mainGlobals "int" = some none)
    (z_isinstance : PySem.W.nsIn K mainGlobals "isinstance" = some none)
    (z_len : PySem.W.nsIn K mainGlobals "len" = some none)
    (z_max : PySem.W.nsIn K mainGlobals "max" = some none)
    (z_range : PySem.W.nsIn K mainGlobals "range" = some none)
    (z_sorted : PySem.W.nsIn K mainGlobals "sorted" = some none)
    (z_str : PySem.W.nsIn K mainGlobals "str" = some none)
    {t_EMPTY : Tok} (w_EMPTY : PySem.W.nsIn K mainGlobals "EMPTY" = some (some (.str "." t_EMPTY)))
    {t_LEFT : Tok} (w_LEFT : PySem.W.nsIn K mainGlobals "LEFT" = some (some (.str "L" t_LEFT)))
    {t_MANY : Tok} (w_MANY : PySem.W.nsIn K mainGlobals "MANY" = some (some (.int 4 t_MANY)))
    {t_NONE : Tok} (w_NONE : PySem.W.nsIn K mainGlobals "NONE" = some (some (.str "-" t_NONE)))
    {t_SIGNS : Tok} (w_SIGNS : PySem.W.nsIn K mainGlobals "SIGNS" = some (some (.str "P-GT" t_SIGNS)))
    {t_TURNS : Tok} (w_TURNS : PySem.W.nsIn K mainGlobals "TURNS" = some (some (.str "LSR" t_TURNS)))
    {p_RANKS : Addr} (w_RANKS : PySem.W.nsIn K mainGlobals "RANKS" = some (some (.ref p_RANKS)))
    {es_RANKS : Array DictEntry} {n_RANKS : Nat} (x_RANKS : K.lookup p_RANKS = some ⟨.type "dict", none, .dict es_RANKS n_RANKS, #[]⟩) (y_RANKS : PySem.W.KeysLit w.params es_RANKS.toList)
    {t_RANKS0 : Tok} (e_RANKS0 : PySem.W.nsIn K p_RANKS "P" = some (some (.int 2 t_RANKS0)))
    {t_RANKS1 : Tok} (e_RANKS1 : PySem.W.nsIn K p_RANKS "-" = some (some (.int 1 t_RANKS1)))
    {t_RANKS2 : Tok} (e_RANKS2 : PySem.W.nsIn K p_RANKS "G" = some (some (.int 0 t_RANKS2)))
    {t_RANKS3 : Tok} (e_RANKS3 : PySem.W.nsIn K p_RANKS "T" = some (some (.int 0 t_RANKS3)))
    {D_ArmTaken : Addr} (w_ArmTaken : PySem.W.nsIn K mainGlobals "ArmTaken" = some (some (.ref D_ArmTaken)))
    (qhg_ArmTaken : PySem.W.findIn K (.ref D_ArmTaken) "__getattribute__" = some (some (.builtin "BaseException.__getattribute__")))
    (qhk_ArmTaken : PySem.W.findIn K (.ref D_ArmTaken) "__getattr__" = some none)
    (qhs_ArmTaken : PySem.W.subIn K (.ref D_ArmTaken) (.type "BaseException") = some true)
    (qhd_ArmTaken : PySem.W.hasDictIn K D_ArmTaken = true)
    (qha_ArmTaken : PySem.W.findIn K (.ref D_ArmTaken) "__class__" = some (some (.builtin "object.__class__")))
    (qhn_ArmTaken : PySem.W.specialIn K (.builtin "object.__class__") "__get__" = some (some (.builtin "getset_descriptor.__get__")))
    (qht_ArmTaken : PySem.W.takesIn K (.builtin "object.__class__") = some true)
    (qhm_ArmTaken : PySem.W.mroIn K D_ArmTaken (.type "object") = some true)
    (qex_ArmTaken : PySem.W.excIn K D_ArmTaken [.type "ValueError", .type "Exception", .type "BaseException", .type "object"] "ValueError.__new__" = true)
    (qkp_ArmTaken : PySem.W.keepIn K (.ref D_ArmTaken) = true)
    (qty_ArmTaken : PySem.W.typeIn K (.ref D_ArmTaken) = some (.type "type"))
    {D_CrossError : Addr} (w_CrossError : PySem.W.nsIn K mainGlobals "CrossError" = some (some (.ref D_CrossError)))
    (qhg_CrossError : PySem.W.findIn K (.ref D_CrossError) "__getattribute__" = some (some (.builtin "BaseException.__getattribute__")))
    (qhk_CrossError : PySem.W.findIn K (.ref D_CrossError) "__getattr__" = some none)
    (qhs_CrossError : PySem.W.subIn K (.ref D_CrossError) (.type "BaseException") = some true)
    (qhd_CrossError : PySem.W.hasDictIn K D_CrossError = true)
    (qha_CrossError : PySem.W.findIn K (.ref D_CrossError) "__class__" = some (some (.builtin "object.__class__")))
    (qhn_CrossError : PySem.W.specialIn K (.builtin "object.__class__") "__get__" = some (some (.builtin "getset_descriptor.__get__")))
    (qht_CrossError : PySem.W.takesIn K (.builtin "object.__class__") = some true)
    (qhm_CrossError : PySem.W.mroIn K D_CrossError (.type "object") = some true)
    (qex_CrossError : PySem.W.excIn K D_CrossError [.type "ValueError", .type "Exception", .type "BaseException", .type "object"] "ValueError.__new__" = true)
    (qkp_CrossError : PySem.W.keepIn K (.ref D_CrossError) = true)
    (qty_CrossError : PySem.W.typeIn K (.ref D_CrossError) = some (.type "type"))
    {D_InvalidArm : Addr} (w_InvalidArm : PySem.W.nsIn K mainGlobals "InvalidArm" = some (some (.ref D_InvalidArm)))
    (qhg_InvalidArm : PySem.W.findIn K (.ref D_InvalidArm) "__getattribute__" = some (some (.builtin "BaseException.__getattribute__")))
    (qhk_InvalidArm : PySem.W.findIn K (.ref D_InvalidArm) "__getattr__" = some none)
    (qhs_InvalidArm : PySem.W.subIn K (.ref D_InvalidArm) (.type "BaseException") = some true)
    (qhd_InvalidArm : PySem.W.hasDictIn K D_InvalidArm = true)
    (qha_InvalidArm : PySem.W.findIn K (.ref D_InvalidArm) "__class__" = some (some (.builtin "object.__class__")))
    (qhn_InvalidArm : PySem.W.specialIn K (.builtin "object.__class__") "__get__" = some (some (.builtin "getset_descriptor.__get__")))
    (qht_InvalidArm : PySem.W.takesIn K (.builtin "object.__class__") = some true)
    (qhm_InvalidArm : PySem.W.mroIn K D_InvalidArm (.type "object") = some true)
    (qex_InvalidArm : PySem.W.excIn K D_InvalidArm [.type "ValueError", .type "Exception", .type "BaseException", .type "object"] "ValueError.__new__" = true)
    (qkp_InvalidArm : PySem.W.keepIn K (.ref D_InvalidArm) = true)
    (qty_InvalidArm : PySem.W.typeIn K (.ref D_InvalidArm) = some (.type "type"))
    {D_InvalidSign : Addr} (w_InvalidSign : PySem.W.nsIn K mainGlobals "InvalidSign" = some (some (.ref D_InvalidSign)))
    (qhg_InvalidSign : PySem.W.findIn K (.ref D_InvalidSign) "__getattribute__" = some (some (.builtin "BaseException.__getattribute__")))
    (qhk_InvalidSign : PySem.W.findIn K (.ref D_InvalidSign) "__getattr__" = some none)
    (qhs_InvalidSign : PySem.W.subIn K (.ref D_InvalidSign) (.type "BaseException") = some true)
    (qhd_InvalidSign : PySem.W.hasDictIn K D_InvalidSign = true)
    (qha_InvalidSign : PySem.W.findIn K (.ref D_InvalidSign) "__class__" = some (some (.builtin "object.__class__")))
    (qhn_InvalidSign : PySem.W.specialIn K (.builtin "object.__class__") "__get__" = some (some (.builtin "getset_descriptor.__get__")))
    (qht_InvalidSign : PySem.W.takesIn K (.builtin "object.__class__") = some true)
    (qhm_InvalidSign : PySem.W.mroIn K D_InvalidSign (.type "object") = some true)
    (qex_InvalidSign : PySem.W.excIn K D_InvalidSign [.type "ValueError", .type "Exception", .type "BaseException", .type "object"] "ValueError.__new__" = true)
    (qkp_InvalidSign : PySem.W.keepIn K (.ref D_InvalidSign) = true)
    (qty_InvalidSign : PySem.W.typeIn K (.ref D_InvalidSign) = some (.type "type"))
    {D_InvalidSigns : Addr} (w_InvalidSigns : PySem.W.nsIn K mainGlobals "InvalidSigns" = some (some (.ref D_InvalidSigns)))
    (qhg_InvalidSigns : PySem.W.findIn K (.ref D_InvalidSigns) "__getattribute__" = some (some (.builtin "BaseException.__getattribute__")))
    (qhk_InvalidSigns : PySem.W.findIn K (.ref D_InvalidSigns) "__getattr__" = some none)
    (qhs_InvalidSigns : PySem.W.subIn K (.ref D_InvalidSigns) (.type "BaseException") = some true)
    (qhd_InvalidSigns : PySem.W.hasDictIn K D_InvalidSigns = true)
    (qha_InvalidSigns : PySem.W.findIn K (.ref D_InvalidSigns) "__class__" = some (some (.builtin "object.__class__")))
    (qhn_InvalidSigns : PySem.W.specialIn K (.builtin "object.__class__") "__get__" = some (some (.builtin "getset_descriptor.__get__")))
    (qht_InvalidSigns : PySem.W.takesIn K (.builtin "object.__class__") = some true)
    (qhm_InvalidSigns : PySem.W.mroIn K D_InvalidSigns (.type "object") = some true)
    (qex_InvalidSigns : PySem.W.excIn K D_InvalidSigns [.type "ValueError", .type "Exception", .type "BaseException", .type "object"] "ValueError.__new__" = true)
    (qkp_InvalidSigns : PySem.W.keepIn K (.ref D_InvalidSigns) = true)
    (qty_InvalidSigns : PySem.W.typeIn K (.ref D_InvalidSigns) = some (.type "type"))
    {D_InvalidTraffic : Addr} (w_InvalidTraffic : PySem.W.nsIn K mainGlobals "InvalidTraffic" = some (some (.ref D_InvalidTraffic)))
    (qhg_InvalidTraffic : PySem.W.findIn K (.ref D_InvalidTraffic) "__getattribute__" = some (some (.builtin "BaseException.__getattribute__")))
    (qhk_InvalidTraffic : PySem.W.findIn K (.ref D_InvalidTraffic) "__getattr__" = some none)
    (qhs_InvalidTraffic : PySem.W.subIn K (.ref D_InvalidTraffic) (.type "BaseException") = some true)
    (qhd_InvalidTraffic : PySem.W.hasDictIn K D_InvalidTraffic = true)
    (qha_InvalidTraffic : PySem.W.findIn K (.ref D_InvalidTraffic) "__class__" = some (some (.builtin "object.__class__")))
    (qhn_InvalidTraffic : PySem.W.specialIn K (.builtin "object.__class__") "__get__" = some (some (.builtin "getset_descriptor.__get__")))
    (qht_InvalidTraffic : PySem.W.takesIn K (.builtin "object.__class__") = some true)
    (qhm_InvalidTraffic : PySem.W.mroIn K D_InvalidTraffic (.type "object") = some true)
    (qex_InvalidTraffic : PySem.W.excIn K D_InvalidTraffic [.type "ValueError", .type "Exception", .type "BaseException", .type "object"] "ValueError.__new__" = true)
    (qkp_InvalidTraffic : PySem.W.keepIn K (.ref D_InvalidTraffic) = true)
    (qty_InvalidTraffic : PySem.W.typeIn K (.ref D_InvalidTraffic) = some (.type "type"))
    {D_InvalidTurn : Addr} (w_InvalidTurn : PySem.W.nsIn K mainGlobals "InvalidTurn" = some (some (.ref D_InvalidTurn)))
    (qhg_InvalidTurn : PySem.W.findIn K (.ref D_InvalidTurn) "__getattribute__" = some (some (.builtin "BaseException.__getattribute__")))
    (qhk_InvalidTurn : PySem.W.findIn K (.ref D_InvalidTurn) "__getattr__" = some none)
    (qhs_InvalidTurn : PySem.W.subIn K (.ref D_InvalidTurn) (.type "BaseException") = some true)
    (qhd_InvalidTurn : PySem.W.hasDictIn K D_InvalidTurn = true)
    (qha_InvalidTurn : PySem.W.findIn K (.ref D_InvalidTurn) "__class__" = some (some (.builtin "object.__class__")))
    (qhn_InvalidTurn : PySem.W.specialIn K (.builtin "object.__class__") "__get__" = some (some (.builtin "getset_descriptor.__get__")))
    (qht_InvalidTurn : PySem.W.takesIn K (.builtin "object.__class__") = some true)
    (qhm_InvalidTurn : PySem.W.mroIn K D_InvalidTurn (.type "object") = some true)
    (qex_InvalidTurn : PySem.W.excIn K D_InvalidTurn [.type "ValueError", .type "Exception", .type "BaseException", .type "object"] "ValueError.__new__" = true)
    (qkp_InvalidTurn : PySem.W.keepIn K (.ref D_InvalidTurn) = true)
    (qty_InvalidTurn : PySem.W.typeIn K (.ref D_InvalidTurn) = some (.type "type"))
    {D_NoVehicle : Addr} (w_NoVehicle : PySem.W.nsIn K mainGlobals "NoVehicle" = some (some (.ref D_NoVehicle)))
    (qhg_NoVehicle : PySem.W.findIn K (.ref D_NoVehicle) "__getattribute__" = some (some (.builtin "BaseException.__getattribute__")))
    (qhk_NoVehicle : PySem.W.findIn K (.ref D_NoVehicle) "__getattr__" = some none)
    (qhs_NoVehicle : PySem.W.subIn K (.ref D_NoVehicle) (.type "BaseException") = some true)
    (qhd_NoVehicle : PySem.W.hasDictIn K D_NoVehicle = true)
    (qha_NoVehicle : PySem.W.findIn K (.ref D_NoVehicle) "__class__" = some (some (.builtin "object.__class__")))
    (qhn_NoVehicle : PySem.W.specialIn K (.builtin "object.__class__") "__get__" = some (some (.builtin "getset_descriptor.__get__")))
    (qht_NoVehicle : PySem.W.takesIn K (.builtin "object.__class__") = some true)
    (qhm_NoVehicle : PySem.W.mroIn K D_NoVehicle (.type "object") = some true)
    (qex_NoVehicle : PySem.W.excIn K D_NoVehicle [.type "ValueError", .type "Exception", .type "BaseException", .type "object"] "ValueError.__new__" = true)
    (qkp_NoVehicle : PySem.W.keepIn K (.ref D_NoVehicle) = true)
    (qty_NoVehicle : PySem.W.typeIn K (.ref D_NoVehicle) = some (.type "type"))
    {D_SameArm : Addr} (w_SameArm : PySem.W.nsIn K mainGlobals "SameArm" = some (some (.ref D_SameArm)))
    (qhg_SameArm : PySem.W.findIn K (.ref D_SameArm) "__getattribute__" = some (some (.builtin "BaseException.__getattribute__")))
    (qhk_SameArm : PySem.W.findIn K (.ref D_SameArm) "__getattr__" = some none)
    (qhs_SameArm : PySem.W.subIn K (.ref D_SameArm) (.type "BaseException") = some true)
    (qhd_SameArm : PySem.W.hasDictIn K D_SameArm = true)
    (qha_SameArm : PySem.W.findIn K (.ref D_SameArm) "__class__" = some (some (.builtin "object.__class__")))
    (qhn_SameArm : PySem.W.specialIn K (.builtin "object.__class__") "__get__" = some (some (.builtin "getset_descriptor.__get__")))
    (qht_SameArm : PySem.W.takesIn K (.builtin "object.__class__") = some true)
    (qhm_SameArm : PySem.W.mroIn K D_SameArm (.type "object") = some true)
    (qex_SameArm : PySem.W.excIn K D_SameArm [.type "ValueError", .type "Exception", .type "BaseException", .type "object"] "ValueError.__new__" = true)
    (qkp_SameArm : PySem.W.keepIn K (.ref D_SameArm) = true)
    (qty_SameArm : PySem.W.typeIn K (.ref D_SameArm) = some (.type "type"))
    (qk_ArmTaken_ArmTaken : PySem.W.kitOne K (.ref D_ArmTaken) (.ref D_ArmTaken) = some true)
    (qk_ArmTaken_InvalidArm : PySem.W.kitOne K (.ref D_ArmTaken) (.ref D_InvalidArm) = some false)
    (qk_ArmTaken_InvalidSign : PySem.W.kitOne K (.ref D_ArmTaken) (.ref D_InvalidSign) = some false)
    (qk_ArmTaken_InvalidSigns : PySem.W.kitOne K (.ref D_ArmTaken) (.ref D_InvalidSigns) = some false)
    (qk_ArmTaken_InvalidTraffic : PySem.W.kitOne K (.ref D_ArmTaken) (.ref D_InvalidTraffic) = some false)
    (qk_ArmTaken_InvalidTurn : PySem.W.kitOne K (.ref D_ArmTaken) (.ref D_InvalidTurn) = some false)
    (qk_ArmTaken_NoVehicle : PySem.W.kitOne K (.ref D_ArmTaken) (.ref D_NoVehicle) = some false)
    (qk_ArmTaken_SameArm : PySem.W.kitOne K (.ref D_ArmTaken) (.ref D_SameArm) = some false)
    (qk_InvalidArm_ArmTaken : PySem.W.kitOne K (.ref D_InvalidArm) (.ref D_ArmTaken) = some false)
    (qk_InvalidArm_InvalidArm : PySem.W.kitOne K (.ref D_InvalidArm) (.ref D_InvalidArm) = some true)
    (qk_InvalidArm_InvalidSign : PySem.W.kitOne K (.ref D_InvalidArm) (.ref D_InvalidSign) = some false)
    (qk_InvalidArm_InvalidSigns : PySem.W.kitOne K (.ref D_InvalidArm) (.ref D_InvalidSigns) = some false)
    (qk_InvalidArm_InvalidTraffic : PySem.W.kitOne K (.ref D_InvalidArm) (.ref D_InvalidTraffic) = some false)
    (qk_InvalidArm_InvalidTurn : PySem.W.kitOne K (.ref D_InvalidArm) (.ref D_InvalidTurn) = some false)
    (qk_InvalidArm_NoVehicle : PySem.W.kitOne K (.ref D_InvalidArm) (.ref D_NoVehicle) = some false)
    (qk_InvalidArm_SameArm : PySem.W.kitOne K (.ref D_InvalidArm) (.ref D_SameArm) = some false)
    (qk_InvalidSign_ArmTaken : PySem.W.kitOne K (.ref D_InvalidSign) (.ref D_ArmTaken) = some false)
    (qk_InvalidSign_InvalidArm : PySem.W.kitOne K (.ref D_InvalidSign) (.ref D_InvalidArm) = some false)
    (qk_InvalidSign_InvalidSign : PySem.W.kitOne K (.ref D_InvalidSign) (.ref D_InvalidSign) = some true)
    (qk_InvalidSign_InvalidSigns : PySem.W.kitOne K (.ref D_InvalidSign) (.ref D_InvalidSigns) = some false)
    (qk_InvalidSign_InvalidTraffic : PySem.W.kitOne K (.ref D_InvalidSign) (.ref D_InvalidTraffic) = some false)
    (qk_InvalidSign_InvalidTurn : PySem.W.kitOne K (.ref D_InvalidSign) (.ref D_InvalidTurn) = some false)
    (qk_InvalidSign_NoVehicle : PySem.W.kitOne K (.ref D_InvalidSign) (.ref D_NoVehicle) = some false)
    (qk_InvalidSign_SameArm : PySem.W.kitOne K (.ref D_InvalidSign) (.ref D_SameArm) = some false)
    (qk_InvalidSigns_ArmTaken : PySem.W.kitOne K (.ref D_InvalidSigns) (.ref D_ArmTaken) = some false)
    (qk_InvalidSigns_InvalidArm : PySem.W.kitOne K (.ref D_InvalidSigns) (.ref D_InvalidArm) = some false)
    (qk_InvalidSigns_InvalidSign : PySem.W.kitOne K (.ref D_InvalidSigns) (.ref D_InvalidSign) = some false)
    (qk_InvalidSigns_InvalidSigns : PySem.W.kitOne K (.ref D_InvalidSigns) (.ref D_InvalidSigns) = some true)
    (qk_InvalidSigns_InvalidTraffic : PySem.W.kitOne K (.ref D_InvalidSigns) (.ref D_InvalidTraffic) = some false)
    (qk_InvalidSigns_InvalidTurn : PySem.W.kitOne K (.ref D_InvalidSigns) (.ref D_InvalidTurn) = some false)
    (qk_InvalidSigns_NoVehicle : PySem.W.kitOne K (.ref D_InvalidSigns) (.ref D_NoVehicle) = some false)
    (qk_InvalidSigns_SameArm : PySem.W.kitOne K (.ref D_InvalidSigns) (.ref D_SameArm) = some false)
    (qk_InvalidTraffic_ArmTaken : PySem.W.kitOne K (.ref D_InvalidTraffic) (.ref D_ArmTaken) = some false)
    (qk_InvalidTraffic_InvalidArm : PySem.W.kitOne K (.ref D_InvalidTraffic) (.ref D_InvalidArm) = some false)
    (qk_InvalidTraffic_InvalidSign : PySem.W.kitOne K (.ref D_InvalidTraffic) (.ref D_InvalidSign) = some false)
    (qk_InvalidTraffic_InvalidSigns : PySem.W.kitOne K (.ref D_InvalidTraffic) (.ref D_InvalidSigns) = some false)
    (qk_InvalidTraffic_InvalidTraffic : PySem.W.kitOne K (.ref D_InvalidTraffic) (.ref D_InvalidTraffic) = some true)
    (qk_InvalidTraffic_InvalidTurn : PySem.W.kitOne K (.ref D_InvalidTraffic) (.ref D_InvalidTurn) = some false)
    (qk_InvalidTraffic_NoVehicle : PySem.W.kitOne K (.ref D_InvalidTraffic) (.ref D_NoVehicle) = some false)
    (qk_InvalidTraffic_SameArm : PySem.W.kitOne K (.ref D_InvalidTraffic) (.ref D_SameArm) = some false)
    (qk_InvalidTurn_ArmTaken : PySem.W.kitOne K (.ref D_InvalidTurn) (.ref D_ArmTaken) = some false)
    (qk_InvalidTurn_InvalidArm : PySem.W.kitOne K (.ref D_InvalidTurn) (.ref D_InvalidArm) = some false)
    (qk_InvalidTurn_InvalidSign : PySem.W.kitOne K (.ref D_InvalidTurn) (.ref D_InvalidSign) = some false)
    (qk_InvalidTurn_InvalidSigns : PySem.W.kitOne K (.ref D_InvalidTurn) (.ref D_InvalidSigns) = some false)
    (qk_InvalidTurn_InvalidTraffic : PySem.W.kitOne K (.ref D_InvalidTurn) (.ref D_InvalidTraffic) = some false)
    (qk_InvalidTurn_InvalidTurn : PySem.W.kitOne K (.ref D_InvalidTurn) (.ref D_InvalidTurn) = some true)
    (qk_InvalidTurn_NoVehicle : PySem.W.kitOne K (.ref D_InvalidTurn) (.ref D_NoVehicle) = some false)
    (qk_InvalidTurn_SameArm : PySem.W.kitOne K (.ref D_InvalidTurn) (.ref D_SameArm) = some false)
    (qk_NoVehicle_ArmTaken : PySem.W.kitOne K (.ref D_NoVehicle) (.ref D_ArmTaken) = some false)
    (qk_NoVehicle_InvalidArm : PySem.W.kitOne K (.ref D_NoVehicle) (.ref D_InvalidArm) = some false)
    (qk_NoVehicle_InvalidSign : PySem.W.kitOne K (.ref D_NoVehicle) (.ref D_InvalidSign) = some false)
    (qk_NoVehicle_InvalidSigns : PySem.W.kitOne K (.ref D_NoVehicle) (.ref D_InvalidSigns) = some false)
    (qk_NoVehicle_InvalidTraffic : PySem.W.kitOne K (.ref D_NoVehicle) (.ref D_InvalidTraffic) = some false)
    (qk_NoVehicle_InvalidTurn : PySem.W.kitOne K (.ref D_NoVehicle) (.ref D_InvalidTurn) = some false)
    (qk_NoVehicle_NoVehicle : PySem.W.kitOne K (.ref D_NoVehicle) (.ref D_NoVehicle) = some true)
    (qk_NoVehicle_SameArm : PySem.W.kitOne K (.ref D_NoVehicle) (.ref D_SameArm) = some false)
    (qk_SameArm_ArmTaken : PySem.W.kitOne K (.ref D_SameArm) (.ref D_ArmTaken) = some false)
    (qk_SameArm_InvalidArm : PySem.W.kitOne K (.ref D_SameArm) (.ref D_InvalidArm) = some false)
    (qk_SameArm_InvalidSign : PySem.W.kitOne K (.ref D_SameArm) (.ref D_InvalidSign) = some false)
    (qk_SameArm_InvalidSigns : PySem.W.kitOne K (.ref D_SameArm) (.ref D_InvalidSigns) = some false)
    (qk_SameArm_InvalidTraffic : PySem.W.kitOne K (.ref D_SameArm) (.ref D_InvalidTraffic) = some false)
    (qk_SameArm_InvalidTurn : PySem.W.kitOne K (.ref D_SameArm) (.ref D_InvalidTurn) = some false)
    (qk_SameArm_NoVehicle : PySem.W.kitOne K (.ref D_SameArm) (.ref D_NoVehicle) = some false)
    (qk_SameArm_SameArm : PySem.W.kitOne K (.ref D_SameArm) (.ref D_SameArm) = some true)
    (qe_ArmTaken_CrossError : PySem.W.subIn K (.ref D_ArmTaken) (.ref D_CrossError) = some true)
    (qe_InvalidArm_CrossError : PySem.W.subIn K (.ref D_InvalidArm) (.ref D_CrossError) = some true)
    (qe_InvalidSign_CrossError : PySem.W.subIn K (.ref D_InvalidSign) (.ref D_CrossError) = some true)
    (qe_InvalidSigns_CrossError : PySem.W.subIn K (.ref D_InvalidSigns) (.ref D_CrossError) = some true)
    (qe_InvalidTraffic_CrossError : PySem.W.subIn K (.ref D_InvalidTraffic) (.ref D_CrossError) = some true)
    (qe_InvalidTurn_CrossError : PySem.W.subIn K (.ref D_InvalidTurn) (.ref D_CrossError) = some true)
    (qe_NoVehicle_CrossError : PySem.W.subIn K (.ref D_NoVehicle) (.ref D_CrossError) = some true)
    (qe_SameArm_CrossError : PySem.W.subIn K (.ref D_SameArm) (.ref D_CrossError) = some true)
    (qk_vInvalidSigns : PySem.W.kitOne K (.ref D_InvalidSigns) (.type "ValueError") = some true)
    (qk_vInvalidTraffic : PySem.W.kitOne K (.ref D_InvalidTraffic) (.type "ValueError") = some true)
    (qk_vInvalidArm : PySem.W.kitOne K (.ref D_InvalidArm) (.type "ValueError") = some true)
    (qk_vInvalidTurn : PySem.W.kitOne K (.ref D_InvalidTurn) (.type "ValueError") = some true)
    (qk_vNoVehicle : PySem.W.kitOne K (.ref D_NoVehicle) (.type "ValueError") = some true)
    (qk_vSameArm : PySem.W.kitOne K (.ref D_SameArm) (.type "ValueError") = some true)
    (qk_vArmTaken : PySem.W.kitOne K (.ref D_ArmTaken) (.type "ValueError") = some true)
    (qk_vInvalidSign : PySem.W.kitOne K (.ref D_InvalidSign) (.type "ValueError") = some true) : Tx w K mg := by
  have F0 := fun_mk (st := (topS 17)) l0 c0 k0
  have b0 := F0.binds (ps := ["candidate"]) fun _ _ _ _ _ _ us hl => match us, hl with | [_], _ => rfl
  have F1 := fun_mk (st := (topS 18)) l1 c1 k1
  have b1 := F1.binds (ps := ["candidate"]) fun _ _ _ _ _ _ us hl => match us, hl with | [_], _ => rfl
  have F2 := fun_mk (st := (topS 19)) l2 c2 k2
  have b2 := F2.binds (ps := ["value"]) fun _ _ _ _ _ _ us hl => match us, hl with | [_], _ => rfl
  have F3 := fun_mk (st := (topS 20)) l3 c3 k3
  have b3 := F3.binds (ps := ["value"]) fun _ _ _ _ _ _ us hl => match us, hl with | [_], _ => rfl
  have F4 := fun_mk (st := (topS 21)) l4 c4 k4
  have b4 := F4.binds (ps := ["value"]) fun _ _ _ _ _ _ us hl => match us, hl with | [_], _ => rfl
  have F5 := fun_mk (st := (topS 22)) l5 c5 k5
  have b5 := F5.binds (ps := ["value"]) fun _ _ _ _ _ _ us hl => match us, hl with | [_], _ => rfl
  have F6 := fun_mk (st := (topS 23)) l6 c6 k6
  have b6 := F6.binds (ps := ["signs", "arm"]) fun _ _ _ _ _ _ us hl => match us, hl with | [_, _], _ => rfl
  have F7 := fun_mk (st := (topS 24)) l7 c7 k7
  have b7 := F7.binds (ps := ["signs", "arm"]) fun _ _ _ _ _ _ us hl => match us, hl with | [_, _], _ => rfl
  have F8 := fun_mk (st := (topS 25)) l8 c8 k8
  have b8 := F8.binds (ps := ["arm", "turn"]) fun _ _ _ _ _ _ us hl => match us, hl with | [_, _], _ => rfl
  have F9 := fun_mk (st := (topS 26)) l9 c9 k9
  have b9 := F9.binds (ps := ["arm", "turn"]) fun _ _ _ _ _ _ us hl => match us, hl with | [_, _], _ => rfl
  have F10 := fun_mk (st := (topS 27)) l10 c10 k10
  have b10 := F10.binds (ps := ["arm", "turn"]) fun _ _ _ _ _ _ us hl => match us, hl with | [_, _], _ => rfl
  have F11 := fun_mk (st := (topS 28)) l11 c11 k11
  have b11 := F11.binds (ps := ["traffic"]) fun _ _ _ _ _ _ us hl => match us, hl with | [_], _ => rfl
  have F12 := fun_mk (st := (topS 31)) l12 c12 k12
  have b12 := F12.binds (ps := ["traffic", "one", "other"]) fun _ _ _ _ _ _ us hl => match us, hl with | [_, _, _], _ => rfl
  have F13 := fun_mk (st := (topS 32)) l13 c13 k13
  have b13 := F13.binds (ps := ["traffic", "arm"]) fun _ _ _ _ _ _ us hl => match us, hl with | [_, _], _ => rfl
  have F14 := fun_mk (st := (topS 33)) l14 c14 k14
  have b14 := F14.binds (ps := ["traffic", "one", "other"]) fun _ _ _ _ _ _ us hl => match us, hl with | [_, _, _], _ => rfl
  have F15 := fun_mk (st := (topS 34)) l15 c15 k15
  have b15 := F15.binds (ps := ["traffic"]) fun _ _ _ _ _ _ us hl => match us, hl with | [_], _ => rfl
  have F16 := fun_mk (st := (topS 35)) l16 c16 k16
  have b16 := F16.binds (ps := ["traffic", "arm", "turn"]) fun _ _ _ _ _ _ us hl => match us, hl with | [_, _, _], _ => rfl
  have F17 := fun_mk (st := (topS 36)) l17 c17 k17
  have b17 := F17.binds (ps := ["traffic"]) fun _ _ _ _ _ _ us hl => match us, hl with | [_], _ => rfl
  have F18 := fun_mk (st := (topS 38)) l18 c18 k18
  have b18 := F18.binds (ps := ["signs", "traffic", "one", "other"]) fun _ _ _ _ _ _ us hl => match us, hl with | [_, _, _, _], _ => rfl
  have F19 := fun_mk (st := (topS 39)) l19 c19 k19
  have b19 := F19.binds (ps := ["signs", "traffic", "arm"]) fun _ _ _ _ _ _ us hl => match us, hl with | [_, _, _], _ => rfl
  have F20 := fun_mk (st := (topS 40)) l20 c20 k20
  have b20 := F20.binds (ps := ["signs", "traffic"]) fun _ _ _ _ _ _ us hl => match us, hl with | [_, _], _ => rfl
  have F21 := fun_mk (st := (topS 41)) l21 c21 k21
  have b21 := F21.binds (ps := ["signs", "traffic", "arm"]) fun _ _ _ _ _ _ us hl => match us, hl with | [_, _, _], _ => rfl
  have F22 := fun_mk (st := (topS 42)) l22 c22 k22
  have b22 := F22.binds (ps := ["signs", "traffic"]) fun _ _ _ _ _ _ us hl => match us, hl with | [_, _], _ => rfl
  have F23 := fun_mk (st := (topS 43)) l23 c23 k23
  have b23 := F23.binds (ps := ["signs", "traffic"]) fun _ _ _ _ _ _ us hl => match us, hl with | [_, _], _ => rfl
  have F24 := fun_mk (st := (topS 44)) l24 c24 k24
  have b24 := F24.binds (ps := ["signs", "traffic"]) fun _ _ _ _ _ _ us hl => match us, hl with | [_, _], _ => rfl
  have F25 := fun_mk (st := (topS 45)) l25 c25 k25
  have b25 := F25.binds (ps := ["signs", "traffic"]) fun _ _ _ _ _ _ us hl => match us, hl with | [_, _], _ => rfl
  have F26 := fun_mk (st := (topS 46)) l26 c26 k26
  have b26 := F26.binds (ps := ["signs", "traffic"]) fun _ _ _ _ _ _ us hl => match us, hl with | [_, _], _ => rfl
  have F27 := fun_mk (st := (topS 50)) l27 c27 k27
  have b27 := F27.binds (ps := ["signs"]) fun _ _ _ _ _ _ us hl => match us, hl with | [_], _ => rfl
  have F28 := fun_mk (st := (topS 52)) l28 c28 k28
  have b28 := F28.binds (ps := ["signs"]) fun _ _ _ _ _ _ us hl => match us, hl with | [_], _ => rfl
  have F29 := fun_mk (st := (topS 53)) l29 c29 k29
  have b29 := F29.binds (ps := ["signs"]) fun _ _ _ _ _ _ us hl => match us, hl with | [_], _ => rfl
  have F30 := fun_mk (st := (topS 54)) l30 c30 k30
  have b30 := F30.binds (ps := ["signs"]) fun _ _ _ _ _ _ us hl => match us, hl with | [_], _ => rfl
  have F31 := fun_mk (st := (topS 55)) l31 c31 k31
  have b31 := F31.binds (ps := ["signs", "arm"]) fun _ _ _ _ _ _ us hl => match us, hl with | [_, _], _ => rfl
  have F32 := fun_mk (st := (topS 59)) l32 c32 k32
  have b32 := F32.binds (ps := ["signs", "arm", "sign"]) fun _ _ _ _ _ _ us hl => match us, hl with | [_, _, _], _ => rfl
  have F33 := fun_mk (st := (topS 61)) l33 c33 k33
  have b33 := F33.binds (ps := ["signs"]) fun _ _ _ _ _ _ us hl => match us, hl with | [_], _ => rfl
  have F34 := fun_mk (st := (topS 62)) l34 c34 k34
  have b34 := F34.binds (ps := ["signs"]) fun _ _ _ _ _ _ us hl => match us, hl with | [_], _ => rfl
  have F35 := fun_mk (st := (topS 64)) l35 c35 k35
  have b35 := F35.binds (ps := ["signs"]) fun _ _ _ _ _ _ us hl => match us, hl with | [_], _ => rfl
  have F36 := fun_mk (st := (topS 66)) l36 c36 k36
  have b36 := F36.binds (ps := ["one", "other"]) fun _ _ _ _ _ _ us hl => match us, hl with | [_, _], _ => rfl
  have F37 := fun_mk (st := (topS 67)) l37 c37 k37
  have b37 := F37.binds (ps := ["one", "other"]) fun _ _ _ _ _ _ us hl => match us, hl with | [_, _], _ => rfl
  have F38 := fun_mk (st := (topS 68)) l38 c38 k38
  have b38 := F38.binds (ps := ["one", "other"]) fun _ _ _ _ _ _ us hl => match us, hl with | [_, _], _ => rfl
  have F39 := fun_mk (st := (topS 71)) l39 c39 k39
  have b39 := F39.binds (ps := ["signs"]) fun _ _ _ _ _ _ us hl => match us, hl with | [_], _ => rfl
  have F40 := fun_mk (st := (topS 72)) l40 c40 k40
  have b40 := F40.binds (ps := ["signs"]) fun _ _ _ _ _ _ us hl => match us, hl with | [_], _ => rfl
  have F41 := fun_mk (st := (topS 73)) l41 c41 k41
  have b41 := F41.binds (ps := ["signs"]) fun _ _ _ _ _ _ us hl => match us, hl with | [_], _ => rfl
  have F42 := fun_mk (st := (topS 75)) l42 c42 k42
  have b42 := F42.binds (ps := ["script", "k", "many"]) fun _ _ _ _ _ _ us hl => match us, hl with | [_, _, _], _ => rfl
  have F43 := fun_mk (st := (topS 76)) l43 c43 k43
  have b43 := F43.binds (ps := ["script", "at"]) fun _ _ _ _ _ _ us hl => match us, hl with | [_, _], _ => rfl
  have F44 := fun_mk (st := (topS 77)) l44 c44 k44
  have b44 := F44.binds (ps := ["script", "at"]) fun _ _ _ _ _ _ us hl => match us, hl with | [_, _], _ => rfl
  have F45 := fun_mk (st := (topS 78)) l45 c45 k45
  have b45 := F45.binds (ps := ["error"]) fun _ _ _ _ _ _ us hl => match us, hl with | [_], _ => rfl
  have F46 := fun_mk (st := (topS 79)) l46 c46 k46
  have b46 := F46.binds (ps := ["call"]) fun _ _ _ _ _ _ us hl => match us, hl with | [_], _ => rfl
  have F47 := fun_mk (st := (topS 80)) l47 c47 k47
  have b47 := F47.binds (ps := ["calls", "name"]) fun _ _ _ _ _ _ us hl => match us, hl with | [_, _], _ => rfl
  have F48 := fun_mk (st := (topS 81)) l48 c48 k48
  have b48 := F48.binds (ps := ["posts", "no"]) fun _ _ _ _ _ _ us hl => match us, hl with | [_, _], _ => rfl
  have F49 := fun_mk (st := (topS 82)) l49 c49 k49
  have b49 := F49.binds (ps := ["posts", "no"]) fun _ _ _ _ _ _ us hl => match us, hl with | [_, _], _ => rfl
  have F50 := fun_mk (st := (topS 83)) l50 c50 k50
  have b50 := F50.binds (ps := ["posts", "cars", "no"]) fun _ _ _ _ _ _ us hl => match us, hl with | [_, _, _], _ => rfl
  have F51 := fun_mk (st := (topS 84)) l51 c51 k51
  have b51 := F51.binds (ps := ["script"]) fun _ _ _ _ _ _ us hl => match us, hl with | [_], _ => rfl
  exact ⟨⟨_, _, F0, b0, PySem.W.mg_of X G a0⟩, ⟨_, _, F1, b1, PySem.W.mg_of X G a1⟩, ⟨_, _, F2, b2, PySem.W.mg_of X G a2⟩, ⟨_, _, F3, b3, PySem.W.mg_of X G a3⟩, ⟨_, _, F4, b4, PySem.W.mg_of X G a4⟩, ⟨_, _, F5, b5, PySem.W.mg_of X G a5⟩, ⟨_, _, F6, b6, PySem.W.mg_of X G a6⟩, ⟨_, _, F7, b7, PySem.W.mg_of X G a7⟩, ⟨_, _, F8, b8, PySem.W.mg_of X G a8⟩, ⟨_, _, F9, b9, PySem.W.mg_of X G a9⟩, ⟨_, _, F10, b10, PySem.W.mg_of X G a10⟩, ⟨_, _, F11, b11, PySem.W.mg_of X G a11⟩, ⟨_, _, F12, b12, PySem.W.mg_of X G a12⟩, ⟨_, _, F13, b13, PySem.W.mg_of X G a13⟩, ⟨_, _, F14, b14, PySem.W.mg_of X G a14⟩, ⟨_, _, F15, b15, PySem.W.mg_of X G a15⟩, ⟨_, _, F16, b16, PySem.W.mg_of X G a16⟩, ⟨_, _, F17, b17, PySem.W.mg_of X G a17⟩, ⟨_, _, F18, b18, PySem.W.mg_of X G a18⟩, ⟨_, _, F19, b19, PySem.W.mg_of X G a19⟩, ⟨_, _, F20, b20, PySem.W.mg_of X G a20⟩, ⟨_, _, F21, b21, PySem.W.mg_of X G a21⟩, ⟨_, _, F22, b22, PySem.W.mg_of X G a22⟩, ⟨_, _, F23, b23, PySem.W.mg_of X G a23⟩, ⟨_, _, F24, b24, PySem.W.mg_of X G a24⟩, ⟨_, _, F25, b25, PySem.W.mg_of X G a25⟩, ⟨_, _, F26, b26, PySem.W.mg_of X G a26⟩, ⟨_, _, F27, b27, PySem.W.mg_of X G a27⟩, ⟨_, _, F28, b28, PySem.W.mg_of X G a28⟩, ⟨_, _, F29, b29, PySem.W.mg_of X G a29⟩, ⟨_, _, F30, b30, PySem.W.mg_of X G a30⟩, ⟨_, _, F31, b31, PySem.W.mg_of X G a31⟩, ⟨_, _, F32, b32, PySem.W.mg_of X G a32⟩, ⟨_, _, F33, b33, PySem.W.mg_of X G a33⟩, ⟨_, _, F34, b34, PySem.W.mg_of X G a34⟩, ⟨_, _, F35, b35, PySem.W.mg_of X G a35⟩, ⟨_, _, F36, b36, PySem.W.mg_of X G a36⟩, ⟨_, _, F37, b37, PySem.W.mg_of X G a37⟩, ⟨_, _, F38, b38, PySem.W.mg_of X G a38⟩, ⟨_, _, F39, b39, PySem.W.mg_of X G a39⟩, ⟨_, _, F40, b40, PySem.W.mg_of X G a40⟩, ⟨_, _, F41, b41, PySem.W.mg_of X G a41⟩, ⟨_, _, F42, b42, PySem.W.mg_of X G a42⟩, ⟨_, _, F43, b43, PySem.W.mg_of X G a43⟩, ⟨_, _, F44, b44, PySem.W.mg_of X G a44⟩, ⟨_, _, F45, b45, PySem.W.mg_of X G a45⟩, ⟨_, _, F46, b46, PySem.W.mg_of X G a46⟩, ⟨_, _, F47, b47, PySem.W.mg_of X G a47⟩, ⟨_, _, F48, b48, PySem.W.mg_of X G a48⟩, ⟨_, _, F49, b49, PySem.W.mg_of X G a49⟩, ⟨_, _, F50, b50, PySem.W.mg_of X G a50⟩, ⟨_, _, F51, b51, PySem.W.mg_of X G a51⟩, PySem.W.mg_none_of X G z_ValueError, PySem.W.mg_none_of X G z_all, PySem.W.mg_none_of X G z_any, PySem.W.mg_none_of X G z_bool, PySem.W.mg_none_of X G z_enumerate, PySem.W.mg_none_of X G z_int, PySem.W.mg_none_of X G z_isinstance, PySem.W.mg_none_of X G z_len, PySem.W.mg_none_of X G z_max, PySem.W.mg_none_of X G z_range, PySem.W.mg_none_of X G z_sorted, PySem.W.mg_none_of X G z_str, ⟨_, PySem.W.mg_of X G w_EMPTY, ⟨_, rfl⟩⟩, ⟨_, PySem.W.mg_of X G w_LEFT, ⟨_, rfl⟩⟩, ⟨_, PySem.W.mg_of X G w_MANY, ⟨_, rfl⟩⟩, ⟨_, PySem.W.mg_of X G w_NONE, ⟨_, rfl⟩⟩, ⟨_, PySem.W.mg_of X G w_SIGNS, ⟨_, rfl⟩⟩, ⟨_, PySem.W.mg_of X G w_TURNS, ⟨_, rfl⟩⟩, ⟨p_RANKS, PySem.W.mg_of X G w_RANKS, by
    intro z d hz
    exact tbl_of (P := fun z d => ∃ v, KDct K w p_RANKS z v ∧ ∀ V, Dq K V v d) hz (by
      intro k v hk
      simp only [tbl_RANKS, List.mem_cons, Prod.mk.injEq, List.not_mem_nil, or_false] at hk
      rcases hk with ⟨rfl, rfl⟩ | ⟨rfl, rfl⟩ | ⟨rfl, rfl⟩ | ⟨rfl, rfl⟩
      · exact ⟨V.int 2, ⟨_, _, _, x_RANKS, y_RANKS, e_RANKS0, ⟨_, rfl⟩⟩, fun _ => .int _⟩
      · exact ⟨V.int 1, ⟨_, _, _, x_RANKS, y_RANKS, e_RANKS1, ⟨_, rfl⟩⟩, fun _ => .int _⟩
      · exact ⟨V.int 0, ⟨_, _, _, x_RANKS, y_RANKS, e_RANKS2, ⟨_, rfl⟩⟩, fun _ => .int _⟩
      · exact ⟨V.int 0, ⟨_, _, _, x_RANKS, y_RANKS, e_RANKS3, ⟨_, rfl⟩⟩, fun _ => .int _⟩)⟩, ⟨D_ArmTaken, PySem.W.mg_of X G w_ArmTaken, ⟨⟨qhg_ArmTaken, qhk_ArmTaken, qhs_ArmTaken, qhd_ArmTaken, qha_ArmTaken, qhn_ArmTaken, qht_ArmTaken, qhm_ArmTaken⟩, qex_ArmTaken, qkp_ArmTaken, qty_ArmTaken⟩⟩, ⟨D_CrossError, PySem.W.mg_of X G w_CrossError, ⟨⟨qhg_CrossError, qhk_CrossError, qhs_CrossError, qhd_CrossError, qha_CrossError, qhn_CrossError, qht_CrossError, qhm_CrossError⟩, qex_CrossError, qkp_CrossError, qty_CrossError⟩⟩, ⟨D_InvalidArm, PySem.W.mg_of X G w_InvalidArm, ⟨⟨qhg_InvalidArm, qhk_InvalidArm, qhs_InvalidArm, qhd_InvalidArm, qha_InvalidArm, qhn_InvalidArm, qht_InvalidArm, qhm_InvalidArm⟩, qex_InvalidArm, qkp_InvalidArm, qty_InvalidArm⟩⟩, ⟨D_InvalidSign, PySem.W.mg_of X G w_InvalidSign, ⟨⟨qhg_InvalidSign, qhk_InvalidSign, qhs_InvalidSign, qhd_InvalidSign, qha_InvalidSign, qhn_InvalidSign, qht_InvalidSign, qhm_InvalidSign⟩, qex_InvalidSign, qkp_InvalidSign, qty_InvalidSign⟩⟩, ⟨D_InvalidSigns, PySem.W.mg_of X G w_InvalidSigns, ⟨⟨qhg_InvalidSigns, qhk_InvalidSigns, qhs_InvalidSigns, qhd_InvalidSigns, qha_InvalidSigns, qhn_InvalidSigns, qht_InvalidSigns, qhm_InvalidSigns⟩, qex_InvalidSigns, qkp_InvalidSigns, qty_InvalidSigns⟩⟩, ⟨D_InvalidTraffic, PySem.W.mg_of X G w_InvalidTraffic, ⟨⟨qhg_InvalidTraffic, qhk_InvalidTraffic, qhs_InvalidTraffic, qhd_InvalidTraffic, qha_InvalidTraffic, qhn_InvalidTraffic, qht_InvalidTraffic, qhm_InvalidTraffic⟩, qex_InvalidTraffic, qkp_InvalidTraffic, qty_InvalidTraffic⟩⟩, ⟨D_InvalidTurn, PySem.W.mg_of X G w_InvalidTurn, ⟨⟨qhg_InvalidTurn, qhk_InvalidTurn, qhs_InvalidTurn, qhd_InvalidTurn, qha_InvalidTurn, qhn_InvalidTurn, qht_InvalidTurn, qhm_InvalidTurn⟩, qex_InvalidTurn, qkp_InvalidTurn, qty_InvalidTurn⟩⟩, ⟨D_NoVehicle, PySem.W.mg_of X G w_NoVehicle, ⟨⟨qhg_NoVehicle, qhk_NoVehicle, qhs_NoVehicle, qhd_NoVehicle, qha_NoVehicle, qhn_NoVehicle, qht_NoVehicle, qhm_NoVehicle⟩, qex_NoVehicle, qkp_NoVehicle, qty_NoVehicle⟩⟩, ⟨D_SameArm, PySem.W.mg_of X G w_SameArm, ⟨⟨qhg_SameArm, qhk_SameArm, qhs_SameArm, qhd_SameArm, qha_SameArm, qhn_SameArm, qht_SameArm, qhm_SameArm⟩, qex_SameArm, qkp_SameArm, qty_SameArm⟩⟩, (fun D C h1 h2 => by
    have e1 := h1.symm.trans (PySem.W.mg_of X G w_ArmTaken)
    have e2 := h2.symm.trans (PySem.W.mg_of X G w_ArmTaken)
    cases e1
    cases e2
    exact qk_ArmTaken_ArmTaken), (fun D C h1 h2 => by
    have e1 := h1.symm.trans (PySem.W.mg_of X G w_ArmTaken)
    have e2 := h2.symm.trans (PySem.W.mg_of X G w_InvalidArm)
    cases e1
    cases e2
    exact qk_ArmTaken_InvalidArm), (fun D C h1 h2 => by
    have e1 := h1.symm.trans (PySem.W.mg_of X G w_ArmTaken)
    have e2 := h2.symm.trans (PySem.W.mg_of X G w_InvalidSign)
    cases e1
    cases e2
    exact qk_ArmTaken_InvalidSign), (fun D C h1 h2 => by
    have e1 := h1.symm.trans (PySem.W.mg_of X G w_ArmTaken)
    have e2 := h2.symm.trans (PySem.W.mg_of X G w_InvalidSigns)
    cases e1
    cases e2
    exact qk_ArmTaken_InvalidSigns), (fun D C h1 h2 => by
    have e1 := h1.symm.trans (PySem.W.mg_of X G w_ArmTaken)
    have e2 := h2.symm.trans (PySem.W.mg_of X G w_InvalidTraffic)
    cases e1
    cases e2
    exact qk_ArmTaken_InvalidTraffic), (fun D C h1 h2 => by
    have e1 := h1.symm.trans (PySem.W.mg_of X G w_ArmTaken)
    have e2 := h2.symm.trans (PySem.W.mg_of X G w_InvalidTurn)
    cases e1
    cases e2
    exact qk_ArmTaken_InvalidTurn), (fun D C h1 h2 => by
    have e1 := h1.symm.trans (PySem.W.mg_of X G w_ArmTaken)
    have e2 := h2.symm.trans (PySem.W.mg_of X G w_NoVehicle)
    cases e1
    cases e2
    exact qk_ArmTaken_NoVehicle), (fun D C h1 h2 => by
    have e1 := h1.symm.trans (PySem.W.mg_of X G w_ArmTaken)
    have e2 := h2.symm.trans (PySem.W.mg_of X G w_SameArm)
    cases e1
    cases e2
    exact qk_ArmTaken_SameArm), (fun D C h1 h2 => by
    have e1 := h1.symm.trans (PySem.W.mg_of X G w_InvalidArm)
    have e2 := h2.symm.trans (PySem.W.mg_of X G w_ArmTaken)
    cases e1
    cases e2
    exact qk_InvalidArm_ArmTaken), (fun D C h1 h2 => by
    have e1 := h1.symm.trans (PySem.W.mg_of X G w_InvalidArm)
    have e2 := h2.symm.trans (PySem.W.mg_of X G w_InvalidArm)
    cases e1
    cases e2
    exact qk_InvalidArm_InvalidArm), (fun D C h1 h2 => by
    have e1 := h1.symm.trans (PySem.W.mg_of X G w_InvalidArm)
    have e2 := h2.symm.trans (PySem.W.mg_of X G w_InvalidSign)
    cases e1
    cases e2
    exact qk_InvalidArm_InvalidSign), (fun D C h1 h2 => by
    have e1 := h1.symm.trans (PySem.W.mg_of X G w_InvalidArm)
    have e2 := h2.symm.trans (PySem.W.mg_of X G w_InvalidSigns)
    cases e1
    cases e2
    exact qk_InvalidArm_InvalidSigns), (fun D C h1 h2 => by
    have e1 := h1.symm.trans (PySem.W.mg_of X G w_InvalidArm)
    have e2 := h2.symm.trans (PySem.W.mg_of X G w_InvalidTraffic)
    cases e1
    cases e2
    exact qk_InvalidArm_InvalidTraffic), (fun D C h1 h2 => by
    have e1 := h1.symm.trans (PySem.W.mg_of X G w_InvalidArm)
    have e2 := h2.symm.trans (PySem.W.mg_of X G w_InvalidTurn)
    cases e1
    cases e2
    exact qk_InvalidArm_InvalidTurn), (fun D C h1 h2 => by
    have e1 := h1.symm.trans (PySem.W.mg_of X G w_InvalidArm)
    have e2 := h2.symm.trans (PySem.W.mg_of X G w_NoVehicle)
    cases e1
    cases e2
    exact qk_InvalidArm_NoVehicle), (fun D C h1 h2 => by
    have e1 := h1.symm.trans (PySem.W.mg_of X G w_InvalidArm)
    have e2 := h2.symm.trans (PySem.W.mg_of X G w_SameArm)
    cases e1
    cases e2
    exact qk_InvalidArm_SameArm), (fun D C h1 h2 => by
    have e1 := h1.symm.trans (PySem.W.mg_of X G w_InvalidSign)
    have e2 := h2.symm.trans (PySem.W.mg_of X G w_ArmTaken)
    cases e1
    cases e2
    exact qk_InvalidSign_ArmTaken), (fun D C h1 h2 => by
    have e1 := h1.symm.trans (PySem.W.mg_of X G w_InvalidSign)
    have e2 := h2.symm.trans (PySem.W.mg_of X G w_InvalidArm)
    cases e1
    cases e2
    exact qk_InvalidSign_InvalidArm), (fun D C h1 h2 => by
    have e1 := h1.symm.trans (PySem.W.mg_of X G w_InvalidSign)
    have e2 := h2.symm.trans (PySem.W.mg_of X G w_InvalidSign)
    cases e1
    cases e2
    exact qk_InvalidSign_InvalidSign), (fun D C h1 h2 => by
    have e1 := h1.symm.trans (PySem.W.mg_of X G w_InvalidSign)
    have e2 := h2.symm.trans (PySem.W.mg_of X G w_InvalidSigns)
    cases e1
    cases e2
    exact qk_InvalidSign_InvalidSigns), (fun D C h1 h2 => by
    have e1 := h1.symm.trans (PySem.W.mg_of X G w_InvalidSign)
    have e2 := h2.symm.trans (PySem.W.mg_of X G w_InvalidTraffic)
    cases e1
    cases e2
    exact qk_InvalidSign_InvalidTraffic), (fun D C h1 h2 => by
    have e1 := h1.symm.trans (PySem.W.mg_of X G w_InvalidSign)
    have e2 := h2.symm.trans (PySem.W.mg_of X G w_InvalidTurn)
    cases e1
    cases e2
    exact qk_InvalidSign_InvalidTurn), (fun D C h1 h2 => by
    have e1 := h1.symm.trans (PySem.W.mg_of X G w_InvalidSign)
    have e2 := h2.symm.trans (PySem.W.mg_of X G w_NoVehicle)
    cases e1
    cases e2
    exact qk_InvalidSign_NoVehicle), (fun D C h1 h2 => by
    have e1 := h1.symm.trans (PySem.W.mg_of X G w_InvalidSign)
    have e2 := h2.symm.trans (PySem.W.mg_of X G w_SameArm)
    cases e1
    cases e2
    exact qk_InvalidSign_SameArm), (fun D C h1 h2 => by
    have e1 := h1.symm.trans (PySem.W.mg_of X G w_InvalidSigns)
    have e2 := h2.symm.trans (PySem.W.mg_of X G w_ArmTaken)
    cases e1
    cases e2
    exact qk_InvalidSigns_ArmTaken), (fun D C h1 h2 => by
    have e1 := h1.symm.trans (PySem.W.mg_of X G w_InvalidSigns)
    have e2 := h2.symm.trans (PySem.W.mg_of X G w_InvalidArm)
    cases e1
    cases e2
    exact qk_InvalidSigns_InvalidArm), (fun D C h1 h2 => by
    have e1 := h1.symm.trans (PySem.W.mg_of X G w_InvalidSigns)
    have e2 := h2.symm.trans (PySem.W.mg_of X G w_InvalidSign)
    cases e1
    cases e2
    exact qk_InvalidSigns_InvalidSign), (fun D C h1 h2 => by
    have e1 := h1.symm.trans (PySem.W.mg_of X G w_InvalidSigns)
    have e2 := h2.symm.trans (PySem.W.mg_of X G w_InvalidSigns)
    cases e1
    cases e2
    exact qk_InvalidSigns_InvalidSigns), (fun D C h1 h2 => by
    have e1 := h1.symm.trans (PySem.W.mg_of X G w_InvalidSigns)
    have e2 := h2.symm.trans (PySem.W.mg_of X G w_InvalidTraffic)
    cases e1
    cases e2
    exact qk_InvalidSigns_InvalidTraffic), (fun D C h1 h2 => by
    have e1 := h1.symm.trans (PySem.W.mg_of X G w_InvalidSigns)
    have e2 := h2.symm.trans (PySem.W.mg_of X G w_InvalidTurn)
    cases e1
    cases e2
    exact qk_InvalidSigns_InvalidTurn), (fun D C h1 h2 => by
    have e1 := h1.symm.trans (PySem.W.mg_of X G w_InvalidSigns)
    have e2 := h2.symm.trans (PySem.W.mg_of X G w_NoVehicle)
    cases e1
    cases e2
    exact qk_InvalidSigns_NoVehicle), (fun D C h1 h2 => by
    have e1 := h1.symm.trans (PySem.W.mg_of X G w_InvalidSigns)
    have e2 := h2.symm.trans (PySem.W.mg_of X G w_SameArm)
    cases e1
    cases e2
    exact qk_InvalidSigns_SameArm), (fun D C h1 h2 => by
    have e1 := h1.symm.trans (PySem.W.mg_of X G w_InvalidTraffic)
    have e2 := h2.symm.trans (PySem.W.mg_of X G w_ArmTaken)
    cases e1
    cases e2
    exact qk_InvalidTraffic_ArmTaken), (fun D C h1 h2 => by
    have e1 := h1.symm.trans (PySem.W.mg_of X G w_InvalidTraffic)
    have e2 := h2.symm.trans (PySem.W.mg_of X G w_InvalidArm)
    cases e1
    cases e2
    exact qk_InvalidTraffic_InvalidArm), (fun D C h1 h2 => by
    have e1 := h1.symm.trans (PySem.W.mg_of X G w_InvalidTraffic)
    have e2 := h2.symm.trans (PySem.W.mg_of X G w_InvalidSign)
    cases e1
    cases e2
    exact qk_InvalidTraffic_InvalidSign), (fun D C h1 h2 => by
    have e1 := h1.symm.trans (PySem.W.mg_of X G w_InvalidTraffic)
    have e2 := h2.symm.trans (PySem.W.mg_of X G w_InvalidSigns)
    cases e1
    cases e2
    exact qk_InvalidTraffic_InvalidSigns), (fun D C h1 h2 => by
    have e1 := h1.symm.trans (PySem.W.mg_of X G w_InvalidTraffic)
    have e2 := h2.symm.trans (PySem.W.mg_of X G w_InvalidTraffic)
    cases e1
    cases e2
    exact qk_InvalidTraffic_InvalidTraffic), (fun D C h1 h2 => by
    have e1 := h1.symm.trans (PySem.W.mg_of X G w_InvalidTraffic)
    have e2 := h2.symm.trans (PySem.W.mg_of X G w_InvalidTurn)
    cases e1
    cases e2
    exact qk_InvalidTraffic_InvalidTurn), (fun D C h1 h2 => by
    have e1 := h1.symm.trans (PySem.W.mg_of X G w_InvalidTraffic)
    have e2 := h2.symm.trans (PySem.W.mg_of X G w_NoVehicle)
    cases e1
    cases e2
    exact qk_InvalidTraffic_NoVehicle), (fun D C h1 h2 => by
    have e1 := h1.symm.trans (PySem.W.mg_of X G w_InvalidTraffic)
    have e2 := h2.symm.trans (PySem.W.mg_of X G w_SameArm)
    cases e1
    cases e2
    exact qk_InvalidTraffic_SameArm), (fun D C h1 h2 => by
    have e1 := h1.symm.trans (PySem.W.mg_of X G w_InvalidTurn)
    have e2 := h2.symm.trans (PySem.W.mg_of X G w_ArmTaken)
    cases e1
    cases e2
    exact qk_InvalidTurn_ArmTaken), (fun D C h1 h2 => by
    have e1 := h1.symm.trans (PySem.W.mg_of X G w_InvalidTurn)
    have e2 := h2.symm.trans (PySem.W.mg_of X G w_InvalidArm)
    cases e1
    cases e2
    exact qk_InvalidTurn_InvalidArm), (fun D C h1 h2 => by
    have e1 := h1.symm.trans (PySem.W.mg_of X G w_InvalidTurn)
    have e2 := h2.symm.trans (PySem.W.mg_of X G w_InvalidSign)
    cases e1
    cases e2
    exact qk_InvalidTurn_InvalidSign), (fun D C h1 h2 => by
    have e1 := h1.symm.trans (PySem.W.mg_of X G w_InvalidTurn)
    have e2 := h2.symm.trans (PySem.W.mg_of X G w_InvalidSigns)
    cases e1
    cases e2
    exact qk_InvalidTurn_InvalidSigns), (fun D C h1 h2 => by
    have e1 := h1.symm.trans (PySem.W.mg_of X G w_InvalidTurn)
    have e2 := h2.symm.trans (PySem.W.mg_of X G w_InvalidTraffic)
    cases e1
    cases e2
    exact qk_InvalidTurn_InvalidTraffic), (fun D C h1 h2 => by
    have e1 := h1.symm.trans (PySem.W.mg_of X G w_InvalidTurn)
    have e2 := h2.symm.trans (PySem.W.mg_of X G w_InvalidTurn)
    cases e1
    cases e2
    exact qk_InvalidTurn_InvalidTurn), (fun D C h1 h2 => by
    have e1 := h1.symm.trans (PySem.W.mg_of X G w_InvalidTurn)
    have e2 := h2.symm.trans (PySem.W.mg_of X G w_NoVehicle)
    cases e1
    cases e2
    exact qk_InvalidTurn_NoVehicle), (fun D C h1 h2 => by
    have e1 := h1.symm.trans (PySem.W.mg_of X G w_InvalidTurn)
    have e2 := h2.symm.trans (PySem.W.mg_of X G w_SameArm)
    cases e1
    cases e2
    exact qk_InvalidTurn_SameArm), (fun D C h1 h2 => by
    have e1 := h1.symm.trans (PySem.W.mg_of X G w_NoVehicle)
    have e2 := h2.symm.trans (PySem.W.mg_of X G w_ArmTaken)
    cases e1
    cases e2
    exact qk_NoVehicle_ArmTaken), (fun D C h1 h2 => by
    have e1 := h1.symm.trans (PySem.W.mg_of X G w_NoVehicle)
    have e2 := h2.symm.trans (PySem.W.mg_of X G w_InvalidArm)
    cases e1
    cases e2
    exact qk_NoVehicle_InvalidArm), (fun D C h1 h2 => by
    have e1 := h1.symm.trans (PySem.W.mg_of X G w_NoVehicle)
    have e2 := h2.symm.trans (PySem.W.mg_of X G w_InvalidSign)
    cases e1
    cases e2
    exact qk_NoVehicle_InvalidSign), (fun D C h1 h2 => by
    have e1 := h1.symm.trans (PySem.W.mg_of X G w_NoVehicle)
    have e2 := h2.symm.trans (PySem.W.mg_of X G w_InvalidSigns)
    cases e1
    cases e2
    exact qk_NoVehicle_InvalidSigns), (fun D C h1 h2 => by
    have e1 := h1.symm.trans (PySem.W.mg_of X G w_NoVehicle)
    have e2 := h2.symm.trans (PySem.W.mg_of X G w_InvalidTraffic)
    cases e1
    cases e2
    exact qk_NoVehicle_InvalidTraffic), (fun D C h1 h2 => by
    have e1 := h1.symm.trans (PySem.W.mg_of X G w_NoVehicle)
    have e2 := h2.symm.trans (PySem.W.mg_of X G w_InvalidTurn)
    cases e1
    cases e2
    exact qk_NoVehicle_InvalidTurn), (fun D C h1 h2 => by
    have e1 := h1.symm.trans (PySem.W.mg_of X G w_NoVehicle)
    have e2 := h2.symm.trans (PySem.W.mg_of X G w_NoVehicle)
    cases e1
    cases e2
    exact qk_NoVehicle_NoVehicle), (fun D C h1 h2 => by
    have e1 := h1.symm.trans (PySem.W.mg_of X G w_NoVehicle)
    have e2 := h2.symm.trans (PySem.W.mg_of X G w_SameArm)
    cases e1
    cases e2
    exact qk_NoVehicle_SameArm), (fun D C h1 h2 => by
    have e1 := h1.symm.trans (PySem.W.mg_of X G w_SameArm)
    have e2 := h2.symm.trans (PySem.W.mg_of X G w_ArmTaken)
    cases e1
    cases e2
    exact qk_SameArm_ArmTaken), (fun D C h1 h2 => by
    have e1 := h1.symm.trans (PySem.W.mg_of X G w_SameArm)
    have e2 := h2.symm.trans (PySem.W.mg_of X G w_InvalidArm)
    cases e1
    cases e2
    exact qk_SameArm_InvalidArm), (fun D C h1 h2 => by
    have e1 := h1.symm.trans (PySem.W.mg_of X G w_SameArm)
    have e2 := h2.symm.trans (PySem.W.mg_of X G w_InvalidSign)
    cases e1
    cases e2
    exact qk_SameArm_InvalidSign), (fun D C h1 h2 => by
    have e1 := h1.symm.trans (PySem.W.mg_of X G w_SameArm)
    have e2 := h2.symm.trans (PySem.W.mg_of X G w_InvalidSigns)
    cases e1
    cases e2
    exact qk_SameArm_InvalidSigns), (fun D C h1 h2 => by
    have e1 := h1.symm.trans (PySem.W.mg_of X G w_SameArm)
    have e2 := h2.symm.trans (PySem.W.mg_of X G w_InvalidTraffic)
    cases e1
    cases e2
    exact qk_SameArm_InvalidTraffic), (fun D C h1 h2 => by
    have e1 := h1.symm.trans (PySem.W.mg_of X G w_SameArm)
    have e2 := h2.symm.trans (PySem.W.mg_of X G w_InvalidTurn)
    cases e1
    cases e2
    exact qk_SameArm_InvalidTurn), (fun D C h1 h2 => by
    have e1 := h1.symm.trans (PySem.W.mg_of X G w_SameArm)
    have e2 := h2.symm.trans (PySem.W.mg_of X G w_NoVehicle)
    cases e1
    cases e2
    exact qk_SameArm_NoVehicle), (fun D C h1 h2 => by
    have e1 := h1.symm.trans (PySem.W.mg_of X G w_SameArm)
    have e2 := h2.symm.trans (PySem.W.mg_of X G w_SameArm)
    cases e1
    cases e2
    exact qk_SameArm_SameArm), (fun D C h1 h2 => by
    have e1 := h1.symm.trans (PySem.W.mg_of X G w_ArmTaken)
    have e2 := h2.symm.trans (PySem.W.mg_of X G w_CrossError)
    cases e1
    cases e2
    exact PySem.W.exm_ref qhs_CrossError qhd_CrossError qty_CrossError qe_ArmTaken_CrossError), (fun D C h1 h2 => by
    have e1 := h1.symm.trans (PySem.W.mg_of X G w_InvalidArm)
    have e2 := h2.symm.trans (PySem.W.mg_of X G w_CrossError)
    cases e1
    cases e2
    exact PySem.W.exm_ref qhs_CrossError qhd_CrossError qty_CrossError qe_InvalidArm_CrossError), (fun D C h1 h2 => by
    have e1 := h1.symm.trans (PySem.W.mg_of X G w_InvalidSign)
    have e2 := h2.symm.trans (PySem.W.mg_of X G w_CrossError)
    cases e1
    cases e2
    exact PySem.W.exm_ref qhs_CrossError qhd_CrossError qty_CrossError qe_InvalidSign_CrossError), (fun D C h1 h2 => by
    have e1 := h1.symm.trans (PySem.W.mg_of X G w_InvalidSigns)
    have e2 := h2.symm.trans (PySem.W.mg_of X G w_CrossError)
    cases e1
    cases e2
    exact PySem.W.exm_ref qhs_CrossError qhd_CrossError qty_CrossError qe_InvalidSigns_CrossError), (fun D C h1 h2 => by
    have e1 := h1.symm.trans (PySem.W.mg_of X G w_InvalidTraffic)
    have e2 := h2.symm.trans (PySem.W.mg_of X G w_CrossError)
    cases e1
    cases e2
    exact PySem.W.exm_ref qhs_CrossError qhd_CrossError qty_CrossError qe_InvalidTraffic_CrossError), (fun D C h1 h2 => by
    have e1 := h1.symm.trans (PySem.W.mg_of X G w_InvalidTurn)
    have e2 := h2.symm.trans (PySem.W.mg_of X G w_CrossError)
    cases e1
    cases e2
    exact PySem.W.exm_ref qhs_CrossError qhd_CrossError qty_CrossError qe_InvalidTurn_CrossError), (fun D C h1 h2 => by
    have e1 := h1.symm.trans (PySem.W.mg_of X G w_NoVehicle)
    have e2 := h2.symm.trans (PySem.W.mg_of X G w_CrossError)
    cases e1
    cases e2
    exact PySem.W.exm_ref qhs_CrossError qhd_CrossError qty_CrossError qe_NoVehicle_CrossError), (fun D C h1 h2 => by
    have e1 := h1.symm.trans (PySem.W.mg_of X G w_SameArm)
    have e2 := h2.symm.trans (PySem.W.mg_of X G w_CrossError)
    cases e1
    cases e2
    exact PySem.W.exm_ref qhs_CrossError qhd_CrossError qty_CrossError qe_SameArm_CrossError), (fun D h1 => by
    have e1 := h1.symm.trans (PySem.W.mg_of X G w_InvalidSigns)
    cases e1
    exact qk_vInvalidSigns), (fun D h1 => by
    have e1 := h1.symm.trans (PySem.W.mg_of X G w_InvalidTraffic)
    cases e1
    exact qk_vInvalidTraffic), (fun D h1 => by
    have e1 := h1.symm.trans (PySem.W.mg_of X G w_InvalidArm)
    cases e1
    exact qk_vInvalidArm), (fun D h1 => by
    have e1 := h1.symm.trans (PySem.W.mg_of X G w_InvalidTurn)
    cases e1
    exact qk_vInvalidTurn), (fun D h1 => by
    have e1 := h1.symm.trans (PySem.W.mg_of X G w_NoVehicle)
    cases e1
    exact qk_vNoVehicle), (fun D h1 => by
    have e1 := h1.symm.trans (PySem.W.mg_of X G w_SameArm)
    cases e1
    exact qk_vSameArm), (fun D h1 => by
    have e1 := h1.symm.trans (PySem.W.mg_of X G w_ArmTaken)
    cases e1
    exact qk_vArmTaken), (fun D h1 => by
    have e1 := h1.symm.trans (PySem.W.mg_of X G w_InvalidSign)
    cases e1
    exact qk_vInvalidSign)⟩
end Nk26

namespace Nk26
open PySem PySem.Spec PyProof.Rows L2 DL LamX NdefX
open L2H (RoomH PinOk cxH inv_startH roomH_of)
theorem tab_mk {K : PySem.W.Frag} {x : Str} {f c Pt : Addr} {oc oc2 : Value} {od od2 : Option Addr} {fd : FuncData} {vs : Array Value} {sl sl2 : Array (Option Value)} (a : PySem.W.nsIn K mainGlobals x = some (some (.ref f))) (l : K.lookup f = some ⟨oc, od, .func fd, sl⟩) (hc : fd.code = .ref c) (l2 : K.lookup c = some ⟨oc2, od2, .fields vs, sl2⟩) (hP : (vs[11]? : Option Value) = some (.ref Pt)) : PySem.W.tabIn K x = some (c, Pt) := by
  unfold PySem.W.tabIn
  simp only [a, l, hc, l2, hP]
theorem law_at {w : World} {K : PySem.W.Frag} {mg : Str → Option Value} {fa : Addr} {h : Heap} (KX : K.In h) (G : h.Ns mainGlobals mg) (hmg : mg "law" = some (.ref fa)) (own : ∀ m ∈ (["_law_signed", "_law_driven", "_law_armed", "law"] : List Str), ∀ c P, PySem.W.tabIn K m = some (c, P) → PySem.W.CodeHd h c P ∧ h.get? P = some { cls := .none, data := .fields #[] })
    {f0 c0 P0 : Addr} {oc0 ox0 : Value} {od0 oy0 : Option Addr} {fd0 : FuncData} {vs0 : Array Value} {sl0 sm0 : Array (Option Value)} (ta0 : PySem.W.nsIn K mainGlobals "_law_signed" = some (some (.ref f0))) (tl0 : K.lookup f0 = some ⟨oc0, od0, .func fd0, sl0⟩) (tc0 : fd0.code = .ref c0) (tm0 : K.lookup c0 = some ⟨ox0, oy0, .fields vs0, sm0⟩) (tp0 : (vs0[11]? : Option Value) = some (.ref P0)) (tn0 : K.lookup P0 = none)
    {f1 c1 P1 : Addr} {oc1 ox1 : Value} {od1 oy1 : Option Addr} {fd1 : FuncData} {vs1 : Array Value} {sl1 sm1 : Array (Option Value)} (ta1 : PySem.W.nsIn K mainGlobals "_law_driven" = some (some (.ref f1))) (tl1 : K.lookup f1 = some ⟨oc1, od1, .func fd1, sl1⟩) (tc1 : fd1.code = .ref c1) (tm1 : K.lookup c1 = some ⟨ox1, oy1, .fields vs1, sm1⟩) (tp1 : (vs1[11]? : Option Value) = some (.ref P1)) (tn1 : K.lookup P1 = none)
    {f2 c2 P2 : Addr} {oc2 ox2 : Value} {od2 oy2 : Option Addr} {fd2 : FuncData} {vs2 : Array Value} {sl2 sm2 : Array (Option Value)} (ta2 : PySem.W.nsIn K mainGlobals "_law_armed" = some (some (.ref f2))) (tl2 : K.lookup f2 = some ⟨oc2, od2, .func fd2, sl2⟩) (tc2 : fd2.code = .ref c2) (tm2 : K.lookup c2 = some ⟨ox2, oy2, .fields vs2, sm2⟩) (tp2 : (vs2[11]? : Option Value) = some (.ref P2)) (tn2 : K.lookup P2 = none)
    {f3 c3 P3 : Addr} {oc3 ox3 : Value} {od3 oy3 : Option Addr} {fd3 : FuncData} {vs3 : Array Value} {sl3 sm3 : Array (Option Value)} (ta3 : PySem.W.nsIn K mainGlobals "law" = some (some (.ref f3))) (tl3 : K.lookup f3 = some ⟨oc3, od3, .func fd3, sl3⟩) (tc3 : fd3.code = .ref c3) (tm3 : K.lookup c3 = some ⟨ox3, oy3, .fields vs3, sm3⟩) (tp3 : (vs3[11]? : Option Value) = some (.ref P3)) (tn3 : K.lookup P3 = none) (T : Tx w K mg) : LawAtS PySem.Challenge.rw_fourarms_k26_errors w K CX0 11 63 "script" mg fa h := by
  have t0 := tab_mk ta0 tl0 tc0 tm0 tp0
  have o0 := own "_law_signed" (by simp) _ _ t0
  have t1 := tab_mk ta1 tl1 tc1 tm1 tp1
  have o1 := own "_law_driven" (by simp) _ _ t1
  have t2 := tab_mk ta2 tl2 tc2 tm2 tp2
  have o2 := own "_law_armed" (by simp) _ _ t2
  have t3 := tab_mk ta3 tl3 tc3 tm3 tp3
  have o3 := own "law" (by simp) _ _ t3
  obtain ⟨a0, d0, h0⟩ := T.h__law_signed
  obtain ⟨a1, d1, h1⟩ := T.h__law_driven
  obtain ⟨a2, d2, h2⟩ := T.h__law_armed
  obtain ⟨a3, d3, h3⟩ := T.h_law
  obtain ⟨a4, d4, h4⟩ := T.h__law_all
  have e := hmg.symm.trans h3.g
  cases e
  have e0 := code_of KX G t0 h0
  have e1 := code_of KX G t1 h1
  have e2 := code_of KX G t2 h2
  have e3 := code_of KX G t3 h3
  have hu : ∀ p ∈ ([(P0, nm26), (P1, nm26), (P2, nm26), (P3, nm26)] : List NTab), p.2 = nm26 := by simp
  have hb : ∀ (s : Shared) (u : Value), BindsTo s d3 ⟨[u], []⟩ [("script", u)] := by
    obtain ⟨oc, od, kV, doc, pm, an, cdv, ct, osl, rfl, lk, hcd⟩ := h3.F.ex
    exact fun s v => .of_eq rfl
  refine ⟨d3, [(c0, P0), (c1, P1), (c2, P2), (c3, P3)], spLw K [(P0, nm26), (P1, nm26), (P2, nm26), (P3, nm26)], ?_, ?_, ?_, hb, ?_, fun base _ _ TB => ?_⟩
  · intro p hp
    simp only [List.mem_cons, List.not_mem_nil, or_false] at hp
    rcases hp with rfl | rfl | rfl | rfl
    · exact o0.2
    · exact o1.2
    · exact o2.2
    · exact o3.2
  · intro p hp
    simp only [List.mem_cons, List.not_mem_nil, or_false] at hp
    rcases hp with rfl | rfl | rfl | rfl
    · exact tn0
    · exact tn1
    · exact tn2
    · exact tn3
  · intro p hp
    simp only [List.mem_cons, List.not_mem_nil, or_false] at hp
    rcases hp with rfl | rfl | rfl | rfl
    · exact o0.1
    · exact o1.1
    · exact o2.1
    · exact o3.1
  · intro H a ns hl _ hH hS
    refine ⟨rfl, fun p hp => ?_, a, ns, rfl, hl, hS, fun _ => rfl⟩
    simp only [List.mem_cons, List.not_mem_nil, or_false] at hp
    rcases hp with rfl | rfl | rfl | rfl
    · exact TabN.nil (hH (c0, P0) (by simp))
    · exact TabN.nil (hH (c1, P1) (by simp))
    · exact TabN.nil (hH (c2, P2) (by simp))
    · exact TabN.nil (hH (c3, P3) (by simp))
  · exact ok_law T h3 e3 h4 h0 (ok__law_signed T h0 e0 (TB (c0, P0) (by simp)) (by simp) hu) h1 (ok__law_driven T h1 e1 (TB (c1, P1) (by simp)) (by simp) hu) h2 (ok__law_armed T h2 e2 (TB (c2, P2) (by simp)) (by simp) hu) (TB (c3, P3) (by simp)) (by simp) fun p hp _ => hu p hp
end Nk26
open PySem PySem.W PyProof.Rows
set_option maxHeartbeats 0 in
theorem PySem.Challenge.cw_fourarms_k26_errors_holds : PySem.Challenge.rw_fourarms_k26_errors.Holds := by
  w_on; o_law; k_head; (case hw => w_witness2)
  k_fill
  refine DL.walk_tabs (l := PySem.Challenge.rw_fourarms_k26_errors) (n := 63) (k := 11) (x := "script") (CX := fun _ => L2.CX0) (ms := ["_law_signed", "_law_driven", "_law_armed", "law"]) rfl (by decide) rfl ⟨rfl, by decide, by decide⟩ (by decide +kernel) (fun w h Y => PySem.W.km_in_of Y) ?F (fun _ _ _ _ _ h => h)
  case F =>
    intro w mg fa h Y KX G hmg own
    refine' Nk26.law_at KX G hmg own ?ta0 ?tl0 ?tc0 ?tm0 ?tp0 ?tn0 ?ta1 ?tl1 ?tc1 ?tm1 ?tp1 ?tn1 ?ta2 ?tl2 ?tc2 ?tm2 ?tp2 ?tn2 ?ta3 ?tl3 ?tc3 ?tm3 ?tp3 ?tn3 (Nk26.tx_mk KX G ?a0 ?l0 ?c0 ?k0 ?a1 ?l1 ?c1 ?k1 ?a2 ?l2 ?c2 ?k2 ?a3 ?l3 ?c3 ?k3 ?a4 ?l4 ?c4 ?k4 ?a5 ?l5 ?c5 ?k5 ?a6 ?l6 ?c6 ?k6 ?a7 ?l7 ?c7 ?k7 ?a8 ?l8 ?c8 ?k8 ?a9 ?l9 ?c9 ?k9 ?a10 ?l10 ?c10 ?k10 ?a11 ?l11 ?c11 ?k11 ?a12 ?l12 ?c12 ?k12 ?a13 ?l13 ?c13 ?k13 ?a14 ?l14 ?c14 ?k14 ?a15 ?l15 ?c15 ?k15 ?a16 ?l16 ?c16 ?k16 ?a17 ?l17 ?c17 ?k17 ?a18 ?l18 ?c18 ?k18 ?a19 ?l19 ?c19 ?k19 ?a20 ?l20 ?c20 ?k20 ?a21 ?l21 ?c21 ?k21 ?a22 ?l22 ?c22 ?k22 ?a23 ?l23 ?c23 ?k23 ?a24 ?l24 ?c24 ?k24 ?a25 ?l25 ?c25 ?k25 ?a26 ?l26 ?c26 ?k26 ?a27 ?l27 ?c27 ?k27 ?a28 ?l28 ?c28 ?k28 ?a29 ?l29 ?c29 ?k29 ?a30 ?l30 ?c30 ?k30 ?a31 ?l31 ?c31 ?k31 ?a32 ?l32 ?c32 ?k32 ?a33 ?l33 ?c33 ?k33 ?a34 ?l34 ?c34 ?k34 ?a35 ?l35 ?c35 ?k35 ?a36 ?l36 ?c36 ?k36 ?a37 ?l37 ?c37 ?k37 ?a38 ?l38 ?c38 ?k38 ?a39 ?l39 ?c39 ?k39 ?a40 ?l40 ?c40 ?k40 ?a41 ?l41 ?c41 ?k41 ?a42 ?l42 ?c42 ?k42 ?a43 ?l43 ?c43 ?k43 ?a44 ?l44 ?c44 ?k44 ?a45 ?l45 ?c45 ?k45 ?a46 ?l46 ?c46 ?k46 ?a47 ?l47 ?c47 ?k47 ?a48 ?l48 ?c48 ?k48 ?a49 ?l49 ?c49 ?k49 ?a50 ?l50 ?c50 ?k50 ?a51 ?l51 ?c51 ?k51 ?z_ValueError ?z_all ?z_any ?z_bool ?z_enumerate ?z_int ?z_isinstance ?z_len ?z_max ?z_range ?z_sorted ?z_str ?w_EMPTY ?w_LEFT ?w_MANY ?w_NONE ?w_SIGNS ?w_TURNS ?w_RANKS ?x_RANKS ?y_RANKS ?e_RANKS0 ?e_RANKS1 ?e_RANKS2 ?e_RANKS3 ?w_ArmTaken ?qhg_ArmTaken ?qhk_ArmTaken ?qhs_ArmTaken ?qhd_ArmTaken ?qha_ArmTaken ?qhn_ArmTaken ?qht_ArmTaken ?qhm_ArmTaken ?qex_ArmTaken ?qkp_ArmTaken ?qty_ArmTaken ?w_CrossError ?qhg_CrossError ?qhk_CrossError ?qhs_CrossError ?qhd_CrossError ?qha_CrossError ?qhn_CrossError ?qht_CrossError ?qhm_CrossError ?qex_CrossError ?qkp_CrossError ?qty_CrossError ?w_InvalidArm ?qhg_InvalidArm ?qhk_InvalidArm ?qhs_InvalidArm ?qhd_InvalidArm ?qha_InvalidArm ?qhn_InvalidArm ?qht_InvalidArm ?qhm_InvalidArm ?qex_InvalidArm ?qkp_InvalidArm ?qty_InvalidArm ?w_InvalidSign ?qhg_InvalidSign ?qhk_InvalidSign ?qhs_InvalidSign ?qhd_InvalidSign ?qha_InvalidSign ?qhn_InvalidSign ?qht_InvalidSign ?qhm_InvalidSign ?qex_InvalidSign ?qkp_InvalidSign ?qty_InvalidSign ?w_InvalidSigns ?qhg_InvalidSigns ?qhk_InvalidSigns ?qhs_InvalidSigns ?qhd_InvalidSigns ?qha_InvalidSigns ?qhn_InvalidSigns ?qht_InvalidSigns ?qhm_InvalidSigns ?qex_InvalidSigns ?qkp_InvalidSigns ?qty_InvalidSigns ?w_InvalidTraffic ?qhg_InvalidTraffic ?qhk_InvalidTraffic ?qhs_InvalidTraffic ?qhd_InvalidTraffic ?qha_InvalidTraffic ?qhn_InvalidTraffic ?qht_InvalidTraffic ?qhm_InvalidTraffic ?qex_InvalidTraffic ?qkp_InvalidTraffic ?qty_InvalidTraffic ?w_InvalidTurn ?qhg_InvalidTurn ?qhk_InvalidTurn ?qhs_InvalidTurn ?qhd_InvalidTurn ?qha_InvalidTurn ?qhn_InvalidTurn ?qht_InvalidTurn ?qhm_InvalidTurn ?qex_InvalidTurn ?qkp_InvalidTurn ?qty_InvalidTurn ?w_NoVehicle ?qhg_NoVehicle ?qhk_NoVehicle ?qhs_NoVehicle ?qhd_NoVehicle ?qha_NoVehicle ?qhn_NoVehicle ?qht_NoVehicle ?qhm_NoVehicle ?qex_NoVehicle ?qkp_NoVehicle ?qty_NoVehicle ?w_SameArm ?qhg_SameArm ?qhk_SameArm ?qhs_SameArm ?qhd_SameArm ?qha_SameArm ?qhn_SameArm ?qht_SameArm ?qhm_SameArm ?qex_SameArm ?qkp_SameArm ?qty_SameArm ?qk_ArmTaken_ArmTaken ?qk_ArmTaken_InvalidArm ?qk_ArmTaken_InvalidSign ?qk_ArmTaken_InvalidSigns ?qk_ArmTaken_InvalidTraffic ?qk_ArmTaken_InvalidTurn ?qk_ArmTaken_NoVehicle ?qk_ArmTaken_SameArm ?qk_InvalidArm_ArmTaken ?qk_InvalidArm_InvalidArm ?qk_InvalidArm_InvalidSign ?qk_InvalidArm_InvalidSigns ?qk_InvalidArm_InvalidTraffic ?qk_InvalidArm_InvalidTurn ?qk_InvalidArm_NoVehicle ?qk_InvalidArm_SameArm ?qk_InvalidSign_ArmTaken ?qk_InvalidSign_InvalidArm ?qk_InvalidSign_InvalidSign ?qk_InvalidSign_InvalidSigns ?qk_InvalidSign_InvalidTraffic ?qk_InvalidSign_InvalidTurn ?qk_InvalidSign_NoVehicle ?qk_InvalidSign_SameArm ?qk_InvalidSigns_ArmTaken ?qk_InvalidSigns_InvalidArm ?qk_InvalidSigns_InvalidSign ?qk_InvalidSigns_InvalidSigns ?qk_InvalidSigns_InvalidTraffic ?qk_InvalidSigns_InvalidTurn ?qk_InvalidSigns_NoVehicle ?qk_InvalidSigns_SameArm ?qk_InvalidTraffic_ArmTaken ?qk_InvalidTraffic_InvalidArm ?qk_InvalidTraffic_InvalidSign ?qk_InvalidTraffic_InvalidSigns ?qk_InvalidTraffic_InvalidTraffic ?qk_InvalidTraffic_InvalidTurn ?qk_InvalidTraffic_NoVehicle ?qk_InvalidTraffic_SameArm ?qk_InvalidTurn_ArmTaken ?qk_InvalidTurn_InvalidArm ?qk_InvalidTurn_InvalidSign ?qk_InvalidTurn_InvalidSigns ?qk_InvalidTurn_InvalidTraffic ?qk_InvalidTurn_InvalidTurn ?qk_InvalidTurn_NoVehicle ?qk_InvalidTurn_SameArm ?qk_NoVehicle_ArmTaken ?qk_NoVehicle_InvalidArm ?qk_NoVehicle_InvalidSign ?qk_NoVehicle_InvalidSigns ?qk_NoVehicle_InvalidTraffic ?qk_NoVehicle_InvalidTurn ?qk_NoVehicle_NoVehicle ?qk_NoVehicle_SameArm ?qk_SameArm_ArmTaken ?qk_SameArm_InvalidArm ?qk_SameArm_InvalidSign ?qk_SameArm_InvalidSigns ?qk_SameArm_InvalidTraffic ?qk_SameArm_InvalidTurn ?qk_SameArm_NoVehicle ?qk_SameArm_SameArm ?qe_ArmTaken_CrossError ?qe_InvalidArm_CrossError ?qe_InvalidSign_CrossError ?qe_InvalidSigns_CrossError ?qe_InvalidTraffic_CrossError ?qe_InvalidTurn_CrossError ?qe_NoVehicle_CrossError ?qe_SameArm_CrossError ?qk_vInvalidSigns ?qk_vInvalidTraffic ?qk_vInvalidArm ?qk_vInvalidTurn ?qk_vNoVehicle ?qk_vSameArm ?qk_vArmTaken ?qk_vInvalidSign)
    (case ta0 => k_is); (case tl0 => k_is); (case tc0 => exact rfl); (case tm0 => k_is); (case tp0 => exact rfl); (case tn0 => kernel_rfl); (case ta1 => k_is); (case tl1 => k_is); (case tc1 => exact rfl); (case tm1 => k_is); (case tp1 => exact rfl); (case tn1 => kernel_rfl); (case ta2 => k_is); (case tl2 => k_is); (case tc2 => exact rfl); (case tm2 => k_is); (case tp2 => exact rfl); (case tn2 => kernel_rfl); (case ta3 => k_is); (case tl3 => k_is); (case tc3 => exact rfl); (case tm3 => k_is); (case tp3 => exact rfl); (case tn3 => kernel_rfl); (case a0 => k_is); (case l0 => k_is); (case c0 => k_is); (case k0 => k_is); (case a1 => k_is); (case l1 => k_is); (case c1 => k_is); (case k1 => k_is); (case a2 => k_is); (case l2 => k_is); (case c2 => k_is); (case k2 => k_is); (case a3 => k_is); (case l3 => k_is); (case c3 => k_is); (case k3 => k_is); (case a4 => k_is); (case l4 => k_is); (case c4 => k_is); (case k4 => k_is); (case a5 => k_is); (case l5 => k_is); (case c5 => k_is); (case k5 => k_is); (case a6 => k_is); (case l6 => k_is); (case c6 => k_is); (case k6 => k_is); (case a7 => k_is); (case l7 => k_is); (case c7 => k_is); (case k7 => k_is); (case a8 => k_is); (case l8 => k_is); (case c8 => k_is); (case k8 => k_is); (case a9 => k_is); (case l9 => k_is); (case c9 => k_is); (case k9 => k_is); (case a10 => k_is); (case l10 => k_is); (case c10 => k_is); (case k10 => k_is); (case a11 => k_is); (case l11 => k_is); (case c11 => k_is); (case k11 => k_is); (case a12 => k_is); (case l12 => k_is); (case c12 => k_is); (case k12 => k_is); (case a13 => k_is); (case l13 => k_is); (case c13 => k_is); (case k13 => k_is); (case a14 => k_is); (case l14 => k_is); (case c14 => k_is); (case k14 => k_is); (case a15 => k_is); (case l15 => k_is); (case c15 => k_is); (case k15 => k_is); (case a16 => k_is); (case l16 => k_is); (case c16 => k_is); (case k16 => k_is); (case a17 => k_is); (case l17 => k_is); (case c17 => k_is); (case k17 => k_is); (case a18 => k_is); (case l18 => k_is); (case c18 => k_is); (case k18 => k_is); (case a19 => k_is); (case l19 => k_is); (case c19 => k_is); (case k19 => k_is); (case a20 => k_is); (case l20 => k_is); (case c20 => k_is); (case k20 => k_is); (case a21 => k_is); (case l21 => k_is); (case c21 => k_is); (case k21 => k_is); (case a22 => k_is); (case l22 => k_is); (case c22 => k_is); (case k22 => k_is); (case a23 => k_is); (case l23 => k_is); (case c23 => k_is); (case k23 => k_is); (case a24 => k_is); (case l24 => k_is); (case c24 => k_is); (case k24 => k_is); (case a25 => k_is); (case l25 => k_is); (case c25 => k_is); (case k25 => k_is); (case a26 => k_is); (case l26 => k_is); (case c26 => k_is); (case k26 => k_is); (case a27 => k_is); (case l27 => k_is); (case c27 => k_is); (case k27 => k_is); (case a28 => k_is); (case l28 => k_is); (case c28 => k_is); (case k28 => k_is); (case a29 => k_is); (case l29 => k_is); (case c29 => k_is); (case k29 => k_is); (case a30 => k_is); (case l30 => k_is); (case c30 => k_is); (case k30 => k_is); (case a31 => k_is); (case l31 => k_is); (case c31 => k_is); (case k31 => k_is); (case a32 => k_is); (case l32 => k_is); (case c32 => k_is); (case k32 => k_is); (case a33 => k_is); (case l33 => k_is); (case c33 => k_is); (case k33 => k_is); (case a34 => k_is); (case l34 => k_is); (case c34 => k_is); (case k34 => k_is); (case a35 => k_is); (case l35 => k_is); (case c35 => k_is); (case k35 => k_is); (case a36 => k_is); (case l36 => k_is); (case c36 => k_is); (case k36 => k_is); (case a37 => k_is); (case l37 => k_is); (case c37 => k_is); (case k37 => k_is); (case a38 => k_is); (case l38 => k_is); (case c38 => k_is); (case k38 => k_is); (case a39 => k_is); (case l39 => k_is); (case c39 => k_is); (case k39 => k_is); (case a40 => k_is); (case l40 => k_is); (case c40 => k_is); (case k40 => k_is); (case a41 => k_is); (case l41 => k_is); (case c41 => k_is); (case k41 => k_is); (case a42 => k_is); (case l42 => k_is); (case c42 => k_is); (case k42 => k_is); (case a43 => k_is); (case l43 => k_is); (case c43 => k_is); (case k43 => k_is); (case a44 => k_is); (case l44 => k_is); (case c44 => k_is); (case k44 => k_is); (case a45 => k_is); (case l45 => k_is); (case c45 => k_is); (case k45 => k_is); (case a46 => k_is); (case l46 => k_is); (case c46 => k_is); (case k46 => k_is); (case a47 => k_is); (case l47 => k_is); (case c47 => k_is); (case k47 => k_is); (case a48 => k_is); (case l48 => k_is); (case c48 => k_is); (case k48 => k_is); (case a49 => k_is); (case l49 => k_is); (case c49 => k_is); (case k49 => k_is); (case a50 => k_is); (case l50 => k_is); (case c50 => k_is); (case k50 => k_is); (case a51 => k_is); (case l51 => k_is); (case c51 => k_is); (case k51 => k_is); (case z_ValueError => k_is); (case z_all => k_is); (case z_any => k_is); (case z_bool => k_is); (case z_enumerate => k_is); (case z_int => k_is); (case z_isinstance => k_is); (case z_len => k_is); (case z_max => k_is); (case z_range => k_is); (case z_sorted => k_is); (case z_str => k_is); (case w_EMPTY => k_is); (case w_LEFT => k_is); (case w_MANY => k_is); (case w_NONE => k_is); (case w_SIGNS => k_is); (case w_TURNS => k_is); (case w_RANKS => k_is); (case x_RANKS => k_is); (case e_RANKS0 => k_is); (case e_RANKS1 => k_is); (case e_RANKS2 => k_is); (case e_RANKS3 => k_is); (case w_ArmTaken => k_is); (case qhg_ArmTaken => k_is); (case qhk_ArmTaken => k_is); (case qhs_ArmTaken => k_is); (case qhd_ArmTaken => k_is); (case qha_ArmTaken => k_is); (case qhn_ArmTaken => k_is); (case qht_ArmTaken => k_is); (case qhm_ArmTaken => k_is); (case qex_ArmTaken => k_exc); (case qkp_ArmTaken => k_is); (case qty_ArmTaken => k_is); (case w_CrossError => k_is); (case qhg_CrossError => k_is); (case qhk_CrossError => k_is); (case qhs_CrossError => k_is); (case qhd_CrossError => k_is); (case qha_CrossError => k_is); (case qhn_CrossError => k_is); (case qht_CrossError => k_is); (case qhm_CrossError => k_is); (case qex_CrossError => k_exc); (case qkp_CrossError => k_is); (case qty_CrossError => k_is); (case w_InvalidArm => k_is); (case qhg_InvalidArm => k_is); (case qhk_InvalidArm => k_is); (case qhs_InvalidArm => k_is); (case qhd_InvalidArm => k_is); (case qha_InvalidArm => k_is); (case qhn_InvalidArm => k_is); (case qht_InvalidArm => k_is); (case qhm_InvalidArm => k_is); (case qex_InvalidArm => k_exc); (case qkp_InvalidArm => k_is); (case qty_InvalidArm => k_is); (case w_InvalidSign => k_is); (case qhg_InvalidSign => k_is); (case qhk_InvalidSign => k_is); (case qhs_InvalidSign => k_is); (case qhd_InvalidSign => k_is); (case qha_InvalidSign => k_is); (case qhn_InvalidSign => k_is); (case qht_InvalidSign => k_is); (case qhm_InvalidSign => k_is); (case qex_InvalidSign => k_exc); (case qkp_InvalidSign => k_is); (case qty_InvalidSign => k_is); (case w_InvalidSigns => k_is); (case qhg_InvalidSigns => k_is); (case qhk_InvalidSigns => k_is); (case qhs_InvalidSigns => k_is); (case qhd_InvalidSigns => k_is); (case qha_InvalidSigns => k_is); (case qhn_InvalidSigns => k_is); (case qht_InvalidSigns => k_is); (case qhm_InvalidSigns => k_is); (case qex_InvalidSigns => k_exc); (case qkp_InvalidSigns => k_is); (case qty_InvalidSigns => k_is); (case w_InvalidTraffic => k_is); (case qhg_InvalidTraffic => k_is); (case qhk_InvalidTraffic => k_is); (case qhs_InvalidTraffic => k_is); (case qhd_InvalidTraffic => k_is); (case qha_InvalidTraffic => k_is); (case qhn_InvalidTraffic => k_is); (case qht_InvalidTraffic => k_is); (case qhm_InvalidTraffic => k_is); (case qex_InvalidTraffic => k_exc); (case qkp_InvalidTraffic => k_is); (case qty_InvalidTraffic => k_is); (case w_InvalidTurn => k_is); (case qhg_InvalidTurn => k_is); (case qhk_InvalidTurn => k_is); (case qhs_InvalidTurn => k_is); (case qhd_InvalidTurn => k_is); (case qha_InvalidTurn => k_is); (case qhn_InvalidTurn => k_is); (case qht_InvalidTurn => k_is); (case qhm_InvalidTurn => k_is); (case qex_InvalidTurn => k_exc); (case qkp_InvalidTurn => k_is); (case qty_InvalidTurn => k_is); (case w_NoVehicle => k_is); (case qhg_NoVehicle => k_is); (case qhk_NoVehicle => k_is); (case qhs_NoVehicle => k_is); (case qhd_NoVehicle => k_is); (case qha_NoVehicle => k_is); (case qhn_NoVehicle => k_is); (case qht_NoVehicle => k_is); (case qhm_NoVehicle => k_is); (case qex_NoVehicle => k_exc); (case qkp_NoVehicle => k_is); (case qty_NoVehicle => k_is); (case w_SameArm => k_is); (case qhg_SameArm => k_is); (case qhk_SameArm => k_is); (case qhs_SameArm => k_is); (case qhd_SameArm => k_is); (case qha_SameArm => k_is); (case qhn_SameArm => k_is); (case qht_SameArm => k_is); (case qhm_SameArm => k_is); (case qex_SameArm => k_exc); (case qkp_SameArm => k_is); (case qty_SameArm => k_is); (case qk_ArmTaken_ArmTaken => kit_is); (case qk_ArmTaken_InvalidArm => kit_is); (case qk_ArmTaken_InvalidSign => kit_is); (case qk_ArmTaken_InvalidSigns => kit_is); (case qk_ArmTaken_InvalidTraffic => kit_is); (case qk_ArmTaken_InvalidTurn => kit_is); (case qk_ArmTaken_NoVehicle => kit_is); (case qk_ArmTaken_SameArm => kit_is); (case qk_InvalidArm_ArmTaken => kit_is); (case qk_InvalidArm_InvalidArm => kit_is); (case qk_InvalidArm_InvalidSign => kit_is); (case qk_InvalidArm_InvalidSigns => kit_is); (case qk_InvalidArm_InvalidTraffic => kit_is); (case qk_InvalidArm_InvalidTurn => kit_is); (case qk_InvalidArm_NoVehicle => kit_is); (case qk_InvalidArm_SameArm => kit_is); (case qk_InvalidSign_ArmTaken => kit_is); (case qk_InvalidSign_InvalidArm => kit_is); (case qk_InvalidSign_InvalidSign => kit_is); (case qk_InvalidSign_InvalidSigns => kit_is); (case qk_InvalidSign_InvalidTraffic => kit_is); (case qk_InvalidSign_InvalidTurn => kit_is); (case qk_InvalidSign_NoVehicle => kit_is); (case qk_InvalidSign_SameArm => kit_is); (case qk_InvalidSigns_ArmTaken => kit_is); (case qk_InvalidSigns_InvalidArm => kit_is); (case qk_InvalidSigns_InvalidSign => kit_is); (case qk_InvalidSigns_InvalidSigns => kit_is); (case qk_InvalidSigns_InvalidTraffic => kit_is); (case qk_InvalidSigns_InvalidTurn => kit_is); (case qk_InvalidSigns_NoVehicle => kit_is); (case qk_InvalidSigns_SameArm => kit_is); (case qk_InvalidTraffic_ArmTaken => kit_is); (case qk_InvalidTraffic_InvalidArm => kit_is); (case qk_InvalidTraffic_InvalidSign => kit_is); (case qk_InvalidTraffic_InvalidSigns => kit_is); (case qk_InvalidTraffic_InvalidTraffic => kit_is); (case qk_InvalidTraffic_InvalidTurn => kit_is); (case qk_InvalidTraffic_NoVehicle => kit_is); (case qk_InvalidTraffic_SameArm => kit_is); (case qk_InvalidTurn_ArmTaken => kit_is); (case qk_InvalidTurn_InvalidArm => kit_is); (case qk_InvalidTurn_InvalidSign => kit_is); (case qk_InvalidTurn_InvalidSigns => kit_is); (case qk_InvalidTurn_InvalidTraffic => kit_is); (case qk_InvalidTurn_InvalidTurn => kit_is); (case qk_InvalidTurn_NoVehicle => kit_is); (case qk_InvalidTurn_SameArm => kit_is); (case qk_NoVehicle_ArmTaken => kit_is); (case qk_NoVehicle_InvalidArm => kit_is); (case qk_NoVehicle_InvalidSign => kit_is); (case qk_NoVehicle_InvalidSigns => kit_is); (case qk_NoVehicle_InvalidTraffic => kit_is); (case qk_NoVehicle_InvalidTurn => kit_is); (case qk_NoVehicle_NoVehicle => kit_is); (case qk_NoVehicle_SameArm => kit_is); (case qk_SameArm_ArmTaken => kit_is); (case qk_SameArm_InvalidArm => kit_is); (case qk_SameArm_InvalidSign => kit_is); (case qk_SameArm_InvalidSigns => kit_is); (case qk_SameArm_InvalidTraffic => kit_is); (case qk_SameArm_InvalidTurn => kit_is); (case qk_SameArm_NoVehicle => kit_is); (case qk_SameArm_SameArm => kit_is); (case qe_ArmTaken_CrossError => k_is); (case qe_InvalidArm_CrossError => k_is); (case qe_InvalidSign_CrossError => k_is); (case qe_InvalidSigns_CrossError => k_is); (case qe_InvalidTraffic_CrossError => k_is); (case qe_InvalidTurn_CrossError => k_is); (case qe_NoVehicle_CrossError => k_is); (case qe_SameArm_CrossError => k_is); (case qk_vInvalidSigns => kit_is); (case qk_vInvalidTraffic => kit_is); (case qk_vInvalidArm => kit_is); (case qk_vInvalidTurn => kit_is); (case qk_vNoVehicle => kit_is); (case qk_vSameArm => kit_is); (case qk_vArmTaken => kit_is); (case qk_vInvalidSign => kit_is)
    (case y_RANKS => exact ⟨⟨_, _, rfl, rfl⟩, ⟨_, _, rfl, rfl⟩, ⟨_, _, rfl, rfl⟩, ⟨_, _, rfl, rfl⟩, trivial⟩)
