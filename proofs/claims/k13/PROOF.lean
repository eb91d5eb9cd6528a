import PyProof.Rows.All
import Wide.All
import OpenK.AllK
import Wide.FinOn
import HandS.ForMost
import HandS.ForExc
import HandS.TupAny
import HandS.TupMul
import HandS.Deep
import HandS.IsInst
import HandS.Wide
import HandS.Flow
import HandS.Conv
import HandS.ExcOwn
import HandS.CallSlots
import HandS.Iter
import HandS.Zip
import HandS.Flt
import HandS.Text
import HandS.FStr
import HandS.Style
import HandS.SortInts
import HandS.TupSets
import PyProof.WalkInts
import HandS.Head0
import HandS.Head1
import HandS.Head2
import HandS.HeadEnd
import HandS.HeadHook1
import HandS.HeadHook2
import HandS.HeadNt
import HandS.EndBits
import PySem.Challenge.RW_palletsowed_k13_known_books_by_hand
set_option Elab.async false
set_option linter.all false
set_option maxRecDepth 100000
set_option maxHeartbeats 200000
/-! E1: data states of a frame, their relation to the abstract heap. Own work. -/
namespace Ev
open PySem PySem.Spec L2

abbrev D := PyData

/-- an answer: a value, an exception, or nothing known -/
inductive Rs (α : Type) where
  | ok (a : α) | exc (n : Str) (f : Option (Str × Int)) | no
@[inline, reducible] def Rs.bind {α β : Type} (r : Rs α) (f : α → Rs β) : Rs β :=
  match r with
  | .ok a => f a
  | .exc n g => .exc n g
  | .no => .no
def Rs.of {α : Type} : Option α → Rs α
  | some a => .ok a
  | none => .no

/-- what a slot holds: nothing known; a datum that nobody changes; a list of this frame's own, that may be changed; a list of the caller's, that may be changed; a function of the module -/
inductive Sl where
  | un | d (x : D) | own (xs : List D) | io (xs : List D) | fn (n : Str)

/-- the heap without some addresses -/
def fz (H : Hp) (O : List Addr) : Hp := fun a => if a ∈ O then none else H a
theorem fz_in {H : Hp} {O : List Addr} {a : Addr} (h : a ∈ O) : fz H O a = none := by unfold fz; rw [if_pos h]
theorem fz_out {H : Hp} {O : List Addr} {a : Addr} (h : a ∉ O) : fz H O a = H a := by unfold fz; rw [if_neg h]
theorem fz_same (H : Hp) (O : List Addr) : Same (fz H O) H := fun b o e => by
  by_cases h : b ∈ O
  · rw [fz_in h] at e; cases e
  · rwa [fz_out h] at e
theorem fz_some {H : Hp} {O : List Addr} {a : Addr} {o : HO} (e : fz H O a = some o) : a ∉ O ∧ H a = some o := by
  by_cases h : a ∈ O
  · rw [fz_in h] at e; cases e
  · exact ⟨h, by rwa [fz_out h] at e⟩
theorem fz_mk {H : Hp} {O : List Addr} {a : Addr} {o : HO} (h : a ∉ O) (e : H a = some o) : fz H O a = some o := by rw [fz_out h]; exact e
/-- fewer left out -/
theorem fz_less {H : Hp} {O O' : List Addr} (h : ∀ a ∈ O', a ∈ O) : Same (fz H O) (fz H O') := fun b o e => by
  obtain ⟨n, q⟩ := fz_some e
  exact fz_mk (fun z => n (h b z)) q
theorem fz_grow {H H' : Hp} {O : List Addr} (h : Same H H') : Same (fz H O) (fz H' O) := fun b o e => by
  obtain ⟨n, q⟩ := fz_some e
  exact fz_mk n (h b o q)
theorem fz_upd {H : Hp} {O : List Addr} {p : Addr} {o : HO} (h : p ∈ O) : fz (upd H p o) O = fz H O := by
  funext b
  by_cases hb : b ∈ O
  · rw [fz_in hb, fz_in hb]
  · rw [fz_out hb, fz_out hb, upd_ne (fun e => hb (by rw [e]; exact h))]
theorem same_upd {H : Hp} {p : Addr} {o : HO} (h : H p = none) : Same H (upd H p o) := fun b u e => by
  rw [upd_ne (ne_of_none e h)]; exact e

end Ev
namespace L2
open PySem PySem.Spec
theorem Rd.same {H H' : Hp} {a : Addr} {u : HO} (s : Same H H') (h : Rd H a u) : Rd H' a u := by
  rcases h with h | ⟨o, h⟩
  · exact .inl (s _ _ h)
  · exact .inr ⟨o, s _ _ h⟩
theorem SqL.same {K : PySem.W.Frag} {H H' : Hp} {a : Addr} {xs : List V} (s : Same H H') (h : SqL K H a xs) : SqL K H' a xs := by
  rcases h with h | h
  · exact .inl (Rd.same s h)
  · exact .inr h
theorem SqT.same {K : PySem.W.Frag} {H H' : Hp} {a : Addr} {xs : List V} (s : Same H H') (h : SqT K H a xs) : SqT K H' a xs := by
  rcases h with h | h
  · exact .inl (Rd.same s h)
  · exact .inr h
mutual
theorem Dp.same {K : PySem.W.Frag} {H H' : Hp} (s : Same H H') : ∀ {v : V} {d : PyData}, Dp K H v d → Dp K H' v d
  | _, _, .non => .non
  | _, _, .bl b => .bl b
  | _, _, .int i => .int i
  | _, _, .str x => .str x
  | _, _, .lst h t => .lst (SqL.same s h) (DpAll.same s t)
  | _, _, .tup h t => .tup (SqT.same s h) (DpAll.same s t)
theorem DpAll.same {K : PySem.W.Frag} {H H' : Hp} (s : Same H H') : ∀ {vs : List V} {ds : List PyData}, DpAll K H vs ds → DpAll K H' vs ds
  | _, _, .nil => .nil
  | _, _, .cons h t => .cons (Dp.same s h) (DpAll.same s t)
end
section
variable {K : PySem.W.Frag} {H H' : Hp}
theorem DpAll.length {vs : List V} {ds : List PyData} (h : DpAll K H vs ds) : vs.length = ds.length := by
  induction vs generalizing ds with
  | nil => cases h; rfl
  | cons v vs ih => cases h with | cons a b => simp [ih b]
theorem DpAll.get : ∀ {vs : List V} {ds : List PyData} {i : Nat} {d : PyData}, DpAll K H vs ds → ds[i]? = some d → ∃ v, vs[i]? = some v ∧ Dp K H v d
  | _, _, i, d, .nil, e => by simp at e
  | _, _, 0, d, .cons h _, e => by
    have e' := Option.some.inj e; subst e'; exact ⟨_, rfl, h⟩
  | _, _, i + 1, d, .cons _ t, e => by
    obtain ⟨v, h1, h2⟩ := DpAll.get (i := i) t (by simpa using e)
    exact ⟨v, by simpa using h1, h2⟩
theorem DpAll.get' : ∀ {vs : List V} {ds : List PyData} {i : Nat} {v : V}, DpAll K H vs ds → vs[i]? = some v → ∃ d, ds[i]? = some d ∧ Dp K H v d
  | _, _, i, d, .nil, e => by simp at e
  | _, _, 0, d, .cons h _, e => by
    have e' := Option.some.inj e; subst e'; exact ⟨_, rfl, h⟩
  | _, _, i + 1, d, .cons _ t, e => by
    obtain ⟨v, h1, h2⟩ := DpAll.get' (i := i) t (by simpa using e)
    exact ⟨v, by simpa using h1, h2⟩
theorem DpAll.append : ∀ {vs ws : List V} {ds es : List PyData}, DpAll K H vs ds → DpAll K H ws es → DpAll K H (vs ++ ws) (ds ++ es)
  | _, _, _, _, .nil, h => h
  | _, _, _, _, .cons a b, h => .cons a (DpAll.append b h)
theorem DpAll.take : ∀ {vs : List V} {ds : List PyData} (n : Nat), DpAll K H vs ds → DpAll K H (vs.take n) (ds.take n)
  | _, _, 0, _ => .nil
  | _, _, _ + 1, .nil => .nil
  | _, _, n + 1, .cons a b => .cons a (DpAll.take n b)
theorem DpAll.drop : ∀ {vs : List V} {ds : List PyData} (n : Nat), DpAll K H vs ds → DpAll K H (vs.drop n) (ds.drop n)
  | _, _, 0, h => h
  | _, _, _ + 1, .nil => .nil
  | _, _, n + 1, .cons _ b => DpAll.drop n b
theorem DpAll.set {v : V} {d : PyData} (r : Dp K H v d) : ∀ {vs : List V} {ds : List PyData} (i : Nat), DpAll K H vs ds → DpAll K H (vs.set i v) (ds.set i d)
  | _, _, _, .nil => .nil
  | _, _, 0, .cons _ t => .cons r t
  | _, _, i + 1, .cons q t => .cons q (DpAll.set r i t)
theorem DpAll.snoc {vs : List V} {ds : List PyData} {v : V} {d : PyData} (h : DpAll K H vs ds) (r : Dp K H v d) : DpAll K H (vs ++ [v]) (ds ++ [d]) := h.append (.cons r .nil)
theorem DpAll.reverse : ∀ {vs : List V} {ds : List PyData}, DpAll K H vs ds → DpAll K H vs.reverse ds.reverse
  | _, _, .nil => .nil
  | _, _, .cons a b => by rw [List.reverse_cons, List.reverse_cons]; exact (DpAll.reverse b).snoc a
theorem DpAll.rep {vs : List V} {ds : List PyData} (h : DpAll K H vs ds) : ∀ k : Nat, DpAll K H (List.replicate k vs).flatten (List.replicate k ds).flatten
  | 0 => .nil
  | k + 1 => by rw [List.replicate_succ, List.replicate_succ, List.flatten_cons, List.flatten_cons]; exact h.append (DpAll.rep h k)
theorem DpAll.ints : ∀ {ns : List Int}, DpAll K H (ns.map V.int) (ns.map PyData.int)
  | [] => .nil
  | n :: ns => .cons (.int n) DpAll.ints
/-- a list of ints -/
def intsOf : List PyData → Option (List Int)
  | [] => some []
  | .int i :: r => (intsOf r).map (i :: ·)
  | _ :: _ => none
theorem intsOf_map : ∀ ns : List Int, intsOf (ns.map PyData.int) = some ns
  | [] => rfl
  | n :: ns => by simp [intsOf, intsOf_map ns]
theorem intsOf_eq : ∀ {ds : List PyData} {ns : List Int}, intsOf ds = some ns → ds = ns.map PyData.int
  | [], ns, h => by cases h; rfl
  | .int i :: r, ns, h => by
    unfold intsOf at h
    cases e : intsOf r with
    | none => rw [e] at h; cases h
    | some m => rw [e] at h; cases h; rw [intsOf_eq e]; rfl
  | .none :: _, _, h => by cases h
  | .bool _ :: _, _, h => by cases h
  | .str _ :: _, _, h => by cases h
  | .list _ :: _, _, h => by cases h
  | .tuple _ :: _, _, h => by cases h
  | .dict _ :: _, _, h => by cases h
theorem DpAll.ofInts : ∀ {vs : List V} {ns : List Int}, DpAll K H vs (ns.map PyData.int) → vs = ns.map V.int
  | _, [], h => by cases h; rfl
  | _, n :: ns, h => by
    cases h with
    | cons a b => cases a; rw [DpAll.ofInts b]; rfl
def boolsOf : List PyData → Option (List Bool)
  | [] => some []
  | .bool i :: r => (boolsOf r).map (i :: ·)
  | _ :: _ => none
theorem boolsOf_map : ∀ ns : List Bool, boolsOf (ns.map PyData.bool) = some ns
  | [] => rfl
  | n :: ns => by simp [boolsOf, boolsOf_map ns]
theorem boolsOf_eq : ∀ {ds : List PyData} {ns : List Bool}, boolsOf ds = some ns → ds = ns.map PyData.bool
  | [], ns, h => by cases h; rfl
  | .bool i :: r, ns, h => by
    unfold boolsOf at h
    cases e : boolsOf r with
    | none => rw [e] at h; cases h
    | some m => rw [e] at h; cases h; rw [boolsOf_eq e]; rfl
  | .none :: _, _, h => by cases h
  | .int _ :: _, _, h => by cases h
  | .str _ :: _, _, h => by cases h
  | .list _ :: _, _, h => by cases h
  | .tuple _ :: _, _, h => by cases h
  | .dict _ :: _, _, h => by cases h
theorem DpAll.ofBools : ∀ {vs : List V} {ns : List Bool}, DpAll K H vs (ns.map PyData.bool) → vs = ns.map V.bl
  | _, [], h => by cases h; rfl
  | _, n :: ns, h => by
    cases h with
    | cons a b => cases a; rw [DpAll.ofBools b]; rfl
end

end L2
namespace Ev
open PySem PySem.Spec L2
/-- the frame at its entry: the heap, what is owned there, what of it may be changed -/
structure Fr0 where
  K : PySem.W.Frag
  mg : Str → Option Value
  H0 : Hp
  Ob : List Addr
  Wa : List Addr
  Pn : List (Addr × HO)

def slAt (σ : St) (i : Nat) : Option V := (σ[i]?).join
theorem slAt_of {σ : St} {i : Nat} {v : V} (h : σ[i]? = some (some v)) : slAt σ i = some v := by unfold slAt; rw [h]; rfl
theorem of_slAt {σ : St} {i : Nat} {v : V} (h : slAt σ i = some v) : σ[i]? = some (some v) := by
  unfold slAt at h
  cases e : σ[i]? with
  | none => rw [e] at h; cases h
  | some o => rw [e] at h; have : o = some v := h; rw [this]

def SlOk (F : Fr0) (O : List Addr) (H : Hp) (σi : Option V) : Sl → Prop
  | .un => True
  | .d x => ∃ v, σi = some v ∧ Dp F.K (fz H O) v x
  | .own xs => ∃ a vs, σi = some (.ref a) ∧ a ∈ O ∧ F.H0 a = none ∧ a ∉ F.Ob ∧ H a = some (.lst vs) ∧ DpAll F.K (fz H O) vs xs
  | .io xs => ∃ a vs, σi = some (.ref a) ∧ a ∈ F.Wa ∧ H a = some (.lst vs) ∧ DpAll F.K (fz H O) vs xs
  | .fn n => ∃ f, σi = some (.ref f) ∧ F.mg n = some (.ref f)

def Sl.mut : Sl → Prop
  | .own _ => True
  | .io _ => True
  | _ => False

/-- the state of a frame: slots by data -/
structure SR (F : Fr0) (O : List Addr) (δ : List Sl) (σ : St) (H : Hp) : Prop where
  len : δ.length = σ.length
  sl : ∀ i s, δ[i]? = some s → SlOk F O H (slAt σ i) s
  sep : ∀ i j s t a, δ[i]? = some s → δ[j]? = some t → s.mut → t.mut → slAt σ i = some (.ref a) → slAt σ j = some (.ref a) → i = j
  old : ∀ b o, F.H0 b = some o → b ∉ F.Wa → H b = some o
  bas : ∀ a ∈ F.Ob, a ∈ O
  wa : ∀ a ∈ F.Wa, a ∈ F.Ob
  alive : ∀ a ∈ O, H a ≠ none
  pin : ∀ p ∈ F.Pn, p.1 ∈ O ∧ H p.1 = some p.2 ∧ ∀ j s, δ[j]? = some s → s.mut → slAt σ j ≠ some (.ref p.1)

/-- what is frozen stays -/
abbrev Gr (H : Hp) (O : List Addr) (H' : Hp) (O' : List Addr) : Prop := Same (fz H O) (fz H' O')

section
variable {F : Fr0} {O : List Addr} {δ : List Sl} {σ : St} {H H' : Hp}
theorem SlOk.grow {σi : Option V} {s : Sl} (h : SlOk F O H σi s) (g : Same H H') : SlOk F O H' σi s := by
  cases s with
  | un => trivial
  | d x => obtain ⟨v, e, p⟩ := h; exact ⟨v, e, p.same (fz_grow g)⟩
  | own xs => obtain ⟨a, vs, e, m, z1, z2, p, q⟩ := h; exact ⟨a, vs, e, m, z1, z2, g _ _ p, q.same (fz_grow g)⟩
  | io xs => obtain ⟨a, vs, e, m, p, q⟩ := h; exact ⟨a, vs, e, m, g _ _ p, q.same (fz_grow g)⟩
  | fn n => exact h
/-- new objects -/
theorem SR.grow (h : SR F O δ σ H) (g : Same H H') : SR F O δ σ H' where
  len := h.len
  sl := fun i s e => (h.sl i s e).grow g
  sep := h.sep
  old := fun b o e n => g _ _ (h.old b o e n)
  bas := h.bas
  wa := h.wa
  alive := fun a m z => by
    have := h.alive a m
    cases q : H a with
    | none => exact this q
    | some o => rw [g a o q] at z; cases z
  pin := fun p m => let ⟨a, b, c⟩ := h.pin p m; ⟨a, g _ _ b, c⟩
theorem SR.notO (h : SR F O δ σ H) {p : Addr} (n : H p = none) : p ∉ O := fun m => h.alive p m n
theorem SlOk.less {O' : List Addr} {σi : Option V} {s : Sl} (h : SlOk F O H σi s) (m : ∀ a ∈ O', a ∈ O) (k : ∀ a, s.mut → σi = some (.ref a) → a ∈ O') : SlOk F O' H σi s := by
  cases s with
  | un => trivial
  | d x => obtain ⟨v, e, p⟩ := h; exact ⟨v, e, p.same (fz_less m)⟩
  | own xs => obtain ⟨a, vs, e, m', z1, z2, p, q⟩ := h; exact ⟨a, vs, e, k a trivial e, z1, z2, p, q.same (fz_less m)⟩
  | io xs => obtain ⟨a, vs, e, m', p, q⟩ := h; exact ⟨a, vs, e, m', p, q.same (fz_less m)⟩
  | fn n => exact h
/-- a slot's datum set -/
theorem SR.setD (h : SR F O δ σ H) {i : Nat} {v : V} {x : D} (hi : i < δ.length) (p : Dp F.K (fz H O) v x) : SR F O (δ.set i (.d x)) (σ.set i (some v)) H where
  len := by rw [List.length_set, List.length_set]; exact h.len
  sl := fun j s e => by
    by_cases hj : i = j
    · subst hj
      rw [List.getElem?_set_self hi] at e
      cases e
      exact ⟨v, slAt_of (List.getElem?_set_self (by rw [← h.len]; exact hi)), p⟩
    · rw [List.getElem?_set_ne hj] at e
      have := h.sl j s e
      unfold slAt at this ⊢
      rw [List.getElem?_set_ne hj]
      exact this
  sep := fun j k s t a e1 e2 m1 m2 q1 q2 => by
    have f : ∀ (j : Nat) (s : Sl), (δ.set i (.d x))[j]? = some s → s.mut → δ[j]? = some s ∧ ∀ a, slAt (σ.set i (some v)) j = some (.ref a) → slAt σ j = some (.ref a) := fun j s e m => by
      by_cases hj : i = j
      · subst hj; rw [List.getElem?_set_self hi] at e; cases e; exact m.elim
      · rw [List.getElem?_set_ne hj] at e
        refine ⟨e, fun a q => ?_⟩
        unfold slAt at q ⊢; rw [List.getElem?_set_ne hj] at q; exact q
    obtain ⟨a1, a2⟩ := f j s e1 m1
    obtain ⟨b1, b2⟩ := f k t e2 m2
    exact h.sep j k s t a a1 b1 m1 m2 (a2 a q1) (b2 a q2)
  old := h.old
  bas := h.bas
  wa := h.wa
  alive := h.alive
  pin := fun p m => by
    obtain ⟨a, b, c⟩ := h.pin p m
    refine ⟨a, b, fun j s e mt q => ?_⟩
    by_cases hj : i = j
    · subst hj; rw [List.getElem?_set_self hi] at e; cases e; exact mt.elim
    · rw [List.getElem?_set_ne hj] at e
      unfold slAt at q; rw [List.getElem?_set_ne hj] at q
      exact c j s e mt q
/-- a slot is forgotten -/
theorem SR.setUn (h : SR F O δ σ H) {i : Nat} {w : Option V} : SR F O (δ.set i .un) (σ.set i w) H where
  len := by rw [List.length_set, List.length_set]; exact h.len
  sl := fun j s e => by
    by_cases hj : i = j
    · subst hj
      by_cases hi : i < δ.length
      · rw [List.getElem?_set_self hi] at e
        cases e
        trivial
      · rw [List.getElem?_eq_none (by rw [List.length_set]; omega)] at e; cases e
    · rw [List.getElem?_set_ne hj] at e
      have := h.sl j s e
      unfold slAt at this ⊢
      rw [List.getElem?_set_ne hj]
      exact this
  sep := fun j k s t a e1 e2 m1 m2 q1 q2 => by
    have f : ∀ (j : Nat) (s : Sl), (δ.set i .un)[j]? = some s → s.mut → δ[j]? = some s ∧ ∀ a, slAt (σ.set i w) j = some (.ref a) → slAt σ j = some (.ref a) := fun j s e m => by
      by_cases hj : i = j
      · subst hj
        by_cases hi : i < δ.length
        · rw [List.getElem?_set_self hi] at e; cases e; exact m.elim
        · rw [List.getElem?_eq_none (by rw [List.length_set]; omega)] at e; cases e
      · rw [List.getElem?_set_ne hj] at e
        refine ⟨e, fun a q => ?_⟩
        unfold slAt at q ⊢; rw [List.getElem?_set_ne hj] at q; exact q
    obtain ⟨a1, a2⟩ := f j s e1 m1
    obtain ⟨b1, b2⟩ := f k t e2 m2
    exact h.sep j k s t a a1 b1 m1 m2 (a2 a q1) (b2 a q2)
  old := h.old
  bas := h.bas
  wa := h.wa
  alive := h.alive
  pin := fun p m => by
    obtain ⟨a, b, c⟩ := h.pin p m
    refine ⟨a, b, fun j s e mt q => ?_⟩
    by_cases hj : i = j
    · subst hj
      by_cases hi : i < δ.length
      · rw [List.getElem?_set_self hi] at e; cases e; exact mt.elim
      · rw [List.getElem?_eq_none (by rw [List.length_set]; omega)] at e; cases e
    · rw [List.getElem?_set_ne hj] at e
      unfold slAt at q; rw [List.getElem?_set_ne hj] at q
      exact c j s e mt q
end
end Ev
set_option maxHeartbeats 200000
/-! E2: expressions by data. Own work. -/
namespace Ev
open PySem PySem.Spec L2

structure G0 where
  H0 : Hp
  Ob : List Addr
  Wa : List Addr
  Pn : List (Addr × HO)
abbrev fr (X : Cx) (G : G0) : Fr0 := ⟨X.K, X.mg, G.H0, G.Ob, G.Wa, G.Pn⟩

/-- an exception of the class named n, with one field or none -/
def XOk (mg : Str → Option Value) (n : Str) (f : Option (Str × Int)) (cls : Value) (dx : Option Addr) (H : Hp) : Prop :=
  ∃ C, mg n = some (.ref C) ∧ cls = .ref C ∧ match f with
    | none => dx = none
    | some (k, i) => ∃ d, dx = some d ∧ H d = some (.xd [(k, V.int i)])

/-- what is known of an answer -/
def AnsG {α β : Type} (X : Cx) (W : WX) (G : G0) (O : List Addr) (σ : St) (H : Hp) (Ok : Hp → β → α → Prop) (r : Rs (α × List Sl)) (Q : β → Hp → Prop) : Prop :=
  match r with
  | .ok p => ∀ b H' O', SR (fr X G) O' p.2 σ H' → Gr H O H' O' → Ok (fz H' O') b p.1 → Q b H'
  | .exc n f => ∀ cls dx H', (∀ b o, G.H0 b = some o → b ∉ G.Wa → H' b = some o) → XOk X.mg n f cls dx H' → W cls dx σ H'
  | .no => False
section
variable {α α' β β' : Type} {X : Cx} {W : WX} {G : G0} {O O1 : List Addr} {σ : St} {H H1 : Hp} {Ok : Hp → β → α → Prop} {Ok' : Hp → β' → α' → Prop} {Q : β → Hp → Prop} {Q' : β' → Hp → Prop}
theorem AnsG.shift {r : Rs (α × List Sl)} (g : Gr H O H1 O1) (a : AnsG X W G O σ H Ok r Q) : AnsG X W G O1 σ H1 Ok r Q := by
  cases r with
  | ok p => exact fun b H' O' sr g' k => a b H' O' sr (g.trans g') k
  | exc n f => exact a
  | no => exact a
theorem AnsG.seq {r : Rs (α' × List Sl)} {k : α' × List Sl → Rs (α × List Sl)} (a : AnsG X W G O σ H Ok (r.bind k) Q)
    (h : ∀ x δ1 b H1 O1, r = .ok (x, δ1) → SR (fr X G) O1 δ1 σ H1 → Gr H O H1 O1 → Ok' (fz H1 O1) b x → AnsG X W G O1 σ H1 Ok (k (x, δ1)) Q → Q' b H1) : AnsG X W G O σ H Ok' r Q' := by
  cases r with
  | ok p => exact fun b H' O' sr g' ok => h p.1 p.2 b H' O' rfl sr g' ok (a.shift g')
  | exc n f => exact a
  | no => exact a
end

def OkV (K : PySem.W.Frag) (M : Hp) (v : V) (d : D) : Prop := Dp K M v d
def OkL (K : PySem.W.Frag) (M : Hp) (v : List V) (d : List D) : Prop := DpAll K M v d
def OkE {α : Type} (_ : Hp) (a b : α) : Prop := a = b

abbrev XT (α : Type) := List Sl → Rs (α × List Sl)
/-- an expression's datum -/
def DE (X : Cx) (W : WX) (e : Expr) (f : XT D) : Prop :=
  ∃ t, PE X e t ∧ ∀ G O δ σ H Q, SR (fr X G) O δ σ H → AnsG X W G O σ H (OkV X.K) (f δ) Q → t σ H Q
/-- a test's -/
def DT (X : Cx) (W : WX) (e : Expr) (f : XT Bool) : Prop :=
  ∃ t, PT X e t ∧ ∀ G O δ σ H Q, SR (fr X G) O δ σ H → AnsG X W G O σ H OkE (f δ) Q → t σ H Q
def DW (X : Cx) (W : WX) (e : Expr) (f : XT Bool) : Prop :=
  ∃ t, PW X e t ∧ ∀ G O δ σ H Q, SR (fr X G) O δ σ H → AnsG X W G O σ H OkE (f δ) Q → t σ H Q
/-- an argument list's -/
def DA (X : Cx) (W : WX) (es : List Expr) (f : XT (List D)) : Prop :=
  ∃ t, PA X es t ∧ ∀ G O δ σ H Q, SR (fr X G) O δ σ H → AnsG X W G O σ H (OkL X.K) (f δ) Q → t σ H Q
/-- a slice's part -/
def DO (X : Cx) (W : WX) (e : Option Expr) (f : XT (Option Int)) : Prop :=
  ∃ t, PO X e t ∧ ∀ G O δ σ H Q, SR (fr X G) O δ σ H → AnsG X W G O σ H OkE (f δ) Q → t σ H Q

section
variable {X : Cx} {W : WX} {a b c : Expr} {fa fb fc : XT D} {pos : Pos}

/-! ### constants and names -/
def vC (d : D) : XT D := fun δ => .ok (d, δ)
theorem de_of {e : Expr} {v : V} {d : D} (h : PE X e (tC v)) (k : ∀ M, Dp X.K M v d) : DE X W e (vC d) :=
  ⟨_, h, fun G O δ σ H Q sr an => an v H O sr (Same.refl _) (k _)⟩
theorem de_int {i j pos} : DE X W (.Constant (.int i) j pos) (vC (.int i)) := de_of pe_int fun _ => .int i
theorem de_bl {i j pos} : DE X W (.Constant (.bool i) j pos) (vC (.bool i)) := de_of pe_bl fun _ => .bl i
theorem de_non {j pos} : DE X W (.Constant .none j pos) (vC .none) := de_of pe_non fun _ => .non
theorem de_str {x j pos} : DE X W (.Constant (.str x) j pos) (vC (.str x)) := de_of pe_str fun _ => .str x
theorem de_globI {x : Str} {i : Int} {t : Tok} {pos : Pos} (hg : Gl X x) (hm : X.mg x = some (.int i t)) (hd : (x == ("__debug__" : Str)) = false := by decide) : DE X W (.Name x pos) (vC (.int i)) :=
  de_of (pe_glob hg hm (v := .int i) ⟨_, rfl⟩ hd) fun _ => .int i
theorem de_globS {x s : Str} {t : Tok} {pos : Pos} (hg : Gl X x) (hm : X.mg x = some (.str s t)) (hd : (x == ("__debug__" : Str)) = false := by decide) : DE X W (.Name x pos) (vC (.str s)) :=
  de_of (pe_glob hg hm (v := .str s) ⟨_, rfl⟩ hd) fun _ => .str s

/-- a slot is read; a list of one's own is given up -/
def vVar (i : Nat) : XT D := fun δ => match δ[i]? with
  | some (.d x) => .ok (x, δ)
  | some (.own xs) => .ok (.list xs, δ.set i (.d (.list xs)))
  | _ => .no

theorem SR.release {F : Fr0} {O : List Addr} {δ : List Sl} {σ : St} {H : Hp} {i : Nat} {xs : List D} (sr : SR F O δ σ H) (e : δ[i]? = some (.own xs)) :
    ∃ a O', σ[i]? = some (some (.ref a)) ∧ Dp F.K (fz H O') (.ref a) (.list xs) ∧ SR F O' (δ.set i (.d (.list xs))) σ H ∧ Gr H O H O' := by
  obtain ⟨a, vs, e1, m, z1, z2, p, q⟩ := sr.sl i _ e
  have ei := of_slAt e1
  have hi : i < δ.length := (List.getElem?_eq_some_iff.mp e).1
  have less : ∀ b ∈ O.filter (fun b => decide (b ≠ a)), b ∈ O := fun b hb => (List.mem_filter.mp hb).1
  have nin : a ∉ O.filter (fun b => decide (b ≠ a)) := fun hb => by
    have := (List.mem_filter.mp hb).2
    simp at this
  have dp : Dp F.K (fz H (O.filter (fun b => decide (b ≠ a)))) (.ref a) (.list xs) := .lst (.inl (.inl (fz_mk nin p))) (q.same (fz_less less))
  refine ⟨a, O.filter (fun b => decide (b ≠ a)), ei, dp, ?_, fz_less less⟩
  have keepO : ∀ b, b ∈ O → b ≠ a → b ∈ O.filter (fun b => decide (b ≠ a)) := fun b hb hn => List.mem_filter.mpr ⟨hb, decide_eq_true hn⟩
  refine ⟨by rw [List.length_set]; exact sr.len, fun j s es => ?_, fun j k s t b e1' e2' m1 m2 q1 q2 => ?_, sr.old, fun b hb => keepO b (sr.bas b hb) (fun z => z2 (z ▸ hb)), sr.wa, fun b hb => sr.alive b (less b hb), fun p' mp => ?_⟩
  · by_cases hj : i = j
    · subst hj
      rw [List.getElem?_set_self hi] at es; cases es
      exact ⟨_, e1, dp⟩
    · rw [List.getElem?_set_ne hj] at es
      refine (sr.sl j s es).less less fun b mt eb => ?_
      have hb : b ∈ O := by
        have z := sr.sl j s es
        cases s with
        | own ys => obtain ⟨c, ws, r1, r2, _⟩ := z; rw [eb] at r1; cases r1; exact r2
        | io ys => obtain ⟨c, ws, r1, r2, _⟩ := z; rw [eb] at r1; cases r1; exact sr.bas _ (sr.wa _ r2)
        | un => exact mt.elim
        | d _ => exact mt.elim
        | fn _ => exact mt.elim
      exact keepO b hb fun z => hj (by subst z; exact sr.sep i j _ _ _ e es trivial mt e1 eb)
  · have f : ∀ (j : Nat) (s : Sl), (δ.set i (.d (.list xs)))[j]? = some s → s.mut → δ[j]? = some s := fun j s e m => by
      by_cases hj : i = j
      · subst hj; rw [List.getElem?_set_self hi] at e; cases e; exact m.elim
      · rw [List.getElem?_set_ne hj] at e; exact e
    exact sr.sep j k s t b (f j s e1' m1) (f k t e2' m2) m1 m2 q1 q2
  · obtain ⟨x1, x2, x3⟩ := sr.pin p' mp
    refine ⟨keepO _ x1 (fun z => x3 i _ e trivial (by rw [z]; exact e1)), x2, fun j s es mt q => ?_⟩
    by_cases hj : i = j
    · subst hj; rw [List.getElem?_set_self hi] at es; cases es; exact mt.elim
    · rw [List.getElem?_set_ne hj] at es; exact x3 j s es mt q

theorem de_var (i : Nat) {x : Str} {pos : Pos} (hN : X.N[i]? = some x := by rfl) (hv : Vis X.env.scope x := by first | exact Or.inl rfl | exact Or.inr (Or.inl rfl) | exact Or.inr (Or.inr rfl))
    (hd : (x == ("__debug__" : Str)) = false := by decide) (hcd : (x == ("__classdict__" : Str)) = false := by decide) : DE X W (.Name x pos) (vVar i) := by
  refine ⟨_, pe_var hN hv hd hcd, fun G O δ σ H Q sr an => ?_⟩
  unfold vVar at an
  cases e : δ[i]? with
  | none => rw [e] at an; exact an.elim
  | some s =>
    rw [e] at an
    cases s with
    | d x =>
      obtain ⟨v, e1, p⟩ := sr.sl i _ e
      exact ⟨v, of_slAt e1, an v H O sr (Same.refl _) p⟩
    | own xs =>
      obtain ⟨v, O', e1, p, sr', g⟩ := sr.release e
      exact ⟨.ref v, e1, an _ H O' sr' g p⟩
    | un => exact an.elim
    | io xs => exact an.elim
    | fn n => exact an.elim

/-! ### operations -/
def vBin (g : D → D → Option D) (fa fb : XT D) : XT D := fun δ => (fa δ).bind fun p => (fb p.2).bind fun q => (Rs.of (g p.1 q.1)).bind fun z => .ok (z, q.2)
def vUn (g : D → Option D) (fa : XT D) : XT D := fun δ => (fa δ).bind fun p => (Rs.of (g p.1)).bind fun z => .ok (z, p.2)
/-- an operation that makes new things alone; M is what is frozen -/
def Pr2 (K : PySem.W.Frag) (r : R2) (g : D → D → Option D) : Prop := ∀ (O : List Addr) (H : Hp) (u v : V) (x y z : D) (Q : VK), (∀ a ∈ O, H a ≠ none) → Dp K (fz H O) u x → Dp K (fz H O) v y → g x y = some z →
  (∀ w H', Same H H' → Dp K (fz H' O) w z → Q w H') → r u v H Q
def Pr1 (K : PySem.W.Frag) (r : V → Hp → VK → Prop) (g : D → Option D) : Prop := ∀ (O : List Addr) (H : Hp) (u : V) (x z : D) (Q : VK), (∀ a ∈ O, H a ≠ none) → Dp K (fz H O) u x → g x = some z →
  (∀ w H', Same H H' → Dp K (fz H' O) w z → Q w H') → r u H Q
def PrN (K : PySem.W.Frag) (r : List V → Hp → VK → Prop) (g : List D → Option D) : Prop := ∀ (O : List Addr) (H : Hp) (us : List V) (xs : List D) (z : D) (Q : VK), (∀ a ∈ O, H a ≠ none) → DpAll K (fz H O) us xs → g xs = some z →
  (∀ w H', Same H H' → Dp K (fz H' O) w z → Q w H') → r us H Q

theorem ans_of {G : G0} {O : List Addr} {σ : St} {H : Hp} {o : Option D} {δ : List Sl} {Q : VK} (sr : SR (fr X G) O δ σ H) (an : AnsG X W G O σ H (OkV X.K) ((Rs.of o).bind fun z => .ok (z, δ)) Q) :
    ∃ z, o = some z ∧ ∀ w H', Same H H' → Dp X.K (fz H' O) w z → Q w H' := by
  cases o with
  | none => exact an.elim
  | some z => exact ⟨z, rfl, fun w H' s p => an w H' O (sr.grow s) (fz_grow s) p⟩

theorem de_bin {op : Operator} {r : R2} {g : D → D → Option D} (ho : OpR X (binaryOp op) r) (hp : Pr2 X.K r g) (ha : DE X W a fa) (hb : DE X W b fb) : DE X W (.BinOp a op b pos) (vBin g fa fb) := by
  obtain ⟨ta, pa, qa⟩ := ha
  obtain ⟨tb, pb, qb⟩ := hb
  refine ⟨_, pe_op ho pa pb, fun G O δ σ H Q sr an => ?_⟩
  refine qa G O δ σ H _ sr (an.seq fun x δ1 v H1 O1 _ sr1 g1 d1 a1 => qb G O1 δ1 σ H1 _ sr1 (a1.seq fun y δ2 w H2 O2 _ sr2 g2 d2 a2 => ?_))
  obtain ⟨z, ez, k⟩ := ans_of sr2 a2
  exact hp O2 H2 v w x y z Q sr2.alive (d1.same g2) d2 ez k
theorem de_cmp {op : CmpOp} {r : R2} {g : D → D → Option D} (ho : OpR X (compareOp op) r) (hp : Pr2 X.K r g) (ha : DE X W a fa) (hb : DE X W b fb) (hm : behindInMarks op b = false) : DE X W (.Compare a [op] [b] pos) (vBin g fa fb) := by
  obtain ⟨ta, pa, qa⟩ := ha
  obtain ⟨tb, pb, qb⟩ := hb
  refine ⟨_, pe_cmpR ho pa pb hm, fun G O δ σ H Q sr an => ?_⟩
  refine qa G O δ σ H _ sr (an.seq fun x δ1 v H1 O1 _ sr1 g1 d1 a1 => qb G O1 δ1 σ H1 _ sr1 (a1.seq fun y δ2 w H2 O2 _ sr2 g2 d2 a2 => ?_))
  obtain ⟨z, ez, k⟩ := ans_of sr2 a2
  exact hp O2 H2 v w x y z Q sr2.alive (d1.same g2) d2 ez k
theorem de_un {op : UnaryOp} {r : V → Hp → VK → Prop} {g : D → Option D} (ho : UnR X (unaryOp op) r) (hp : Pr1 X.K r g) (ha : DE X W a fa) : DE X W (.UnaryOp op a pos) (vUn g fa) := by
  obtain ⟨ta, pa, qa⟩ := ha
  refine ⟨_, pe_un ho pa, fun G O δ σ H Q sr an => ?_⟩
  refine qa G O δ σ H _ sr (an.seq fun x δ1 v H1 O1 _ sr1 g1 d1 a1 => ?_)
  obtain ⟨z, ez, k⟩ := ans_of sr1 a1
  exact hp O1 H1 v x z Q sr1.alive d1 ez k
theorem de_ix {r : R2} {g : D → D → Option D} (hr : IxR X r) (hp : Pr2 X.K r g) (ha : DE X W a fa) (hb : DE X W b fb) (hs : PlainIx b) : DE X W (.Subscript a b pos) (vBin g fa fb) := by
  obtain ⟨ta, pa, qa⟩ := ha
  obtain ⟨tb, pb, qb⟩ := hb
  refine ⟨_, pe_ix hr pa pb hs, fun G O δ σ H Q sr an => ?_⟩
  refine qa G O δ σ H _ sr (an.seq fun x δ1 v H1 O1 _ sr1 g1 d1 a1 => qb G O1 δ1 σ H1 _ sr1 (a1.seq fun y δ2 w H2 O2 _ sr2 g2 d2 a2 => ?_))
  obtain ⟨z, ez, k⟩ := ans_of sr2 a2
  exact hp O2 H2 v w x y z Q sr2.alive (d1.same g2) d2 ez k

/-! ### argument lists, displays -/
def vNil : XT (List D) := fun δ => .ok ([], δ)
def vCons (fa : XT D) (fr : XT (List D)) : XT (List D) := fun δ => (fa δ).bind fun p => (fr p.2).bind fun q => .ok (p.1 :: q.1, q.2)
theorem da_nil : DA X W [] vNil := ⟨_, pa_nil, fun G O δ σ H Q sr an => an [] H O sr (Same.refl _) .nil⟩
theorem da_cons {e : Expr} {es : List Expr} {fe : XT D} {fes : XT (List D)} (ha : DE X W e fe) (hr : DA X W es fes) (hs : starEach (e :: es) X.env = (false, eval e X.env) :: starEach es X.env := by rfl) : DA X W (e :: es) (vCons fe fes) := by
  obtain ⟨ta, pa, qa⟩ := ha
  obtain ⟨tb, pb, qb⟩ := hr
  refine ⟨_, pa_cons pa pb hs, fun G O δ σ H Q sr an => ?_⟩
  refine qa G O δ σ H _ sr (an.seq fun x δ1 v H1 O1 _ sr1 g1 d1 a1 => qb G O1 δ1 σ H1 _ sr1 (a1.seq fun y δ2 w H2 O2 _ sr2 g2 d2 a2 => ?_))
  exact a2 (v :: w) H2 O2 sr2 (Same.refl _) (.cons (d1.same g2) d2)
def vArg (g : List D → Option D) (fe : XT (List D)) : XT D := fun δ => (fe δ).bind fun p => (Rs.of (g p.1)).bind fun z => .ok (z, p.2)
def mkTup (xs : List D) : Option D := if xs.length ≤ sizeLine then some (.tuple xs) else none
def mkLst (xs : List D) : Option D := if xs.length ≤ sizeLine then some (.list xs) else none
theorem ite_some {α : Type} {c : Prop} [Decidable c] {x z : α} (h : (if c then some x else none) = some z) : c ∧ z = x := by
  by_cases hc : c
  · rw [if_pos hc] at h; exact ⟨hc, (Option.some.inj h).symm⟩
  · rw [if_neg hc] at h; cases h
theorem new_tup {K : PySem.W.Frag} {O : List Addr} {H : Hp} {p : Addr} {us : List V} {xs : List D} (al : ∀ a ∈ O, H a ≠ none) (d : DpAll K (fz H O) us xs) (hp : H p = none) : Same H (upd H p (.tup us)) ∧ Dp K (fz (upd H p (.tup us)) O) (.ref p) (.tuple xs) :=
  ⟨same_upd hp, .tup (.inl (.inl (fz_mk (fun m => al p m hp) upd_same))) (d.same (fz_grow (same_upd hp)))⟩
theorem new_lst {K : PySem.W.Frag} {O : List Addr} {H : Hp} {p : Addr} {us : List V} {xs : List D} (al : ∀ a ∈ O, H a ≠ none) (d : DpAll K (fz H O) us xs) (hp : H p = none) : Same H (upd H p (.lst us)) ∧ Dp K (fz (upd H p (.lst us)) O) (.ref p) (.list xs) :=
  ⟨same_upd hp, .lst (.inl (.inl (fz_mk (fun m => al p m hp) upd_same))) (d.same (fz_grow (same_upd hp)))⟩
theorem de_tup {es : List Expr} {fe : XT (List D)} {k : Nat} (h : DA X W es fe) : DE X W (.Tuple es k pos) (vArg mkTup fe) := by
  obtain ⟨ta, pa, qa⟩ := h
  refine ⟨_, pe_tup pa, fun G O δ σ H Q sr an => ?_⟩
  refine qa G O δ σ H _ sr (an.seq fun x δ1 v H1 O1 _ sr1 g1 d1 a1 => ?_)
  obtain ⟨z, ez, k⟩ := ans_of sr1 a1
  obtain ⟨hz, rfl⟩ := ite_some ez
  refine ⟨by rw [DpAll.length d1]; exact hz, fun p hp => ?_⟩
  obtain ⟨s, d⟩ := new_tup sr1.alive d1 hp
  exact k _ _ s d
theorem de_lst {es : List Expr} {fe : XT (List D)} (h : DA X W es fe) : DE X W (.List es pos) (vArg mkLst fe) := by
  obtain ⟨ta, pa, qa⟩ := h
  refine ⟨_, pe_lst pa, fun G O δ σ H Q sr an => ?_⟩
  refine qa G O δ σ H _ sr (an.seq fun x δ1 v H1 O1 _ sr1 g1 d1 a1 => ?_)
  obtain ⟨z, ez, k⟩ := ans_of sr1 a1
  obtain ⟨hz, rfl⟩ := ite_some ez
  refine ⟨by rw [DpAll.length d1]; exact hz, fun p hp => ?_⟩
  obtain ⟨s, d⟩ := new_lst sr1.alive d1 hp
  exact k _ _ s d

/-! ### built-in functions and types, called -/
theorem de_callB {x : Str} {p : Pos} {id : String} {r : List V → Hp → VK → Prop} {g : List D → Option D} {e : Expr} {es : List Expr} {fe : XT (List D)} (hc : CallR X (.builtin id) r) (hp : PrN X.K r g) (hg : Gl X x) (hm : X.mg x = none) (hv : bootBuiltins x = some (.builtin id)) (ha : DA X W (e :: es) fe)
    (hn : x ≠ "__name__" := by decide) (hdb : (x == ("__debug__" : Str)) = false := by decide)
    (he : starEach (e :: es) X.env = (false, eval e X.env) :: starEach es X.env := by rfl) (hpl : (backTo pos (starEach es X.env)).any (·.1) = false := by rfl) : DE X W (.Call (.Name x p) (e :: es) [] pos) (vArg g fe) := by
  obtain ⟨ta, pa, qa⟩ := ha
  refine ⟨_, pe_callB hc hg hm hv pa hn hdb he hpl, fun G O δ σ H Q sr an => ?_⟩
  refine qa G O δ σ H _ sr (an.seq fun x δ1 v H1 O1 _ sr1 g1 d1 a1 => ?_)
  obtain ⟨z, ez, k⟩ := ans_of sr1 a1
  exact hp O1 H1 v x z Q sr1.alive d1 ez k
theorem de_callTy {x : Str} {p : Pos} {T : String} {r : List V → Hp → VK → Prop} {g : List D → Option D} {e : Expr} {es : List Expr} {fe : XT (List D)} (hc : CallR X (.type T) r) (hp : PrN X.K r g) (hg : Gl X x) (hm : X.mg x = none) (hv : bootBuiltins x = some (.type T)) (ha : DA X W (e :: es) fe)
    (hn : x ≠ "__name__" := by decide) (hdb : (x == ("__debug__" : Str)) = false := by decide)
    (he : starEach (e :: es) X.env = (false, eval e X.env) :: starEach es X.env := by rfl) (hpl : (backTo pos (starEach es X.env)).any (·.1) = false := by rfl) : DE X W (.Call (.Name x p) (e :: es) [] pos) (vArg g fe) := by
  obtain ⟨ta, pa, qa⟩ := ha
  refine ⟨_, pe_callTy hc hg hm hv pa hn hdb he hpl, fun G O δ σ H Q sr an => ?_⟩
  refine qa G O δ σ H _ sr (an.seq fun x δ1 v H1 O1 _ sr1 g1 d1 a1 => ?_)
  obtain ⟨z, ez, k⟩ := ans_of sr1 a1
  exact hp O1 H1 v x z Q sr1.alive d1 ez k

/-! ### tests -/
def asB : D → Option Bool
  | .bool b => some b
  | _ => none
def vTest (f : XT D) : XT Bool := fun δ => (f δ).bind fun p => (Rs.of (asB p.1)).bind fun k => .ok (k, p.2)
theorem asB_eq {d : D} {k : Bool} (h : asB d = some k) : d = .bool k := by
  cases d <;> first | (cases h; rfl) | cases h
theorem ans_ofB {α : Type} {G : G0} {O : List Addr} {σ : St} {H : Hp} {o : Option α} {δ : List Sl} {Q : α → Hp → Prop} (sr : SR (fr X G) O δ σ H) (an : AnsG X W G O σ H OkE ((Rs.of o).bind fun z => .ok (z, δ)) Q) :
    ∃ z, o = some z ∧ Q z H := by
  cases o with
  | none => exact an.elim
  | some z => exact ⟨z, rfl, an z H O sr (Same.refl _) rfl⟩
/-- an expression whose value is a bool, as a test -/
theorem dt_val {e : Expr} {f : XT D} (h : DE X W e f) (he : ∀ whole, isTrue e X.env whole = (do let v ← whole; standAt e.pos; holding [v] (truthy v)) := by intro _; rfl) : DT X W e (vTest f) := by
  obtain ⟨t, p, q⟩ := h
  refine ⟨_, pt_val p he, fun G O δ σ H Q sr an => ?_⟩
  refine q G O δ σ H _ sr (an.seq fun x δ1 v H1 O1 _ sr1 g1 d1 a1 => ?_)
  obtain ⟨k, ek, kq⟩ := ans_ofB sr1 a1
  have := asB_eq ek
  subst this
  cases d1
  exact ⟨k, rfl, kq⟩
theorem dt_cmp {op : CmpOp} {r : R2} {g : D → D → Option D} (ho : OpR X (compareOp op) r) (hp : Pr2 X.K r g) (ha : DE X W a fa) (hb : DE X W b fb) (hm : behindInMarks op b = false) : DT X W (.Compare a [op] [b] pos) (vTest (vBin g fa fb)) := by
  obtain ⟨ta, pa, qa⟩ := ha
  obtain ⟨tb, pb, qb⟩ := hb
  refine ⟨_, pt_cmpR ho pa pb hm, fun G O δ σ H Q sr an => ?_⟩
  unfold vTest vBin at an
  show ta σ H _
  refine qa G O δ σ H _ sr ?_
  cases ea : fa δ with
  | no => rw [ea] at an; exact an.elim
  | exc n f => rw [ea] at an; exact an
  | ok p =>
    rw [ea] at an
    intro v H1 O1 sr1 g1 d1
    refine qb G O1 p.2 σ H1 _ sr1 ?_
    have an := an.shift g1
    simp only [Rs.bind] at an
    cases eb : fb p.2 with
    | no => rw [eb] at an; exact an.elim
    | exc n f => rw [eb] at an; exact an
    | ok q =>
      rw [eb] at an
      intro w H2 O2 sr2 g2 d2
      have an := an.shift g2
      simp only [] at an
      cases ez : g p.1 q.1 with
      | none => rw [ez] at an; exact an.elim
      | some z =>
        rw [ez] at an
        simp only [Rs.of] at an
        cases ek : asB z with
        | none => rw [ek] at an; exact an.elim
        | some k =>
          rw [ek] at an
          refine hp O2 H2 v w p.1 q.1 z _ sr2.alive (Dp.same g2 d1) d2 ez fun u H3 s d3 => ?_
          have := asB_eq ek
          subst this
          cases d3
          exact ⟨k, rfl, an k H3 O2 (sr2.grow s) (fz_grow s) rfl⟩
def vAnd (f g : XT Bool) : XT Bool := fun δ => (f δ).bind fun p => if p.1 then g p.2 else .ok (false, p.2)
def vOr (f g : XT Bool) : XT Bool := fun δ => (f δ).bind fun p => if p.1 then .ok (true, p.2) else g p.2
def vNot (f : XT Bool) : XT Bool := fun δ => (f δ).bind fun p => .ok (!p.1, p.2)
variable {ta tb : XT Bool} {rest : List Expr}
theorem dw_and1 (ha : DT X W a ta) : DW X W (.BoolOp .And [a] pos) ta := by
  obtain ⟨t, p, q⟩ := ha
  exact ⟨t, pw_and1 p, q⟩
theorem dw_or1 (ha : DT X W a ta) : DW X W (.BoolOp .Or [a] pos) ta := by
  obtain ⟨t, p, q⟩ := ha
  exact ⟨t, pw_or1 p, q⟩
theorem dw_and (ha : DT X W a ta) (hb : DW X W (.BoolOp .And (b :: rest) pos) tb) : DW X W (.BoolOp .And (a :: b :: rest) pos) (vAnd ta tb) := by
  obtain ⟨t, p, q⟩ := ha
  obtain ⟨t2, p2, q2⟩ := hb
  refine ⟨_, pw_and p p2, fun G O δ σ H Q sr an => ?_⟩
  refine q G O δ σ H _ sr (an.seq fun x δ1 v H1 O1 _ sr1 g1 d1 a1 => ?_)
  obtain rfl : v = x := d1
  cases v with
  | true => rw [if_pos rfl]; exact q2 G O1 δ1 σ H1 Q sr1 a1
  | false => rw [if_neg Bool.false_ne_true]; exact a1 false H1 O1 sr1 (Same.refl _) rfl
theorem dw_or (ha : DT X W a ta) (hb : DW X W (.BoolOp .Or (b :: rest) pos) tb) : DW X W (.BoolOp .Or (a :: b :: rest) pos) (vOr ta tb) := by
  obtain ⟨t, p, q⟩ := ha
  obtain ⟨t2, p2, q2⟩ := hb
  refine ⟨_, pw_or p p2, fun G O δ σ H Q sr an => ?_⟩
  refine q G O δ σ H _ sr (an.seq fun x δ1 v H1 O1 _ sr1 g1 d1 a1 => ?_)
  obtain rfl : v = x := d1
  cases v with
  | false => rw [if_neg Bool.false_ne_true]; exact q2 G O1 δ1 σ H1 Q sr1 a1
  | true => rw [if_pos rfl]; exact a1 true H1 O1 sr1 (Same.refl _) rfl
theorem dw_dt (h : DW X W a ta) : DT X W a ta := by
  obtain ⟨t, p, q⟩ := h
  exact ⟨t, p.pt, q⟩
theorem dt_not (ha : DT X W a ta) : DT X W (.UnaryOp .Not a pos) (vNot ta) := by
  obtain ⟨t, p, q⟩ := ha
  refine ⟨_, pt_not p, fun G O δ σ H Q sr an => ?_⟩
  refine q G O δ σ H _ sr (an.seq fun x δ1 v H1 O1 _ sr1 g1 d1 a1 => ?_)
  obtain rfl : v = x := d1
  exact a1 _ H1 O1 sr1 (Same.refl _) rfl
/-! .. as values -/
def vAndV (f g : XT D) : XT D := fun δ => (f δ).bind fun p => (Rs.of (asB p.1)).bind fun k => if k then g p.2 else .ok (.bool false, p.2)
def vOrV (f g : XT D) : XT D := fun δ => (f δ).bind fun p => (Rs.of (asB p.1)).bind fun k => if k then .ok (.bool true, p.2) else g p.2
theorem de_one {op} (h : DE X W a fa) : DE X W (.BoolOp op [a] pos) fa := by
  obtain ⟨t, p, q⟩ := h
  exact ⟨t, pe_one p, q⟩
theorem de_and (ha : DE X W a fa) (hb : DE X W (.BoolOp .And (b :: rest) pos) fb) : DE X W (.BoolOp .And (a :: b :: rest) pos) (vAndV fa fb) := by
  obtain ⟨t, p, q⟩ := ha
  obtain ⟨t2, p2, q2⟩ := hb
  refine ⟨_, pe_and p p2, fun G O δ σ H Q sr an => ?_⟩
  refine q G O δ σ H _ sr (an.seq fun x δ1 v H1 O1 _ sr1 g1 d1 a1 => ?_)
  dsimp only at a1
  cases ek : asB x with
  | none => rw [ek] at a1; exact a1.elim
  | some k =>
    rw [ek] at a1
    have := asB_eq ek
    subst this
    cases d1
    refine ⟨k, rfl, ?_⟩
    cases k with
    | true => rw [if_pos rfl]; exact q2 G O1 δ1 σ H1 Q sr1 a1
    | false => rw [if_neg Bool.false_ne_true]; exact a1 _ H1 O1 sr1 (Same.refl _) (.bl false)
theorem de_or (ha : DE X W a fa) (hb : DE X W (.BoolOp .Or (b :: rest) pos) fb) : DE X W (.BoolOp .Or (a :: b :: rest) pos) (vOrV fa fb) := by
  obtain ⟨t, p, q⟩ := ha
  obtain ⟨t2, p2, q2⟩ := hb
  refine ⟨_, pe_or p p2, fun G O δ σ H Q sr an => ?_⟩
  refine q G O δ σ H _ sr (an.seq fun x δ1 v H1 O1 _ sr1 g1 d1 a1 => ?_)
  dsimp only at a1
  cases ek : asB x with
  | none => rw [ek] at a1; exact a1.elim
  | some k =>
    rw [ek] at a1
    have := asB_eq ek
    subst this
    cases d1
    refine ⟨k, rfl, ?_⟩
    cases k with
    | false => rw [if_neg Bool.false_ne_true]; exact q2 G O1 δ1 σ H1 Q sr1 a1
    | true => rw [if_pos rfl]; exact a1 _ H1 O1 sr1 (Same.refl _) (.bl true)
def vNotV (f : XT D) : XT D := fun δ => (f δ).bind fun p => (Rs.of (asB p.1)).bind fun k => .ok (.bool !k, p.2)
theorem de_not (ha : DE X W a fa) : DE X W (.UnaryOp .Not a pos) (vNotV fa) := by
  obtain ⟨t, p, q⟩ := ha
  refine ⟨_, pe_not p, fun G O δ σ H Q sr an => ?_⟩
  refine q G O δ σ H _ sr (an.seq fun x δ1 v H1 O1 _ sr1 g1 d1 a1 => ?_)
  dsimp only at a1
  cases ek : asB x with
  | none => rw [ek] at a1; exact a1.elim
  | some k =>
    rw [ek] at a1
    have := asB_eq ek
    subst this
    cases d1
    exact ⟨k, rfl, a1 _ H1 O1 sr1 (Same.refl _) (.bl _)⟩
def vIf (t : XT Bool) (f g : XT D) : XT D := fun δ => (t δ).bind fun p => if p.1 then f p.2 else g p.2
theorem de_if {c : Expr} {tc : XT Bool} (hc : DT X W c tc) (ha : DE X W a fa) (hb : DE X W b fb) : DE X W (.IfExp c a b pos) (vIf tc fa fb) := by
  obtain ⟨t, p, q⟩ := hc
  obtain ⟨t1, p1, q1⟩ := ha
  obtain ⟨t2, p2, q2⟩ := hb
  refine ⟨_, pe_ifExp p p1 p2, fun G O δ σ H Q sr an => ?_⟩
  refine q G O δ σ H _ sr (an.seq fun x δ1 v H1 O1 _ sr1 g1 d1 a1 => ?_)
  obtain rfl : v = x := d1
  cases v with
  | true => rw [if_pos rfl]; exact q1 G O1 δ1 σ H1 Q sr1 a1
  | false => rw [if_neg Bool.false_ne_true]; exact q2 G O1 δ1 σ H1 Q sr1 a1
/-- a < b < c -/
def vChain (g h : D → D → Option D) (fa fb fc : XT D) : XT D := fun δ => (fa δ).bind fun p => (fb p.2).bind fun q => (Rs.of ((g p.1 q.1).bind asB)).bind fun k =>
  if k then (fc q.2).bind fun r => (Rs.of (h q.1 r.1)).bind fun z => .ok (z, r.2) else .ok (.bool false, q.2)
end
end Ev
set_option maxHeartbeats 200000
/-! E3: the operations by data. Own work. -/
namespace Ev
open PySem PySem.Spec L2

section
variable {K : PySem.W.Frag}
theorem Pr2.or_l {r r' : R2} {g : D → D → Option D} (h : Pr2 K r g) : Pr2 K (fun x y H Q => r x y H Q ∨ r' x y H Q) g :=
  fun O H u v x y z Q al d1 d2 e k => .inl (h O H u v x y z Q al d1 d2 e k)
/-- two kinds of operands -/
theorem Pr2.both {r r' : R2} {g h : D → D → Option D} (a : Pr2 K r g) (b : Pr2 K r' h) : Pr2 K (fun x y H Q => r x y H Q ∨ r' x y H Q) (fun x y => (g x y).orElse fun _ => h x y) :=
  fun O H u v x y z Q al d1 d2 e k => by
    dsimp only at e
    cases eg : g x y with
    | some w => rw [eg] at e; obtain rfl : w = z := Option.some.inj e; exact .inl (a O H u v x y w Q al d1 d2 eg k)
    | none => rw [eg] at e; exact .inr (b O H u v x y z Q al d1 d2 e k)
theorem PrN.both {r r' : List V → Hp → VK → Prop} {g h : List D → Option D} (a : PrN K r g) (b : PrN K r' h) : PrN K (fun x H Q => r x H Q ∨ r' x H Q) (fun x => (g x).orElse fun _ => h x) :=
  fun O H u x z Q al d1 e k => by
    dsimp only at e
    cases eg : g x with
    | some w => rw [eg] at e; obtain rfl : w = z := Option.some.inj e; exact .inl (a O H u x w Q al d1 eg k)
    | none => rw [eg] at e; exact .inr (b O H u x z Q al d1 e k)

/-! ### ints -/
def iI (C : Int → Int → Bool) (f : Int → Int → Int) : D → D → Option D
  | .int i, .int j => if C i j then some (.int (f i j)) else none
  | _, _ => none
def iB (f : Int → Int → Bool) : D → D → Option D
  | .int i, .int j => some (.bool (f i j))
  | _, _ => none
theorem dp_int {M : Hp} {v : V} {i : Int} (h : Dp K M v (.int i)) : v = .int i := by cases h; rfl
theorem pr_iI {P : Int → Int → Prop} {C : Int → Int → Bool} {f : Int → Int → Int} (h : ∀ i j, C i j = true → P i j) : Pr2 K (rI P fun i j => .int (f i j)) (iI C f) := fun O H u v x y z Q al d1 d2 e k => by
  unfold iI at e
  split at e
  · obtain rfl := dp_int d1
    obtain rfl := dp_int d2
    obtain ⟨c, rfl⟩ := ite_some e
    exact ⟨_, _, rfl, rfl, h _ _ c, k _ H (Same.refl H) (.int _)⟩
  · cases e
theorem pr_iI0 {f : Int → Int → Int} : Pr2 K (rI0 fun i j => .int (f i j)) (iI (fun _ _ => true) f) := fun O H u v x y z Q al d1 d2 e k => by
  unfold iI at e
  split at e
  · obtain rfl := dp_int d1
    obtain rfl := dp_int d2
    rw [if_pos rfl] at e
    cases e
    exact ⟨_, _, rfl, rfl, k _ H (Same.refl H) (.int _)⟩
  · cases e
theorem pr_iB {f : Int → Int → Bool} : Pr2 K (rI0 fun i j => .bl (f i j)) (iB f) := fun O H u v x y z Q al d1 d2 e k => by
  unfold iB at e
  split at e
  · obtain rfl := dp_int d1
    obtain rfl := dp_int d2
    cases e
    exact ⟨_, _, rfl, rfl, k _ H (Same.refl H) (.bl _)⟩
  · cases e
def iU (f : Int → Int) : D → Option D
  | .int i => some (.int (f i))
  | _ => none
theorem pr_iU {f : Int → Int} : Pr1 K (rU fun i => .int (f i)) (iU f) := fun O H u x z Q al d e k => by
  unfold iU at e
  split at e
  · obtain rfl := dp_int d
    cases e
    exact ⟨_, rfl, k _ H (Same.refl H) (.int _)⟩
  · cases e
end

/-! ### sequences and texts, added -/
section
variable {X : Cx}
def rCatL (K : PySem.W.Frag) : R2 := fun x y H Q => ∃ l b xs zs, x = .ref l ∧ y = .ref b ∧ SqL K H l xs ∧ SqL K H b zs ∧ xs.length + zs.length ≤ sizeLine ∧ ∀ p, H p = none → Q (.ref p) (upd H p (.lst (xs ++ zs)))
theorem op_catL : OpR X (binaryOp .Add) (rCatL X.K) := by
  intro pins s σ H x y v u Q I rx ry h
  obtain ⟨l, b, xs, zs, rfl, rfl, hH, hB, hz, q⟩ := h
  cases rx
  cases ry
  obtain ⟨its, r, ⟨⟨cls, dd, data, sl⟩, n, ho, hc, hdn, hd⟩, hl⟩ := I.list hH
  obtain ⟨its2, r2, ⟨⟨cls2, dd2, data2, sl2⟩, n2, ho2, hc2, hdn2, hd2⟩, hl2⟩ := I.list hB
  simp only at hc hd hc2 hd2
  subst hc hd hc2 hd2
  have e1 := r.length
  have e2 := r2.length
  refine PySem.concat_meets ⟨_, ho, rfl⟩ ⟨_, ho2, rfl⟩ noFill_list_add seq_list_add PySem.F.slot_list_add PySem.F.entry_list_add (PySem.F.args_list_add_2 _ _)
    (PyProof.Rows.list_addW l b its.toArray its2.toArray n n2 dd dd2 sl sl2 (by rw [List.size_toArray, List.size_toArray]; omega)) ⟨ho, ho2, ?_⟩
  have ea : its.toArray ++ its2.toArray = (its ++ its2).toArray := by simp
  rw [ea]
  exact ⟨.ref _, _, I.lnew (t' := s.toks) (r.append r2) (by rw [List.length_append]; omega), rfl, q _ I.fresh⟩
end

def gCat : D → D → Option D
  | .list xs, .list ys => if xs.length + ys.length ≤ sizeLine then some (.list (xs ++ ys)) else none
  | .tuple xs, .tuple ys => if xs.length + ys.length ≤ sizeLine then some (.tuple (xs ++ ys)) else none
  | .str x, .str y => if x.length + y.length ≤ sizeLine then some (.str (x ++ y)) else none
  | _, _ => none
section
variable {K : PySem.W.Frag}
theorem pr_catS : Pr2 K (fun x y H Q => rCatL K x y H Q ∨ (rCatA K x y H Q ∨ ∃ i j, x = .str i ∧ y = .str j ∧ i.length + j.length ≤ sizeLine ∧ Q (.str (i ++ j)) H)) gCat := fun O H u v x y z Q al d1 d2 e k => by
  unfold gCat at e
  split at e
  · obtain ⟨c, rfl⟩ := ite_some e
    cases d1 with
    | lst h1 t1 =>
      cases d2 with
      | lst h2 t2 =>
        refine .inl ⟨_, _, _, _, rfl, rfl, SqL.same (fz_same H O) h1, SqL.same (fz_same H O) h2, by rw [t1.length, t2.length]; exact c, fun p hp => ?_⟩
        obtain ⟨s, d⟩ := new_lst al (t1.append t2) hp
        exact k _ _ s d
  · obtain ⟨c, rfl⟩ := ite_some e
    cases d1 with
    | tup h1 t1 =>
      cases d2 with
      | tup h2 t2 =>
        refine .inr (.inl ⟨_, _, _, _, rfl, rfl, SqT.same (fz_same H O) h1, SqT.same (fz_same H O) h2, by rw [t1.length, t2.length]; exact c, fun ex => ?_, fun _ ey => ?_, fun _ _ p hp => ?_⟩)
        · subst ex; cases t1; exact k _ H (Same.refl H) (.tup h2 t2)
        · subst ey; cases t2; exact k _ H (Same.refl H) (by rw [List.append_nil]; exact .tup h1 t1)
        · obtain ⟨s, d⟩ := new_tup al (t1.append t2) hp
          exact k _ _ s d
  · obtain ⟨c, rfl⟩ := ite_some e
    cases d1
    cases d2
    exact .inr (.inr ⟨_, _, rfl, rfl, c, k _ H (Same.refl H) (.str _)⟩)
  · cases e
def gAdd : D → D → Option D := fun x y => (iI (fun _ _ => true) (fun i j => i + j) x y).orElse fun _ => gCat x y
theorem gAdd_int (i j : Int) : gAdd (.int i) (.int j) = some (.int (i + j)) := rfl
theorem gAdd_list (xs ys : List D) : gAdd (.list xs) (.list ys) = if xs.length + ys.length ≤ sizeLine then some (.list (xs ++ ys)) else none := rfl
theorem gAdd_tuple (xs ys : List D) : gAdd (.tuple xs) (.tuple ys) = if xs.length + ys.length ≤ sizeLine then some (.tuple (xs ++ ys)) else none := rfl
theorem gAdd_str (x y : Str) : gAdd (.str x) (.str y) = if x.length + y.length ≤ sizeLine then some (.str (x ++ y)) else none := rfl
end
section
variable {X : Cx} {W : WX} {a b c : Expr} {fa fb fc : XT D} {pos : Pos}
theorem de_add (ha : DE X W a fa) (hb : DE X W b fb) : DE X W (.BinOp a .Add b pos) (vBin gAdd fa fb) :=
  de_bin (op_add.or (op_catL.or (op_catA.or op_add_str))) (Pr2.both pr_iI0 pr_catS) ha hb
def gSub : D → D → Option D := iI (fun _ _ => true) fun i j => i - j
theorem de_sub (ha : DE X W a fa) (hb : DE X W b fb) : DE X W (.BinOp a .Sub b pos) (vBin gSub fa fb) := de_bin op_sub pr_iI0 ha hb
/-! products, quotients, rests -/
def cMul (i j : Int) : Bool := decide (i.natAbs.log2 + j.natAbs.log2 < 1000000) || (decide (-(2 ^ 64) < i ∧ i < 2 ^ 64) || decide (-(2 ^ 64) < j ∧ j < 2 ^ 64))
def rMulA : R2 := fun x y H Q => rI CMulW (fun i j => .int (i * j)) x y H Q ∨ rI CMul (fun i j => .int (i * j)) x y H Q
theorem pr_mul {K : PySem.W.Frag} : Pr2 K rMulA (iI cMul fun i j => i * j) := fun O H u v x y z Q al d1 d2 e k => by
  unfold iI at e
  split at e
  · obtain rfl := dp_int d1
    obtain rfl := dp_int d2
    obtain ⟨c, rfl⟩ := ite_some e
    unfold cMul at c
    simp only [Bool.or_eq_true, decide_eq_true_eq] at c
    rcases c with c | c | c
    · exact .inl ⟨_, _, rfl, rfl, c, k _ H (Same.refl H) (.int _)⟩
    · exact .inr ⟨_, _, rfl, rfl, .inl c, k _ H (Same.refl H) (.int _)⟩
    · exact .inr ⟨_, _, rfl, rfl, .inr c, k _ H (Same.refl H) (.int _)⟩
  · cases e

theorem de_mul (ha : DE X W a fa) (hb : DE X W b fb) : DE X W (.BinOp a .Mult b pos) (vBin (iI cMul fun i j => i * j) fa fb) := de_bin (op_mulW.or op_mul) pr_mul ha hb
/-- a product of an int, or a tuple so many times -/
def gRepT : D → D → Option D
  | .tuple xs, .int k => if xs ≠ [] ∧ 2 ≤ k ∧ k ≤ 1000 ∧ xs.length ≤ 1000 then some (.tuple (List.replicate k.toNat xs).flatten) else none
  | _, _ => none
theorem pr_repT {K : PySem.W.Frag} : Pr2 K (rRepT K) gRepT := fun O H u v x y z Q al d1 d2 e k => by
  unfold gRepT at e
  split at e
  · obtain rfl := dp_int d2
    obtain ⟨⟨c0, c1, c2, c3⟩, rfl⟩ := ite_some e
    cases d1 with
    | tup h1 t1 =>
      refine ⟨_, _, _, rfl, rfl, SqT.same (fz_same H O) h1, fun z => ?_, c1, c2, by rw [t1.length]; exact c3, fun p hp => ?_⟩
      · subst z; cases t1; exact c0 rfl
      · obtain ⟨s, d⟩ := new_tup al (t1.rep _) hp
        exact k _ _ s d
  · cases e
def gMul : D → D → Option D := fun x y => (iI cMul (fun i j => i * j) x y).orElse fun _ => gRepT x y
theorem de_mulT (ha : DE X W a fa) (hb : DE X W b fb) : DE X W (.BinOp a .Mult b pos) (vBin gMul fa fb) := de_bin ((op_mulW.or op_mul).or op_repT) (Pr2.both pr_mul pr_repT) ha hb
/-- a written list so many times -/
def gRepL (xs : List D) : D → Option D
  | .int k => if 0 ≤ k ∧ k ≤ 1000 then some (.list (List.replicate k.toNat xs).flatten) else none
  | _ => none
theorem de_repL {es : List Expr} {fe : XT (List D)} {p2 : Pos} (ha : DA X W es fe) (hb : DE X W b fb) : DE X W (.BinOp (.List es p2) .Mult b pos) (fun δ => (fe δ).bind fun p => if p.1.length ≤ 1000 then (fb p.2).bind fun q => (Rs.of (gRepL p.1 q.1)).bind fun z => .ok (z, q.2) else .no) := by
  obtain ⟨ta, pa, qa⟩ := ha
  obtain ⟨tb, pb, qb⟩ := hb
  refine ⟨_, pe_op op_rep (pe_lst pa) pb, fun G O δ σ H Q sr an => ?_⟩
  refine qa G O δ σ H _ sr (an.seq fun x δ1 vs H1 O1 _ sr1 g1 d1 a1 => ?_)
  have hlen : vs.length = x.length := DpAll.length d1
  dsimp only at a1
  by_cases hl : x.length ≤ 1000
  · rw [if_pos hl] at a1
    refine ⟨Nat.le_trans (Nat.le_of_eq hlen) (Nat.le_trans hl (by decide)), fun p hp => ?_⟩
    obtain ⟨s, d⟩ := new_lst sr1.alive d1 hp
    have np : p ∉ O1 := sr1.notO hp
    refine qb G O1 δ1 σ _ _ (sr1.grow s) ((a1.shift (fz_grow s)).seq fun y δ2 w H2 O2 _ sr2 g2 d2 a2 => ?_)
    obtain ⟨z, ez, k⟩ := ans_of sr2 a2
    dsimp only at ez
    have d2' : Dp X.K (fz H2 O2) w y := d2
    cases y with
    | int kk =>
      obtain rfl := dp_int d2'
      obtain ⟨⟨c2, c3⟩, rfl⟩ := ite_some ez
      have e2 : H2 p = some (.lst vs) := fz_same H2 O2 _ _ (g2 _ _ (fz_mk np upd_same))
      have d3 : DpAll X.K (fz H2 O2) vs x := DpAll.same ((fz_grow s).trans g2) d1
      have hk : vs.length * kk.toNat ≤ 1000 * 1000 := Nat.mul_le_mul (by omega) (by omega)
      refine ⟨p, kk, vs, rfl, rfl, e2, by omega, by omega, Nat.le_trans hk (by decide), fun q hq => ?_⟩
      obtain ⟨s2, d4⟩ := new_lst sr2.alive (d3.rep kk.toNat) hq
      exact k _ _ s2 d4
    | _ => cases ez
  · rw [if_neg hl] at a1
    exact a1.elim
end
end Ev
set_option maxHeartbeats 200000
/-! E4: comparisons, items, slices, built-ins by data. Own work. -/
namespace Ev
open PySem PySem.Spec L2

section
variable {K : PySem.W.Frag}
/-! ### quotients -/
def cDiv (_ j : Int) : Bool := decide (0 < j) && decide (j.natAbs.log2 < 9000)
theorem cDiv_ok (i j : Int) (h : cDiv i j = true) : CDivW i j := by
  unfold cDiv at h
  rw [Bool.and_eq_true, decide_eq_true_eq, decide_eq_true_eq] at h
  exact h
def gDiv : D → D → Option D := iI cDiv fun i j => i / j
def cMod (_ j : Int) : Bool := decide (0 < j)
def gMod : D → D → Option D := iI cMod fun i j => i % j
/-! ### == and != -/
def gEq : D → D → Option D := fun x y => if SeqAt.shaped x && SeqAt.shaped y then some (.bool (PyData.eqv x y)) else none
def gNe : D → D → Option D := fun x y => if SeqAt.shaped x && SeqAt.shaped y then some (.bool (!PyData.eqv x y)) else none
theorem pr_eq : Pr2 K (rEqD K) gEq := fun O H u v x y z Q al d1 d2 e k => by
  obtain ⟨c, rfl⟩ := ite_some e
  rw [Bool.and_eq_true] at c
  exact ⟨x, y, d1.same (fz_same H O), d2.same (fz_same H O), c.1, c.2, k _ H (Same.refl H) (.bl _)⟩
theorem pr_ne : Pr2 K (rNeD K) gNe := fun O H u v x y z Q al d1 d2 e k => by
  obtain ⟨c, rfl⟩ := ite_some e
  rw [Bool.and_eq_true] at c
  exact ⟨x, y, d1.same (fz_same H O), d2.same (fz_same H O), c.1, c.2, k _ H (Same.refl H) (.bl _)⟩
/-! ### is None -/
def isN : D → Bool
  | .none => true
  | _ => false
def gIsN : D → D → Option D
  | x, .none => some (.bool (isN x))
  | _, _ => none
def gNotN : D → D → Option D
  | x, .none => some (.bool (!isN x))
  | _, _ => none
theorem dp_none {M : Hp} {v : V} (h : Dp K M v .none) : v = .non := by cases h; rfl
theorem dp_isN {M : Hp} {v : V} {x : D} (h : Dp K M v x) : decide (v = .non) = isN x := by
  cases h <;> simp [isN]
theorem pr_isN : Pr2 K (fun x y H Q => y = .non ∧ Q (.bl (decide (x = .non))) H) gIsN := fun O H u v x y z Q al d1 d2 e k => by
  unfold gIsN at e
  split at e
  · obtain rfl := dp_none d2
    have e' := Option.some.inj e
    refine ⟨rfl, ?_⟩
    rw [dp_isN d1]
    exact k _ H (Same.refl H) (by rw [← e']; exact .bl _)
  · cases e
theorem pr_notN : Pr2 K (fun x y H Q => y = .non ∧ Q (.bl (!decide (x = .non))) H) gNotN := fun O H u v x y z Q al d1 d2 e k => by
  unfold gNotN at e
  split at e
  · obtain rfl := dp_none d2
    have e' := Option.some.inj e
    refine ⟨rfl, ?_⟩
    rw [dp_isN d1]
    exact k _ H (Same.refl H) (by rw [← e']; exact .bl _)
  · cases e
/-! ### in -/
def flatD : D → Bool
  | .none => true
  | .bool _ => true
  | .int _ => true
  | .str _ => true
  | _ => false
theorem flat_of {M : Hp} {v : V} {x : D} (h : Dp K M v x) (f : flatD x = true) : flatV v = true := by
  cases h <;> first | rfl | cases f
theorem eqV_of {M : Hp} {u v : V} {x y : D} (h : Dp K M u x) (h' : Dp K M v y) (f : flatD x = true) (f' : flatD y = true) : eqV u v = PyData.eqv x y := by
  cases h <;> first | (cases f; done) | (cases h' <;> first | (cases f'; done) | (simp only [eqV, PyData.eqv]))
theorem flats_of {M : Hp} : ∀ {vs : List V} {xs : List D}, DpAll K M vs xs → xs.all flatD = true → vs.all flatV = true
  | _, _, .nil, _ => rfl
  | _, _, .cons a b, f => by
    rw [List.all_cons, Bool.and_eq_true] at f
    rw [List.all_cons, flat_of a f.1, flats_of b f.2]; rfl
theorem inV_of {M : Hp} {v : V} {x : D} (h : Dp K M v x) (f : flatD x = true) : ∀ {vs : List V} {xs : List D}, DpAll K M vs xs → xs.all flatD = true → inV v vs = xs.any fun y => PyData.eqv y x
  | _, _, .nil, _ => rfl
  | _, _, .cons a b, g => by
    rw [List.all_cons, Bool.and_eq_true] at g
    have ih := inV_of h f b g.2
    unfold inV at ih ⊢
    rw [List.any_cons, List.any_cons, ih, eqV_of a h g.1 f]
/-- among flat items of a list or a tuple -/
def gInF (neg : Bool) : D → D → Option D
  | x, .list ys => if flatD x && ys.all flatD then some (.bool (if neg then !ys.any fun y => PyData.eqv y x else ys.any fun y => PyData.eqv y x)) else none
  | x, .tuple ys => if flatD x && ys.all flatD then some (.bool (if neg then !ys.any fun y => PyData.eqv y x else ys.any fun y => PyData.eqv y x)) else none
  | _, _ => none
theorem pr_inF {neg : Bool} : Pr2 K (rIn K neg) (gInF neg) := fun O H u v x y z Q al d1 d2 e k => by
  unfold gInF at e
  split at e
  · obtain ⟨c, rfl⟩ := ite_some e
    rw [Bool.and_eq_true] at c
    cases d2 with
    | lst h t =>
      refine ⟨_, _, rfl, .inl (SqL.same (fz_same H O) h), flat_of d1 c.1, flats_of t c.2, ?_⟩
      rw [inV_of d1 c.1 t c.2]
      exact k _ H (Same.refl H) (by cases neg <;> exact .bl _)
  · obtain ⟨c, rfl⟩ := ite_some e
    rw [Bool.and_eq_true] at c
    cases d2 with
    | tup h t =>
      refine ⟨_, _, rfl, .inr (SqT.same (fz_same H O) h), flat_of d1 c.1, flats_of t c.2, ?_⟩
      rw [inV_of d1 c.1 t c.2]
      exact k _ H (Same.refl H) (by cases neg <;> exact .bl _)
  · cases e
/-! ### items -/
theorem atI_D {M : Hp} {vs : List V} {xs : List D} {i : Int} {z : D} (h : DpAll K M vs xs) (e : atI xs i = some z) : ∃ v, atI vs i = some v ∧ Dp K M v z := by
  unfold atI at e ⊢
  rw [h.length]
  cases hn : ixN xs.length i with
  | none => rw [hn] at e; cases e
  | some j =>
    rw [hn] at e
    exact h.get e
def gIx : D → D → Option D
  | .list xs, .int i => atI xs i
  | .tuple xs, .int i => atI xs i
  | .str x, .int i => if x.length ≤ sizeLine then (atI x.cps.toList i).map fun c => .str ⟨#[c]⟩ else none
  | _, _ => none
theorem pr_ix : Pr2 K (rIx K) gIx := fun O H u v x y z Q al d1 d2 e k => by
  cases y with
  | int i =>
    obtain rfl := dp_int d2
    cases x with
    | list xs =>
      cases d1 with
      | lst h t =>
        obtain ⟨w, e1, e2⟩ := atI_D t (show atI xs i = some z from e)
        exact .inl ⟨_, _, _, _, rfl, rfl, SqL.same (fz_same H O) h, e1, k _ H (Same.refl H) e2⟩
    | tuple xs =>
      cases d1 with
      | tup h t =>
        obtain ⟨w, e1, e2⟩ := atI_D t (show atI xs i = some z from e)
        exact .inr (.inl ⟨_, _, _, _, rfl, rfl, SqT.same (fz_same H O) h, e1, k _ H (Same.refl H) e2⟩)
    | str x =>
      cases d1
      have e : (if x.length ≤ sizeLine then (atI x.cps.toList i).map fun c => PyData.str ⟨#[c]⟩ else none) = some z := e
      by_cases hl : x.length ≤ sizeLine
      · rw [if_pos hl] at e
        cases ec : atI x.cps.toList i with
        | none => rw [ec] at e; cases e
        | some c =>
          rw [ec] at e
          have e' := Option.some.inj e
          exact .inr (.inr ⟨_, _, _, rfl, rfl, hl, ec, k _ H (Same.refl H) (by rw [← e']; exact .str _)⟩)
      · rw [if_neg hl] at e; cases e
    | _ => cases e
  | _ => cases x <;> cases e
/-! ### slices -/
def cutD (xs : List D) (lo hi : Option Int) : List D := (xs.drop (HT.sIx xs.length 0 lo)).take (HT.sIx xs.length xs.length hi - HT.sIx xs.length 0 lo)
theorem cut_D {M : Hp} {vs : List V} {xs : List D} {lo hi : Option Int} (h : DpAll K M vs xs) : DpAll K M (cutV vs lo hi) (cutD xs lo hi) := by
  unfold cutV cutD
  rw [h.length]
  exact (h.drop _).take _
def gSl : D → Option Int → Option Int → Option D
  | .list xs, lo, hi => some (.list (cutD xs lo hi))
  | .tuple xs, lo, hi => some (.tuple (cutD xs lo hi))
  | _, _, _ => none
def rSlS (K : PySem.W.Frag) : V → Option Int → Option Int → Hp → VK → Prop := fun x lo hi H Q => rSlL K x lo hi H Q ∨ rSlA K x lo hi H Q
theorem pr_sl (O : List Addr) (H : Hp) (u : V) (x z : D) (lo hi : Option Int) (Q : VK) (al : ∀ a ∈ O, H a ≠ none) (d1 : Dp K (fz H O) u x) (e : gSl x lo hi = some z)
    (k : ∀ w H', Same H H' → Dp K (fz H' O) w z → Q w H') : rSlS K u lo hi H Q := by
  cases x with
  | list xs =>
    cases d1 with
    | lst h t =>
      obtain rfl : PyData.list (cutD xs lo hi) = z := Option.some.inj e
      refine .inl ⟨_, _, rfl, SqL.same (fz_same H O) h, fun p hp => ?_⟩
      obtain ⟨s, d⟩ := new_lst al (cut_D t) hp
      exact k _ _ s d
  | tuple xs =>
    cases d1 with
    | tup h t =>
      obtain rfl : PyData.tuple (cutD xs lo hi) = z := Option.some.inj e
      refine .inr ⟨_, _, rfl, SqT.same (fz_same H O) h, fun hw => ?_, fun _ p hp => ?_⟩
      · refine k _ H (Same.refl H) ?_
        have hl := t.length
        rw [hl] at hw
        have : cutD xs lo hi = xs := by
          unfold cutD
          rw [hw.1, hw.2]
          simp
        rw [this]
        exact .tup h t
      · obtain ⟨s, d⟩ := new_tup al (cut_D t) hp
        exact k _ _ s d
  | _ => cases e
end
section
variable {X : Cx} {W : WX} {a b c : Expr} {fa fb fc : XT D} {pos : Pos}
theorem de_div (ha : DE X W a fa) (hb : DE X W b fb) : DE X W (.BinOp a .FloorDiv b pos) (vBin gDiv fa fb) := de_bin op_fdivW (pr_iI cDiv_ok) ha hb
theorem de_mod (ha : DE X W a fa) (hb : DE X W b fb) : DE X W (.BinOp a .Mod b pos) (vBin gMod fa fb) := de_bin op_mod (pr_iI fun i j h => of_decide_eq_true h) ha hb
theorem de_neg (ha : DE X W a fa) : DE X W (.UnaryOp .USub a pos) (vUn (iU fun i => -i) fa) := de_un un_neg pr_iU ha
def gLt : D → D → Option D := iB fun i j => decide (i < j)
def gLe : D → D → Option D := iB fun i j => decide (i ≤ j)
def gGt : D → D → Option D := iB fun i j => decide (j < i)
def gGe : D → D → Option D := iB fun i j => decide (j ≤ i)
/-- a comparison by its sign -/
def gCmp : CmpOp → D → D → Option D
  | .Lt => gLt | .LtE => gLe | .Gt => gGt | .GtE => gGe | .Eq => gEq | .NotEq => gNe | .Is => gIsN | .IsNot => gNotN | .In => gInF false | .NotIn => gInF true
theorem op_of (hu : X.A.units + 64 < cLine) (op : CmpOp) : ∃ r, OpR X (compareOp op) r ∧ Pr2 X.K r (gCmp op) := by
  cases op with
  | Lt => exact ⟨_, op_lt, pr_iB⟩
  | LtE => exact ⟨_, op_le, pr_iB⟩
  | Gt => exact ⟨_, op_gt, pr_iB⟩
  | GtE => exact ⟨_, op_ge, pr_iB⟩
  | Eq => exact ⟨_, op_eqD hu, pr_eq⟩
  | NotEq => exact ⟨_, op_neD hu, pr_ne⟩
  | Is => exact ⟨_, op_isN, pr_isN⟩
  | IsNot => exact ⟨_, op_notN, pr_notN⟩
  | In => exact ⟨_, op_in_seq, pr_inF⟩
  | NotIn => exact ⟨_, op_notIn_seq, pr_inF⟩
theorem dc {op : CmpOp} (hu : X.A.units + 64 < cLine) (ha : DE X W a fa) (hb : DE X W b fb) (hm : behindInMarks op b = false := by rfl) : DE X W (.Compare a [op] [b] pos) (vBin (gCmp op) fa fb) := by
  obtain ⟨r, h1, h2⟩ := op_of hu op
  exact de_cmp h1 h2 ha hb hm
theorem tc {op : CmpOp} (hu : X.A.units + 64 < cLine) (ha : DE X W a fa) (hb : DE X W b fb) (hm : behindInMarks op b = false := by rfl) : DT X W (.Compare a [op] [b] pos) (vTest (vBin (gCmp op) fa fb)) := by
  obtain ⟨r, h1, h2⟩ := op_of hu op
  exact dt_cmp h1 h2 ha hb hm
abbrev Rd1 (X : Cx) (W : WX) (t : TE) (f : XT D) : Prop := ∀ G O δ σ H Q, SR (fr X G) O δ σ H → AnsG X W G O σ H (OkV X.K) (f δ) Q → t σ H Q
theorem tTest_of {t : TE} {f : XT D} (q : Rd1 X W t f) (G : G0) (O : List Addr) (δ : List Sl) (σ : St) (H : Hp) (Q : Bool → Hp → Prop) (sr : SR (fr X G) O δ σ H) (an : AnsG X W G O σ H OkE (vTest f δ) Q) : tTest t σ H Q := by
  refine q G O δ σ H _ sr (an.seq fun x δ1 v H1 O1 _ sr1 g1 d1 a1 => ?_)
  obtain ⟨k, ek, kq⟩ := ans_ofB sr1 a1
  have := asB_eq ek
  subst this
  cases d1
  exact ⟨k, rfl, kq⟩
/-- a op b op' c -/
theorem chain_ans {r r' : R2} {g h : D → D → Option D} {ta tb tc : TE} (hp : Pr2 X.K r g) (hp' : Pr2 X.K r' h) (qa : Rd1 X W ta fa) (qb : Rd1 X W tb fb) (qc : Rd1 X W tc fc) : Rd1 X W (tChain r r' ta tb tc) (vChain g h fa fb fc) := by
  intro G O δ σ H Q sr an
  refine qa G O δ σ H _ sr (an.seq fun x δ1 v H1 O1 _ sr1 g1 d1 a1 => qb G O1 δ1 σ H1 _ sr1 (a1.seq fun y δ2 w H2 O2 _ sr2 g2 d2 a2 => ?_))
  dsimp only at a2
  cases ez : g x y with
  | none => rw [ez] at a2; exact a2.elim
  | some z =>
    rw [ez] at a2
    cases ek : asB z with
    | none => rw [show (some z).bind asB = none from ek] at a2; exact a2.elim
    | some k =>
      rw [show (some z).bind asB = some k from ek] at a2
      refine hp O2 H2 v w x y z _ sr2.alive (Dp.same g2 d1) d2 ez fun u H3 s d3 => ?_
      have := asB_eq ek
      subst this
      cases d3
      refine ⟨k, rfl, ?_⟩
      have a3 := a2.shift (fz_grow s)
      cases k with
      | false =>
        rw [if_neg Bool.false_ne_true]
        exact a3 _ H3 O2 (sr2.grow s) (Same.refl _) (.bl false)
      | true =>
        rw [if_pos rfl]
        refine qc G O2 δ2 σ H3 _ (sr2.grow s) (AnsG.seq (k := fun r => (Rs.of (h y r.1)).bind fun z => .ok (z, r.2)) a3 fun t δ4 t' H4 O4 _ sr4 g4 d4 a4 => ?_)
        obtain ⟨z', ez', k'⟩ := ans_of sr4 a4
        exact hp' O4 H4 w t' y t z' Q sr4.alive (Dp.same ((fz_grow s).trans g4) d2) d4 ez' k'
theorem de_chain {op op' : CmpOp} {r r' : R2} {g h : D → D → Option D} (ho : OpR X (compareOp op) r) (ho' : OpR X (compareOp op') r') (hp : Pr2 X.K r g) (hp' : Pr2 X.K r' h) (ha : DE X W a fa) (hb : DE X W b fb) (hc : DE X W c fc)
    (hm : lastMarks [op, op'] [b, c] = false) : DE X W (.Compare a [op, op'] [b, c] pos) (vChain g h fa fb fc) := by
  obtain ⟨ta, pa, qa⟩ := ha
  obtain ⟨tb, pb, qb⟩ := hb
  obtain ⟨tc, pc, qc⟩ := hc
  exact ⟨_, pe_chain ho ho' pa pb pc hm, chain_ans hp hp' qa qb qc⟩
theorem dch {op op' : CmpOp} (hu : X.A.units + 64 < cLine) (ha : DE X W a fa) (hb : DE X W b fb) (hc : DE X W c fc) (hm : lastMarks [op, op'] [b, c] = false := by with_unfolding_all rfl) : DE X W (.Compare a [op, op'] [b, c] pos) (vChain (gCmp op) (gCmp op') fa fb fc) := by
  obtain ⟨r, h1, h2⟩ := op_of hu op
  obtain ⟨r', h3, h4⟩ := op_of hu op'
  exact de_chain h1 h3 h2 h4 ha hb hc hm
theorem tch {op op' : CmpOp} (hu : X.A.units + 64 < cLine) (ha : DE X W a fa) (hb : DE X W b fb) (hc : DE X W c fc) (hm : lastMarks [op, op'] [b, c] = false := by with_unfolding_all rfl) : DT X W (.Compare a [op, op'] [b, c] pos) (vTest (vChain (gCmp op) (gCmp op') fa fb fc)) := by
  obtain ⟨r, h1, h2⟩ := op_of hu op
  obtain ⟨r', h3, h4⟩ := op_of hu op'
  obtain ⟨ta, pa, qa⟩ := ha
  obtain ⟨tb, pb, qb⟩ := hb
  obtain ⟨tc, pc, qc⟩ := hc
  exact ⟨_, pt_chain h1 h3 pa pb pc hm, tTest_of (chain_ans h2 h4 qa qb qc)⟩
theorem di (ha : DE X W a fa) (hb : DE X W b fb) (hs : PlainIx b := by intro _ _; rfl) : DE X W (.Subscript a b pos) (vBin gIx fa fb) := de_ix ix_seq pr_ix ha hb hs
/-! ### slices -/
theorem do_none : DO X W none (fun δ => .ok (none, δ)) := ⟨_, po_none, fun G O δ σ H Q sr an => an _ H O sr (Same.refl _) rfl⟩
def asI : D → Option Int
  | .int b => some b
  | _ => none
theorem asI_eq {d : D} {k : Int} (h : asI d = some k) : d = .int k := by
  cases d <;> first | (cases h; rfl) | cases h
theorem do_some (h : DE X W a fa) : DO X W (some a) (fun δ => (fa δ).bind fun p => (Rs.of (asI p.1)).bind fun i => .ok (some i, p.2)) := by
  obtain ⟨t, p, q⟩ := h
  refine ⟨_, po_some p, fun G O δ σ H Q sr an => ?_⟩
  refine q G O δ σ H _ sr (an.seq fun x δ1 v H1 O1 _ sr1 g1 d1 a1 => ?_)
  dsimp only at a1
  cases ek : asI x with
  | none => rw [ek] at a1; exact a1.elim
  | some k =>
    rw [ek] at a1
    have := asI_eq ek
    subst this
    cases d1
    exact ⟨k, rfl, a1 _ H1 O1 sr1 (Same.refl _) rfl⟩
def vSl (g : D → Option Int → Option Int → Option D) (fa : XT D) (fl fh : XT (Option Int)) : XT D := fun δ => (fa δ).bind fun p => (fl p.2).bind fun l => (fh l.2).bind fun h => (Rs.of (g p.1 l.1 h.1)).bind fun z => .ok (z, h.2)
theorem de_sl {lo hi : Option Expr} {fl fh : XT (Option Int)} {p2 : Pos} (ha : DE X W a fa) (hl : DO X W lo fl) (hh : DO X W hi fh) : DE X W (.Subscript a (.Slice lo hi none p2) pos) (vSl gSl fa fl fh) := by
  obtain ⟨ta, pa, qa⟩ := ha
  obtain ⟨tl, pl, ql⟩ := hl
  obtain ⟨th, ph, qh⟩ := hh
  refine ⟨_, pe_slice (r := rSlS X.K) (sl_list.or sl_tupA) pa pl ph, fun G O δ σ H Q sr an => ?_⟩
  refine qa G O δ σ H _ sr (an.seq fun x δ1 v H1 O1 _ sr1 g1 d1 a1 => ql G O1 δ1 σ H1 _ sr1 (a1.seq fun l δ2 l' H2 O2 _ sr2 g2 d2 a2 => qh G O2 δ2 σ H2 _ sr2 (a2.seq fun h δ3 h' H3 O3 _ sr3 g3 d3 a3 => ?_)))
  obtain rfl : l' = l := d2
  obtain rfl : h' = h := d3
  obtain ⟨z, ez, k⟩ := ans_of sr3 a3
  exact pr_sl O3 H3 v x z l' h' Q sr3.alive (Dp.same (g2.trans g3) d1) ez k
end
end Ev
set_option maxHeartbeats 200000
/-! E5: statements, functions and their calls by data. Own work. -/
namespace Ev
open PySem PySem.Spec L2

/-! ### a slot's list is changed -/
def Sl.put : Sl → List D → Sl
  | .own _, xs => .own xs
  | .io _, xs => .io xs
  | s, _ => s
def Sl.get? : Sl → Option (List D)
  | .own xs => some xs
  | .io xs => some xs
  | _ => none
section
variable {F : Fr0} {O : List Addr} {δ : List Sl} {σ : St} {H H' : Hp}
theorem SR.mutAt (sr : SR F O δ σ H) {i : Nat} {s : Sl} {xs : List D} (e : δ[i]? = some s) (g : s.get? = some xs) :
    ∃ a vs, σ[i]? = some (some (.ref a)) ∧ a ∈ O ∧ H a = some (.lst vs) ∧ DpAll F.K (fz H O) vs xs ∧ s.mut ∧ (F.H0 a = none ∨ a ∈ F.Wa) := by
  have z := sr.sl i s e
  cases s with
  | own ys => cases g; obtain ⟨a, vs, e1, m, z1, z2, p, q⟩ := z; exact ⟨a, vs, of_slAt e1, m, p, q, trivial, .inl z1⟩
  | io ys => cases g; obtain ⟨a, vs, e1, m, p, q⟩ := z; exact ⟨a, vs, of_slAt e1, sr.bas _ (sr.wa _ m), p, q, trivial, .inr m⟩
  | _ => cases g
theorem SR.mutate (sr : SR F O δ σ H) {i : Nat} {s : Sl} {xs ys : List D} {a : Addr} {ws : List V} (e : δ[i]? = some s) (g : s.get? = some xs) (ei : σ[i]? = some (some (.ref a)))
    (k : ∀ b o, H b = some o → b ≠ a → H' b = some o) (n : H' a = some (.lst ws)) (d : DpAll F.K (fz H' O) ws ys) : SR F O (δ.set i (s.put ys)) σ H' ∧ Gr H O H' O := by
  obtain ⟨a', vs, e1, m, p, q, mt, f⟩ := sr.mutAt e g
  obtain rfl : a' = a := by rw [ei] at e1; cases e1; rfl
  have hi : i < δ.length := (List.getElem?_eq_some_iff.mp e).1
  have gr : Gr H O H' O := fun b o eb => by
    obtain ⟨nb, eb⟩ := fz_some eb
    exact fz_mk nb (k b o eb fun z => nb (z ▸ m))
  have mput : (s.put ys).mut ↔ s.mut := by cases s <;> exact Iff.rfl
  refine ⟨⟨by rw [List.length_set]; exact sr.len, fun j t et => ?_, fun j l t u b e1' e2' m1 m2 q1 q2 => ?_, fun b o eb nb => ?_, sr.bas, sr.wa, fun b hb z => ?_, fun p' mp => ?_⟩, gr⟩
  · by_cases hj : i = j
    · subst hj
      rw [List.getElem?_set_self hi] at et
      cases et
      have z := sr.sl i s e
      cases s with
      | own zs => obtain ⟨c, _, r1, r2, z1, z2, _, _⟩ := z; rw [slAt_of ei] at r1; cases r1; exact ⟨a', ws, slAt_of ei, m, z1, z2, n, d⟩
      | io zs => obtain ⟨c, _, r1, r2, _, _⟩ := z; rw [slAt_of ei] at r1; cases r1; exact ⟨a', ws, slAt_of ei, r2, n, d⟩
      | _ => cases g
    · rw [List.getElem?_set_ne hj] at et
      have z := sr.sl j t et
      cases t with
      | un => trivial
      | d x => obtain ⟨v, r1, r2⟩ := z; exact ⟨v, r1, r2.same gr⟩
      | own zs =>
        obtain ⟨c, us, r1, r2, z1, z2, r3, r4⟩ := z
        exact ⟨c, us, r1, r2, z1, z2, k _ _ r3 fun q => hj (by subst q; exact sr.sep i j _ _ _ e et mt trivial (slAt_of ei) r1), r4.same gr⟩
      | io zs =>
        obtain ⟨c, us, r1, r2, r3, r4⟩ := z
        exact ⟨c, us, r1, r2, k _ _ r3 fun q => hj (by subst q; exact sr.sep i j _ _ _ e et mt trivial (slAt_of ei) r1), r4.same gr⟩
      | fn nm => exact z
  · have f : ∀ (j : Nat) (t : Sl), (δ.set i (s.put ys))[j]? = some t → t.mut → ∃ t', δ[j]? = some t' ∧ t'.mut := fun j t et mt' => by
      by_cases hj : i = j
      · subst hj; exact ⟨s, e, mt⟩
      · rw [List.getElem?_set_ne hj] at et; exact ⟨t, et, mt'⟩
    obtain ⟨t', x1, x2⟩ := f j t e1' m1
    obtain ⟨u', y1, y2⟩ := f l u e2' m2
    exact sr.sep j l t' u' b x1 y1 x2 y2 q1 q2
  · refine k b o (sr.old b o eb nb) fun z => ?_
    subst z
    rcases f with f | f
    · rw [f] at eb; cases eb
    · exact nb f
  · by_cases hb' : b = a'
    · subst hb'; rw [n] at z; cases z
    · cases eb : H b with
      | none => exact sr.alive b hb eb
      | some o => rw [k b o eb hb'] at z; cases z
  · obtain ⟨x1, x2, x3⟩ := sr.pin p' mp
    have ne : p'.1 ≠ a' := fun z => x3 i s e mt (by rw [z]; exact slAt_of ei)
    refine ⟨x1, k _ _ x2 ne, fun j t et mt' q => ?_⟩
    by_cases hj : i = j
    · subst hj; rw [slAt_of ei] at q; cases q; exact ne rfl
    · rw [List.getElem?_set_ne hj] at et; exact x3 j t et mt' q
/-- a new list of one's own at a slot -/
theorem SR.setOwn (sr : SR F O δ σ H) {i : Nat} {a : Addr} {vs : List V} {xs : List D} (hi : i < δ.length) (m : a ∈ O) (na : ∀ j s, δ[j]? = some s → s.mut → slAt σ j ≠ some (.ref a)) (np : ∀ p ∈ F.Pn, p.1 ≠ a) (z1 : F.H0 a = none) (z2 : a ∉ F.Ob)
    (p : H a = some (.lst vs)) (q : DpAll F.K (fz H O) vs xs) : SR F O (δ.set i (.own xs)) (σ.set i (some (.ref a))) H where
  len := by rw [List.length_set, List.length_set]; exact sr.len
  sl := fun j s e => by
    by_cases hj : i = j
    · subst hj
      rw [List.getElem?_set_self hi] at e
      cases e
      exact ⟨a, vs, slAt_of (List.getElem?_set_self (by rw [← sr.len]; exact hi)), m, z1, z2, p, q⟩
    · rw [List.getElem?_set_ne hj] at e
      have := sr.sl j s e
      unfold slAt at this ⊢
      rw [List.getElem?_set_ne hj]
      exact this
  sep := fun j k s t b e1 e2 m1 m2 q1 q2 => by
    have f : ∀ (j : Nat) (s : Sl), (δ.set i (.own xs))[j]? = some s → s.mut → slAt (σ.set i (some (.ref a))) j = some (.ref b) → (j = i ∧ b = a) ∨ (j ≠ i ∧ δ[j]? = some s ∧ slAt σ j = some (.ref b)) := fun j s e m q => by
      by_cases hj : i = j
      · subst hj
        unfold slAt at q
        rw [List.getElem?_set_self (by rw [← sr.len]; exact hi)] at q
        cases q
        exact .inl ⟨rfl, rfl⟩
      · rw [List.getElem?_set_ne hj] at e
        unfold slAt at q; rw [List.getElem?_set_ne hj] at q
        exact .inr ⟨Ne.symm hj, e, q⟩
    rcases f j s e1 m1 q1 with ⟨x1, x2⟩ | ⟨x1, x2, x3⟩
    · rcases f k t e2 m2 q2 with ⟨y1, y2⟩ | ⟨y1, y2, y3⟩
      · rw [x1, y1]
      · subst x2; exact absurd y3 (na k t y2 m2)
    · rcases f k t e2 m2 q2 with ⟨y1, y2⟩ | ⟨y1, y2, y3⟩
      · subst y2; exact absurd x3 (na j s x2 m1)
      · exact sr.sep j k s t b x2 y2 m1 m2 x3 y3
  old := sr.old
  bas := sr.bas
  wa := sr.wa
  alive := sr.alive
  pin := fun p' mp => by
    obtain ⟨x1, x2, x3⟩ := sr.pin p' mp
    refine ⟨x1, x2, fun j t et mt q => ?_⟩
    by_cases hj : i = j
    · subst hj
      unfold slAt at q
      rw [List.getElem?_set_self (by rw [← sr.len]; exact hi)] at q
      cases q
      exact np p' mp rfl
    · rw [List.getElem?_set_ne hj] at et
      unfold slAt at q; rw [List.getElem?_set_ne hj] at q
      exact x3 j t et mt q
/-- one more address is owned -/
theorem SR.more (sr : SR F O δ σ H) {p : Addr} {o : HO} (hp : H p = none) : SR F (p :: O) δ σ (upd H p o) := by
  have s := same_upd (o := o) hp
  have sr' := sr.grow s
  have np : p ∉ O := sr.notO hp
  have g : Same (fz H O) (fz (upd H p o) (p :: O)) := fun b u e => by
    obtain ⟨n, e⟩ := fz_some e
    have nb := ne_of_none e hp
    exact fz_mk (fun z => by rcases List.mem_cons.mp z with z | z; exact nb z; exact n z) (s _ _ e)
  refine ⟨sr.len, fun i t e => ?_, sr.sep, sr'.old, fun a m => List.mem_cons_of_mem _ (sr.bas a m), sr.wa, fun a m => ?_, fun p' mp => ?_⟩
  · have z := sr.sl i t e
    cases t with
    | un => trivial
    | d x => obtain ⟨v, r1, r2⟩ := z; exact ⟨v, r1, r2.same g⟩
    | own xs => obtain ⟨a, vs, r1, r2, z1, z2, r3, r4⟩ := z; exact ⟨a, vs, r1, List.mem_cons_of_mem _ r2, z1, z2, s _ _ r3, r4.same g⟩
    | io xs => obtain ⟨a, vs, r1, r2, r3, r4⟩ := z; exact ⟨a, vs, r1, r2, s _ _ r3, r4.same g⟩
    | fn n => exact z
  · rcases List.mem_cons.mp m with rfl | m
    · rw [upd_same]; intro z; cases z
    · exact sr'.alive a m
  · obtain ⟨x1, x2, x3⟩ := sr.pin p' mp
    exact ⟨List.mem_cons_of_mem _ x1, s _ _ x2, x3⟩
theorem gr_more {p : Addr} {o : HO} (hp : H p = none) : Gr H O (upd H p o) (p :: O) := fun b u e => by
  obtain ⟨n, e⟩ := fz_some e
  have nb := ne_of_none e hp
  exact fz_mk (fun z => by rcases List.mem_cons.mp z with z | z; exact nb z; exact n z) (same_upd hp _ _ e)
end

/-! ### statements -/
inductive Fl where
  | nx | bk | ct | rt (d : D) | ro (xs : List D)
abbrev SX := List Sl → Rs (Fl × List Sl)
/-- a new list: its address, the rest -/
def Fresh (X : Cx) (G : G0) (O : List Addr) (a : Addr) (xs : List D) (H : Hp) : Prop :=
  ∃ vs, G.H0 a = none ∧ a ∉ G.Ob ∧ a ∉ O ∧ H a = some (.lst vs) ∧ DpAll X.K (fz H (a :: O)) vs xs
def AnsS (X : Cx) (W : WX) (G : G0) (O : List Addr) (H : Hp) (r : Rs (Fl × List Sl)) (Dn : Ends) : Prop :=
  match r with
  | .ok (.nx, δ') => ∀ σ' H' O', SR (fr X G) O' δ' σ' H' → Gr H O H' O' → Dn.nx σ' H'
  | .ok (.bk, δ') => ∀ σ' H' O', SR (fr X G) O' δ' σ' H' → Gr H O H' O' → Dn.bk σ' H'
  | .ok (.ct, δ') => ∀ σ' H' O', SR (fr X G) O' δ' σ' H' → Gr H O H' O' → Dn.ct σ' H'
  | .ok (.rt d, δ') => ∀ v σ' H' O', SR (fr X G) O' δ' σ' H' → Gr H O H' O' → Dp X.K (fz H' O') v d → Dn.rt v H'
  | .ok (.ro xs, δ') => ∀ a σ' H' O', SR (fr X G) O' δ' σ' H' → Gr H O H' O' → Fresh X G O' a xs H' → Dn.rt (.ref a) H'
  | .exc n f => ∀ cls dx σ' H', (∀ b o, G.H0 b = some o → b ∉ G.Wa → H' b = some o) → XOk X.mg n f cls dx H' → W cls dx σ' H'
  | .no => False
def DS (X : Cx) (W : WX) (st : Stmt) (f : SX) : Prop :=
  ∃ t, PS X st t ∧ ∀ G O δ σ H Dn, SR (fr X G) O δ σ H → AnsS X W G O H (f δ) Dn → t Dn σ H
def DSs (X : Cx) (W : WX) (st : List Stmt) (f : SX) : Prop :=
  ∃ t, PSs X st t ∧ ∀ G O δ σ H Dn, SR (fr X G) O δ σ H → AnsS X W G O H (f δ) Dn → t Dn σ H

section
variable {X : Cx} {W : WX} {G : G0} {O O1 : List Addr} {σ : St} {H H1 : Hp} {Dn Dn' : Ends}
theorem AnsS.shift {r : Rs (Fl × List Sl)} (g : Gr H O H1 O1) (a : AnsS X W G O H r Dn) : AnsS X W G O1 H1 r Dn := by
  rcases r with ⟨⟨_ | _ | _ | d | xs, δ⟩⟩ | ⟨n, f⟩ | _
  · exact fun σ' H' O' sr g' => a σ' H' O' sr (g.trans g')
  · exact fun σ' H' O' sr g' => a σ' H' O' sr (g.trans g')
  · exact fun σ' H' O' sr g' => a σ' H' O' sr (g.trans g')
  · exact fun v σ' H' O' sr g' => a v σ' H' O' sr (g.trans g')
  · exact fun v σ' H' O' sr g' => a v σ' H' O' sr (g.trans g')
  · exact a
  · exact a
/-- a statement ahead of others -/
def sSeq (f g : SX) : SX := fun δ => (f δ).bind fun p => match p with
  | (.nx, δ1) => g δ1
  | q => .ok q
theorem AnsS.seq {f g : SX} {δ : List Sl} {n : St → Hp → Prop} (a : AnsS X W G O H (sSeq f g δ) Dn)
    (h : ∀ δ1 σ1 H1 O1, SR (fr X G) O1 δ1 σ1 H1 → Gr H O H1 O1 → AnsS X W G O1 H1 (g δ1) Dn → n σ1 H1) : AnsS X W G O H (f δ) { Dn with nx := n } := by
  unfold sSeq at a
  cases e : f δ with
  | no => rw [e] at a; exact a
  | exc m f => rw [e] at a; exact a
  | ok p =>
    rw [e] at a
    obtain ⟨fl, δ1⟩ := p
    cases fl with
    | nx => exact fun σ1 H1 O1 sr g1 => h δ1 σ1 H1 O1 sr g1 (a.shift g1)
    | _ => exact a
/-- an expression ahead of a statement -/
theorem AnsS.ofE {α β : Type} {r : Rs (α × List Sl)} {k : α × List Sl → Rs (Fl × List Sl)} {Ok : Hp → β → α → Prop} {Q : β → Hp → Prop} (tk : ∀ cls dx H', W cls dx σ H' → W cls dx σ H') (a : AnsS X W G O H (r.bind k) Dn)
    (h : ∀ x δ1 b H1 O1, r = .ok (x, δ1) → SR (fr X G) O1 δ1 σ H1 → Gr H O H1 O1 → Ok (fz H1 O1) b x → AnsS X W G O1 H1 (k (x, δ1)) Dn → Q b H1) : AnsG X W G O σ H Ok r Q := by
  cases r with
  | ok p => exact fun b H' O' sr g' ok => h p.1 p.2 b H' O' rfl sr g' ok (a.shift g')
  | exc n f => exact fun cls dx H' k xo => a cls dx σ H' k xo
  | no => exact a

variable {st : Stmt} {rest : List Stmt} {f g : SX} {e : Expr} {fe : XT D} {pos : Pos}
def sNil : SX := fun δ => .ok (.nx, δ)
theorem dss_nil : DSs X W [] sNil := ⟨_, pss_nil, fun G O δ σ H Dn sr an => an σ H O sr (Same.refl _)⟩
theorem dss_one (h : DS X W st f) : DSs X W [st] f := by
  obtain ⟨t, p, q⟩ := h
  exact ⟨t, pss_one p, q⟩
theorem dss_cons (h : DS X W st f) (h' : DSs X W rest g) : DSs X W (st :: rest) (sSeq f g) := by
  obtain ⟨t, p, q⟩ := h
  obtain ⟨t', p', q'⟩ := h'
  refine ⟨_, pss_cons p p', fun G O δ σ H Dn sr an => ?_⟩
  exact q G O δ σ H _ sr (an.seq fun δ1 σ1 H1 O1 sr1 g1 a1 => q' G O1 δ1 σ1 H1 Dn sr1 a1)
theorem ds_pass : DS X W (.Pass pos) sNil := ⟨_, ps_pass, fun G O δ σ H Dn sr an => an σ H O sr (Same.refl _)⟩
theorem ds_break : DS X W (.Break pos) (fun δ => .ok (.bk, δ)) := ⟨_, ps_break, fun G O δ σ H Dn sr an => an σ H O sr (Same.refl _)⟩
theorem ds_continue : DS X W (.Continue pos) (fun δ => .ok (.ct, δ)) := ⟨_, ps_continue, fun G O δ σ H Dn sr an => an σ H O sr (Same.refl _)⟩
/-- a value that is dropped -/
def sDrop (fe : XT D) : SX := fun δ => (fe δ).bind fun p => .ok (.nx, p.2)
theorem ds_expr (h : DE X W e fe) (hs : swapsWith e none pos.line X.env = pure false := by rfl) : DS X W (.Expr e pos) (sDrop fe) := by
  obtain ⟨t, p, q⟩ := h
  refine ⟨_, ps_expr p hs, fun G O δ σ H Dn sr an => ?_⟩
  exact q G O δ σ H _ sr (an.ofE (fun _ _ _ h => h) fun x δ1 v H1 O1 _ sr1 g1 d1 a1 => a1 σ H1 O1 sr1 (Same.refl _))
def sRet (fe : XT D) : SX := fun δ => (fe δ).bind fun p => .ok (.rt p.1, p.2)
theorem ds_ret (h : DE X W e fe) : DS X W (.Return (some e) pos) (sRet fe) := by
  obtain ⟨t, p, q⟩ := h
  refine ⟨_, ps_ret p, fun G O δ σ H Dn sr an => ?_⟩
  exact q G O δ σ H _ sr (an.ofE (fun _ _ _ h => h) fun x δ1 v H1 O1 _ sr1 g1 d1 a1 => a1 v σ H1 O1 sr1 (Same.refl _) d1)
theorem ds_retN : DS X W (.Return none pos) (fun δ => .ok (.rt .none, δ)) := ⟨_, ps_retN, fun G O δ σ H Dn sr an => an .non σ H O sr (Same.refl _) .non⟩
/-- one's own list is handed back -/
def sRetOwn (i : Nat) : SX := fun δ => match δ[i]? with
  | some (.own xs) => .ok (.ro xs, δ.set i .un)
  | _ => .no
theorem ds_retOwn (i : Nat) {x : Str} {p : Pos} (hN : X.N[i]? = some x := by rfl) (hv : Vis X.env.scope x := by first | exact Or.inl rfl | exact Or.inr (Or.inl rfl) | exact Or.inr (Or.inr rfl))
    (hd : (x == ("__debug__" : Str)) = false := by decide) (hcd : (x == ("__classdict__" : Str)) = false := by decide) : DS X W (.Return (some (.Name x p)) pos) (sRetOwn i) := by
  refine ⟨_, ps_ret (pe_var hN hv hd hcd), fun G O δ σ H Dn sr an => ?_⟩
  unfold sRetOwn at an
  cases e : δ[i]? with
  | none => rw [e] at an; exact an.elim
  | some s =>
    rw [e] at an
    cases s with
    | own xs =>
      obtain ⟨a, vs, e1, m, z1, z2, p, q⟩ := sr.sl i _ e
      refine ⟨.ref a, of_slAt e1, ?_⟩
      have less : ∀ b ∈ O.filter (fun b => decide (b ≠ a)), b ∈ O := fun b hb => (List.mem_filter.mp hb).1
      have nin : a ∉ O.filter (fun b => decide (b ≠ a)) := fun hb => by have := (List.mem_filter.mp hb).2; simp at this
      have keepO : ∀ b, b ∈ O → b ≠ a → b ∈ O.filter (fun b => decide (b ≠ a)) := fun b hb hn => List.mem_filter.mpr ⟨hb, decide_eq_true hn⟩
      have sr1 : SR (fr X G) O (δ.set i .un) (σ.set i (some (.ref a))) H := sr.setUn
      have es : σ.set i (some (.ref a)) = σ := by
        apply List.ext_getElem?
        intro j
        by_cases hj : i = j
        · subst hj
          have hi : i < σ.length := (List.getElem?_eq_some_iff.mp (of_slAt e1)).1
          rw [List.getElem?_set_self hi, of_slAt e1]
        · rw [List.getElem?_set_ne hj]
      rw [es] at sr1
      have sr2 : SR (fr X G) (O.filter (fun b => decide (b ≠ a))) (δ.set i .un) σ H := by
        refine ⟨sr1.len, fun j s ej => (sr1.sl j s ej).less less fun b mt eb => ?_, sr1.sep, sr1.old, fun b hb => keepO b (sr1.bas b hb) (fun z => z2 (z ▸ hb)), sr1.wa, fun b hb => sr1.alive b (less b hb), fun p' mp => ?_⟩
        rotate_left
        · obtain ⟨x1, x2, x3⟩ := sr1.pin p' mp
          exact ⟨keepO _ x1 fun z => (sr.pin p' mp).2.2 i _ e trivial (by rw [z]; exact e1), x2, x3⟩
        have hij : i ≠ j := fun q => by
          subst q
          rw [List.getElem?_set_self (List.getElem?_eq_some_iff.mp e).1] at ej
          cases ej
          exact mt
        rw [List.getElem?_set_ne hij] at ej
        have hb : b ∈ O := by
          have z := sr.sl j s ej
          cases s with
          | own ys => obtain ⟨c, ws, r1, r2, _⟩ := z; rw [eb] at r1; cases r1; exact r2
          | io ys => obtain ⟨c, ws, r1, r2, _⟩ := z; rw [eb] at r1; cases r1; exact sr.bas _ (sr.wa _ r2)
          | un => exact mt.elim
          | d _ => exact mt.elim
          | fn _ => exact mt.elim
        exact keepO b hb fun z => hij (by subst z; exact sr.sep i j _ _ _ e ej trivial mt e1 eb)
      refine an a σ H _ sr2 (fz_less less) ⟨vs, z1, z2, nin, p, q.same fun b o eb => ?_⟩
      obtain ⟨nb, eb⟩ := fz_some eb
      refine fz_mk (fun z => ?_) eb
      rcases List.mem_cons.mp z with z | z
      · exact nb (z ▸ m)
      · exact nb (less b z)
    | _ => exact an.elim
/-- a written list is handed back -/
def sRetLst (fe : XT (List D)) : SX := fun δ => (fe δ).bind fun p => if p.1.length ≤ sizeLine then .ok (.ro p.1, p.2) else .no
theorem ds_retLst {es : List Expr} {fe : XT (List D)} {p2 : Pos} (h : DA X W es fe) : DS X W (.Return (some (.List es p2)) pos) (sRetLst fe) := by
  obtain ⟨t, p, q⟩ := h
  refine ⟨_, ps_ret (pe_lst p), fun G O δ σ H Dn sr an => ?_⟩
  refine q G O δ σ H _ sr (an.ofE (fun _ _ _ h => h) fun x δ1 vs H1 O1 _ sr1 g1 d1 a1 => ?_)
  dsimp only at a1
  by_cases hl : x.length ≤ sizeLine
  · rw [if_pos hl] at a1
    have hlen : vs.length = x.length := DpAll.length d1
    refine ⟨by rw [hlen]; exact hl, fun a ha => ?_⟩
    have na : a ∉ O1 := sr1.notO ha
    have zz : G.H0 a = none := by
      cases q : G.H0 a with
      | none => rfl
      | some o =>
        by_cases hw : a ∈ G.Wa
        · exact absurd (sr1.bas a (sr1.wa a hw)) na
        · have := sr1.old a o q hw; rw [ha] at this; cases this
    refine a1 a σ _ O1 (sr1.grow (same_upd ha)) (fz_grow (same_upd ha)) ⟨vs, zz, fun m => na (sr1.bas a m), na, upd_same, ?_⟩
    exact DpAll.same (gr_more ha) d1
  · rw [if_neg hl] at a1; exact a1.elim
def sIf (t : XT Bool) (f g : SX) : SX := fun δ => (t δ).bind fun p => if p.1 then f p.2 else g p.2
theorem ds_if {c : Expr} {a b : List Stmt} {tc : XT Bool} (hc : DT X W c tc) (ha : DSs X W a f) (hb : DSs X W b g) : DS X W (.If c a b pos) (sIf tc f g) := by
  obtain ⟨t, p, q⟩ := hc
  obtain ⟨t1, p1, q1⟩ := ha
  obtain ⟨t2, p2, q2⟩ := hb
  refine ⟨_, ps_if p p1 p2, fun G O δ σ H Dn sr an => ?_⟩
  refine q G O δ σ H _ sr (an.ofE (fun _ _ _ h => h) fun x δ1 v H1 O1 _ sr1 g1 d1 a1 => ?_)
  obtain rfl : v = x := d1
  cases v with
  | true => rw [if_pos rfl]; exact q1 G O1 δ1 σ H1 Dn sr1 a1
  | false => rw [if_neg Bool.false_ne_true]; exact q2 G O1 δ1 σ H1 Dn sr1 a1
end
end Ev
set_option maxHeartbeats 200000
/-! E6: new lists, assignments, stores, functions' contracts and calls. Own work. -/
namespace Ev
open PySem PySem.Spec L2

section
variable {F : Fr0} {O : List Addr} {δ : List Sl} {σ : St} {H H' : Hp}
def Free (δ : List Sl) (σ : St) (a : Addr) : Prop := ∀ j s, δ[j]? = some s → s.mut → slAt σ j ≠ some (.ref a)
theorem SR.memO (sr : SR F O δ σ H) {j : Nat} {s : Sl} {b : Addr} (e : δ[j]? = some s) (m : s.mut) (q : slAt σ j = some (.ref b)) : b ∈ O := by
  have z := sr.sl j s e
  cases s with
  | own ys => obtain ⟨c, ws, r1, r2, _⟩ := z; rw [q] at r1; cases r1; exact r2
  | io ys => obtain ⟨c, ws, r1, r2, _⟩ := z; rw [q] at r1; cases r1; exact sr.bas _ (sr.wa _ r2)
  | _ => exact m.elim
theorem SR.free (sr : SR F O δ σ H) {a : Addr} (n : a ∉ O) : Free δ σ a := fun j s e m q => n (sr.memO e m q)
/-- an owned list that no slot holds is frozen -/
theorem SR.drop {a : Addr} (sr : SR F (a :: O) δ σ H) (fa : Free δ σ a) (nb : a ∉ F.Ob) (np : ∀ p ∈ F.Pn, p.1 ≠ a) : SR F O δ σ H := by
  have less : ∀ b ∈ O, b ∈ a :: O := fun b hb => List.mem_cons_of_mem _ hb
  refine ⟨sr.len, fun j s e => (sr.sl j s e).less less fun b mt eb => ?_, sr.sep, sr.old, fun b hb => ?_, sr.wa, fun b hb => sr.alive b (less b hb), fun p mp => ?_⟩
  · rcases List.mem_cons.mp (sr.memO e mt eb) with z | z
    · subst z; exact absurd eb (fa j s e mt)
    · exact z
  · rcases List.mem_cons.mp (sr.bas b hb) with z | z
    · subst z; exact absurd hb nb
    · exact z
  · obtain ⟨x1, x2, x3⟩ := sr.pin p mp
    rcases List.mem_cons.mp x1 with z | z
    · exact absurd z (np p mp)
    · exact ⟨z, x2, x3⟩
theorem fresh0 (sr : SR F O δ σ H) {a : Addr} (ha : H a = none) : F.H0 a = none ∧ a ∉ F.Ob ∧ a ∉ O := by
  have na : a ∉ O := sr.notO ha
  refine ⟨?_, fun m => na (sr.bas a m), na⟩
  cases q : F.H0 a with
  | none => rfl
  | some o =>
    by_cases hw : a ∈ F.Wa
    · exact absurd (sr.bas a (sr.wa a hw)) na
    · have := sr.old a o q hw; rw [ha] at this; cases this
end

def AnsF (X : Cx) (W : WX) (G : G0) (O : List Addr) (σ : St) (H : Hp) (r : Rs (List D × List Sl)) (Q : VK) : Prop :=
  match r with
  | .ok p => ∀ a vs H' O', SR (fr X G) (a :: O') p.2 σ H' → Free p.2 σ a → Gr H O H' (a :: O') → G.H0 a = none → a ∉ G.Ob → a ∉ O' → (∀ p ∈ G.Pn, p.1 ≠ a) → H' a = some (.lst vs) → DpAll X.K (fz H' (a :: O')) vs p.1 → Q (.ref a) H'
  | .exc n f => ∀ cls dx H', (∀ b o, G.H0 b = some o → b ∉ G.Wa → H' b = some o) → XOk X.mg n f cls dx H' → W cls dx σ H'
  | .no => False
/-- an expression that makes a new list -/
def DF (X : Cx) (W : WX) (e : Expr) (f : XT (List D)) : Prop :=
  ∃ t, PE X e t ∧ ∀ G O δ σ H Q, SR (fr X G) O δ σ H → AnsF X W G O σ H (f δ) Q → t σ H Q
section
variable {X : Cx} {W : WX} {G : G0} {O O1 : List Addr} {σ : St} {H H1 : Hp} {Dn Dn' : Ends}
theorem AnsF.shift {r : Rs (List D × List Sl)} {Q : VK} (g : Gr H O H1 O1) (a : AnsF X W G O σ H r Q) : AnsF X W G O1 σ H1 r Q := by
  cases r with
  | ok p => exact fun b vs H' O' sr fb g' z1 z2 z3 z4 p q => a b vs H' O' sr fb (g.trans g') z1 z2 z3 z4 p q
  | exc n f => exact a
  | no => exact a
theorem AnsF.seq {α β : Type} {r : Rs (α × List Sl)} {k : α × List Sl → Rs (List D × List Sl)} {Ok : Hp → β → α → Prop} {Q : VK} {Q' : β → Hp → Prop} (a : AnsF X W G O σ H (r.bind k) Q)
    (h : ∀ x δ1 b H1 O1, r = .ok (x, δ1) → SR (fr X G) O1 δ1 σ H1 → Gr H O H1 O1 → Ok (fz H1 O1) b x → AnsF X W G O1 σ H1 (k (x, δ1)) Q → Q' b H1) : AnsG X W G O σ H Ok r Q' := by
  cases r with
  | ok p => exact fun b H' O' sr g' ok => h p.1 p.2 b H' O' rfl sr g' ok (a.shift g')
  | exc n f => exact a
  | no => exact a
/-- a new list at p -/
theorem AnsF.made {δ : List Sl} {p : Addr} {vs : List V} {xs : List D} {Q : VK} (sr : SR (fr X G) O δ σ H) (hp : H p = none) (d : DpAll X.K (fz H O) vs xs) (a : AnsF X W G O σ H (.ok (xs, δ)) Q) : Q (.ref p) (upd H p (.lst vs)) := by
  obtain ⟨z1, z2, z3⟩ := fresh0 sr hp
  exact a p vs _ O (sr.more hp) (sr.free z3) (gr_more hp) z1 z2 z3 (fun p' mp z => z3 (z ▸ (sr.pin p' mp).1)) upd_same (DpAll.same (gr_more hp) d)
def vList (f : XT (List D)) : XT D := fun δ => (f δ).bind fun p => .ok (.list p.1, p.2)
variable {e : Expr} {f : XT (List D)} {pos : Pos}
theorem AnsF.ofG {r : Rs (List D × List Sl)} {Q : VK} (an : AnsG X W G O σ H (OkV X.K) (r.bind fun p => .ok (.list p.1, p.2)) Q) : AnsF X W G O σ H r Q := by
  cases r with
  | ok p => exact fun a vs H' O' sr fa g z1 z2 z3 z4 h d => an (.ref a) H' O' (sr.drop fa z2 z4) (g.trans (fz_less fun b m => List.mem_cons_of_mem _ m)) (.lst (.inl (.inl (fz_mk z3 h))) (DpAll.same (fz_less fun b m => List.mem_cons_of_mem _ m) d))
  | exc n f => exact an
  | no => exact an
theorem DF.de (h : DF X W e f) : DE X W e (vList f) := by
  obtain ⟨t, p, q⟩ := h
  exact ⟨t, p, fun G O δ σ H Q sr an => q G O δ σ H Q sr (AnsF.ofG an)⟩
theorem DF.ret (h : DF X W e f) : DS X W (.Return (some e) pos) (fun δ => (f δ).bind fun p => .ok (.ro p.1, p.2)) := by
  obtain ⟨t, p, q⟩ := h
  refine ⟨_, ps_ret p, fun G O δ σ H Dn sr an => q G O δ σ H _ sr ?_⟩
  have an : AnsS X W G O H ((f δ).bind fun p => .ok (.ro p.1, p.2)) Dn := an
  cases er : f δ with
  | ok p => rw [er] at an; exact fun a vs H' O' sr fa g z1 z2 z3 z4 h d => an a σ H' O' (sr.drop fa z2 z4) (g.trans (fz_less fun b m => List.mem_cons_of_mem _ m)) ⟨vs, z1, z2, z3, h, d⟩
  | exc n f => rw [er] at an; exact fun cls dx H' k xo => an cls dx σ H' k xo
  | no => rw [er] at an; exact an
/-- a display -/
def vDisp (fe : XT (List D)) : XT (List D) := fun δ => (fe δ).bind fun p => if p.1.length ≤ sizeLine then .ok p else .no
theorem df_lst {es : List Expr} {fe : XT (List D)} (h : DA X W es fe) : DF X W (.List es pos) (vDisp fe) := by
  obtain ⟨t, p, q⟩ := h
  refine ⟨_, pe_lst p, fun G O δ σ H Q sr an => ?_⟩
  refine q G O δ σ H _ sr (an.seq fun x δ1 vs H1 O1 _ sr1 g1 d1 a1 => ?_)
  dsimp only at a1
  by_cases hl : x.length ≤ sizeLine
  · rw [if_pos hl] at a1
    have hlen : vs.length = x.length := DpAll.length d1
    exact ⟨by rw [hlen]; exact hl, fun p hp => a1.made sr1 hp d1⟩
  · rw [if_neg hl] at a1; exact a1.elim

/-! ### assignments -/
def isIo : Option Sl → Bool
  | some (.io _) => true
  | _ => false
def put (i : Nat) (s : Sl) (δ : List Sl) : Rs (Fl × List Sl) := if i < δ.length ∧ isIo δ[i]? = false then .ok (.nx, δ.set i s) else .no
def sSet (i : Nat) (fe : XT D) : SX := fun δ => (fe δ).bind fun p => put i (.d p.1) p.2
variable {fe : XT D} {x : Str} {pos' : Pos}
theorem ans_put {δ : List Sl} {i : Nat} {v : V} {d : D} (sr : SR (fr X G) O δ σ H) (p : Dp X.K (fz H O) v d) (an : AnsS X W G O H (put i (.d d) δ) Dn) : Dn.nx (σ.set i (some v)) H := by
  unfold put at an
  by_cases c : i < δ.length ∧ isIo δ[i]? = false
  · rw [if_pos c] at an
    exact an _ H O (sr.setD c.1 p) (Same.refl _)
  · rw [if_neg c] at an; exact an.elim
theorem ans_putOwn {δ : List Sl} {i : Nat} {a : Addr} {vs : List V} {xs : List D} (sr : SR (fr X G) (a :: O) δ σ H1) (fa : Free δ σ a) (g : Gr H O1 H1 (a :: O)) (z1 : G.H0 a = none) (z2 : a ∉ G.Ob) (z4 : ∀ p ∈ G.Pn, p.1 ≠ a) (h : H1 a = some (.lst vs)) (d : DpAll X.K (fz H1 (a :: O)) vs xs)
    (an : AnsS X W G O1 H (put i (.own xs) δ) Dn) : Dn.nx (σ.set i (some (.ref a))) H1 := by
  unfold put at an
  by_cases c : i < δ.length ∧ isIo δ[i]? = false
  · rw [if_pos c] at an
    exact an _ H1 _ (sr.setOwn c.1 List.mem_cons_self fa z4 z1 z2 h d) g
  · rw [if_neg c] at an; exact an.elim
theorem ds_set (i : Nat) (he : DE X W e fe) (hN : X.N.Nodup) (hi : X.N[i]? = some x := by rfl) (hx : Loc X.env.scope x := by first | exact Or.inl rfl | exact Or.inr rfl) (hs : swapsWith e (some (.Name x pos')) pos.line X.env = pure false := by rfl)
    (hf : X.fn x = true ∨ X.env.scope.names.lookup x = some .local := by first | exact .inl rfl | exact .inr rfl) : DS X W (.Assign [.Name x pos'] e pos) (sSet i fe) := by
  obtain ⟨t, p, q⟩ := he
  refine ⟨_, ps_set hN hi hx p hs hf, fun G O δ σ H Dn sr an => ?_⟩
  exact q G O δ σ H _ sr (an.ofE (fun _ _ _ h => h) fun x δ1 v H1 O1 _ sr1 g1 d1 a1 => ans_put sr1 d1 a1)
def sOwn (i : Nat) (f : XT (List D)) : SX := fun δ => (f δ).bind fun p => put i (.own p.1) p.2
theorem DF.own (i : Nat) (he : DF X W e f) (hN : X.N.Nodup) (hi : X.N[i]? = some x := by rfl) (hx : Loc X.env.scope x := by first | exact Or.inl rfl | exact Or.inr rfl) (hs : swapsWith e (some (.Name x pos')) pos.line X.env = pure false := by rfl)
    (hf : X.fn x = true ∨ X.env.scope.names.lookup x = some .local := by first | exact .inl rfl | exact .inr rfl) : DS X W (.Assign [.Name x pos'] e pos) (sOwn i f) := by
  obtain ⟨t, p, q⟩ := he
  refine ⟨_, ps_set hN hi hx p hs hf, fun G O δ σ H Dn sr an => q G O δ σ H _ sr ?_⟩
  unfold sOwn at an
  cases er : f δ with
  | ok p => rw [er] at an; exact fun a vs H' O' sr fa g z1 z2 z3 z4 h d => ans_putOwn sr fa g z1 z2 z4 h d an
  | exc n f => rw [er] at an; exact fun cls dx H' k xo => an cls dx σ H' k xo
  | no => rw [er] at an; exact an

/-! ### changes of a slot's list -/
/-- the list at a slot -/
def lstAt (i : Nat) (δ : List Sl) : Option (List D) := (δ[i]?).bind Sl.get?
def putAt (i : Nat) (xs : List D) (δ : List Sl) : List Sl := match δ[i]? with
  | some s => δ.set i (s.put xs)
  | none => δ
theorem lstAt_some {i : Nat} {δ : List Sl} {xs : List D} (h : lstAt i δ = some xs) : ∃ s, δ[i]? = some s ∧ s.get? = some xs ∧ ∀ ys, putAt i ys δ = δ.set i (s.put ys) := by
  unfold lstAt at h
  cases e : δ[i]? with
  | none => rw [e] at h; cases h
  | some s => rw [e] at h; exact ⟨s, rfl, h, fun ys => by unfold putAt; rw [e]⟩
/-- x.append(e) -/
def sApp (i : Nat) (fe : XT D) : SX := fun δ => (Rs.of (lstAt i δ)).bind fun _ => (fe δ).bind fun p => (Rs.of (lstAt i p.2)).bind fun xs =>
  if xs.length < sizeLine then .ok (.nx, putAt i (xs ++ [p.1]) p.2) else .no
theorem AnsS.ofO {α : Type} {o : Option α} {k : α → Rs (Fl × List Sl)} (an : AnsS X W G O H ((Rs.of o).bind k) Dn) : ∃ z, o = some z ∧ AnsS X W G O H (k z) Dn := by
  cases o with
  | none => exact an.elim
  | some z => exact ⟨z, rfl, an⟩
theorem ds_append (i : Nat) {p1 apos cpos : Pos} (he : DE X W e fe) (hN : X.N[i]? = some x := by rfl) (hv : Vis X.env.scope x := by first | exact Or.inl rfl | exact Or.inr (Or.inl rfl) | exact Or.inr (Or.inr rfl))
    (hs : starEach (e :: []) X.env = (false, eval e X.env) :: starEach [] X.env := by rfl) (hd : (x == ("__debug__" : Str)) = false := by decide) (hcd : (x == ("__classdict__" : Str)) = false := by decide)
    (hsw : swapsWith (.Call (.Attribute (.Name x p1) "append" apos) [e] [] cpos) none pos.line X.env = pure false := by rfl)
    (hline : (apos.endLine == cpos.line) = true := by rfl) (hbase : attributeBase (.Name x p1) "append" X.env (eval (.Name x p1) X.env) = eval (.Name x p1) X.env := by rfl)
    (hfew : ((backTo cpos (starEach [e] X.env)).all (fun x => !x.1) && (backToKw cpos (keywordEach [] X.env)).all (fun x => x.1.isSome)
      && decide (([e] : List Expr).length + ([] : List Keyword).length + (if ([] : List Keyword).isEmpty then 0 else 1) < 30)) = true := by rfl)
    (hpl : (backTo cpos (starEach [] X.env)).any (·.1) = false := by rfl) :
    DS X W (.Expr (.Call (.Attribute (.Name x p1) "append" apos) [e] [] cpos) pos) (sApp i fe) := by
  obtain ⟨t, p, q⟩ := he
  refine ⟨_, ps_expr (pe_bm PySem.F.plainAttrs_list PySem.F.slot_list_append PySem.F.type_list_append mt_append (pe_var hN hv hd hcd) (pa_cons p pa_nil hs) hbase hfew hline hs hpl) hsw, fun G O δ σ H Dn sr an => ?_⟩
  obtain ⟨_, e0, an⟩ := AnsS.ofO an
  obtain ⟨s0, es0, eg0, _⟩ := lstAt_some e0
  obtain ⟨a, vs, ei, m, pa, qa, mt, _⟩ := sr.mutAt es0 eg0
  refine ⟨_, ei, .inl ⟨rfl, vs, .inl (.inl pa)⟩, ?_⟩
  refine q G O δ σ H _ sr (an.ofE (fun _ _ _ h => h) fun y δ1 v H1 O1 _ sr1 g1 d1 a1 => ?_)
  dsimp only at a1
  obtain ⟨xs, e1, a1⟩ := AnsS.ofO a1
  obtain ⟨s, es, eg, ep⟩ := lstAt_some e1
  obtain ⟨b, ws, e1, m, pb, qb, mt, _⟩ := sr1.mutAt es eg
  rw [ei] at e1; cases e1
  by_cases hl : xs.length < sizeLine
  · rw [if_pos hl, ep] at a1
    have hlen : ws.length = xs.length := DpAll.length qb
    have dd : Dp X.K (fz H1 O1) v y := d1
    obtain ⟨sr2, g2⟩ := sr1.mutate (H' := upd H1 a (.lst (ws ++ [v]))) (ys := xs ++ [y]) es eg ei (fun b o eb nb => by rw [upd_ne nb]; exact eb) upd_same (by rw [fz_upd m]; exact qb.snoc dd)
    exact ⟨a, ws, v, rfl, rfl, pb, by rw [hlen]; exact hl, a1 σ _ O1 sr2 g2⟩
  · rw [if_neg hl] at a1; exact a1.elim
/-- x[e'] = e -/
def sStore (i : Nat) (fe fi : XT D) : SX := fun δ => (fe δ).bind fun p => (Rs.of (lstAt i p.2)).bind fun _ => (fi p.2).bind fun q => (Rs.of (lstAt i q.2)).bind fun xs =>
  (Rs.of (asI q.1)).bind fun k => (Rs.of (ixN xs.length k)).bind fun j => .ok (.nx, putAt i (xs.set j p.1) q.2)
theorem ds_store (i : Nat) {p1 ppos : Pos} {ei : Expr} {fi : XT D} (he : DE X W e fe) (hk : DE X W ei fi) (hN : X.N[i]? = some x := by rfl) (hv : Vis X.env.scope x := by first | exact Or.inl rfl | exact Or.inr (Or.inl rfl) | exact Or.inr (Or.inr rfl))
    (hd : (x == ("__debug__" : Str)) = false := by decide) (hcd : (x == ("__classdict__" : Str)) = false := by decide)
    (ha : ∀ v, assign (.Subscript (.Name x p1) ei ppos) X.env v = (do
      let ov ← holding [v] (eval (.Name x p1) X.env)
      let iv ← holding [v, ov] (eval ei X.env)
      standAt ppos
      holding [v, ov, iv] (setItem ov iv v)
      release [v, ov, iv] []) := by intro _; rfl)
    (hs : swapsWithSole [.Subscript (.Name x p1) ei ppos] e pos.line X.env = pure false := by rfl) (hw : swappedStores [.Subscript (.Name x p1) ei ppos] e X.env = pure none := by rfl)
    (h1 : (assignEach [.Subscript (.Name x p1) ei ppos] X.env).map (·.2) = [assign (.Subscript (.Name x p1) ei ppos) X.env] := by rfl) :
    DS X W (.Assign [.Subscript (.Name x p1) ei ppos] e pos) (sStore i fe fi) := by
  obtain ⟨t, p, q⟩ := he
  obtain ⟨t2, p2, q2⟩ := hk
  refine ⟨_, ps_asg p (pg_sub (pe_var hN hv hd hcd) p2 set_list ha) hs hw h1, fun G O δ σ H Dn sr an => ?_⟩
  refine q G O δ σ H _ sr (an.ofE (fun _ _ _ h => h) fun y δ1 v H1 O1 _ sr1 g1 d1 a1 => ?_)
  dsimp only at a1
  obtain ⟨_, e0, a1⟩ := AnsS.ofO a1
  obtain ⟨s0, es0, eg0, _⟩ := lstAt_some e0
  obtain ⟨a, vs, eσ, m, pa, qa, mt, _⟩ := sr1.mutAt es0 eg0
  refine ⟨_, eσ, ?_⟩
  refine q2 G O1 δ1 σ H1 _ sr1 (a1.ofE (fun _ _ _ h => h) fun k δ2 kv H2 O2 _ sr2 g2 d2 a2 => ?_)
  dsimp only at a2
  obtain ⟨xs, e1, a2⟩ := AnsS.ofO a2
  obtain ⟨s, es, eg, ep⟩ := lstAt_some e1
  obtain ⟨ki, ek, a3⟩ := AnsS.ofO a2
  obtain ⟨j, ej, a4⟩ := AnsS.ofO a3
  have d2' : Dp X.K (fz H2 O2) kv k := d2
  have ek' := asI_eq ek
  subst ek'
  obtain rfl := dp_int d2'
  obtain ⟨b, ws, e1, m, pb, qb, mt, _⟩ := sr2.mutAt es eg
  rw [eσ] at e1; cases e1
  have hlen : ws.length = xs.length := DpAll.length qb
  have dd : Dp X.K (fz H2 O2) v y := Dp.same g2 d1
  obtain ⟨sr3, g3⟩ := sr2.mutate (H' := upd H2 a (.lst (ws.set j v))) (ys := xs.set j y) es eg eσ (fun b o eb nb => by rw [upd_ne nb]; exact eb) upd_same (by rw [fz_upd m]; exact DpAll.set dd j qb)
  rw [ep] at a4
  exact ⟨a, ws, ki, j, rfl, rfl, pb, by rw [hlen]; exact ej, a4 σ _ O2 sr3 g3⟩
/-- x[e], the list at x kept -/
def vIxV (i : Nat) (fi : XT D) : XT D := fun δ => match δ[i]? with
  | some (.d x) => (fi δ).bind fun q => (Rs.of (gIx x q.1)).bind fun z => .ok (z, q.2)
  | _ => (Rs.of (lstAt i δ)).bind fun _ => (fi δ).bind fun q => (Rs.of (lstAt i q.2)).bind fun xs => (Rs.of (gIx (.list xs) q.1)).bind fun z => .ok (z, q.2)
theorem AnsG.ofO {α β γ : Type} {Ok : Hp → β → α → Prop} {Q : β → Hp → Prop} {o : Option γ} {k : γ → Rs (α × List Sl)} (an : AnsG X W G O σ H Ok ((Rs.of o).bind k) Q) : ∃ z, o = some z ∧ AnsG X W G O σ H Ok (k z) Q := by
  cases o with
  | none => exact an.elim
  | some z => exact ⟨z, rfl, an⟩
theorem dix (i : Nat) {p1 : Pos} {ei : Expr} {fi : XT D} (hk : DE X W ei fi) (hN : X.N[i]? = some x := by rfl) (hv : Vis X.env.scope x := by first | exact Or.inl rfl | exact Or.inr (Or.inl rfl) | exact Or.inr (Or.inr rfl))
    (hs : PlainIx ei := by intro _ _; rfl) (hd : (x == ("__debug__" : Str)) = false := by decide) (hcd : (x == ("__classdict__" : Str)) = false := by decide) : DE X W (.Subscript (.Name x p1) ei pos) (vIxV i fi) := by
  obtain ⟨t2, p2, q2⟩ := hk
  refine ⟨_, pe_ix ix_seq (pe_var hN hv hd hcd) p2 hs, fun G O δ σ H Q sr an => ?_⟩
  have fin : AnsG X W G O σ H (OkV X.K) ((Rs.of (lstAt i δ)).bind fun _ => (fi δ).bind fun q => (Rs.of (lstAt i q.2)).bind fun xs => (Rs.of (gIx (.list xs) q.1)).bind fun z => .ok (z, q.2)) Q → tOp (rIx X.K) (tVar i) t2 σ H Q := fun an => by
    obtain ⟨_, e0, an⟩ := AnsG.ofO an
    obtain ⟨s0, es0, eg0, _⟩ := lstAt_some e0
    obtain ⟨a, vs, eσ, m, pa, qa, mt, _⟩ := sr.mutAt es0 eg0
    refine ⟨_, eσ, q2 G O δ σ H _ sr (an.seq fun k δ2 kv H2 O2 _ sr2 g2 d2 a2 => ?_)⟩
    obtain ⟨xs, e1, a2⟩ := AnsG.ofO a2
    obtain ⟨s, es, eg, ep⟩ := lstAt_some e1
    obtain ⟨z, ez, a2⟩ := AnsG.ofO a2
    obtain ⟨b, ws, e1, m, pb, qb, mt, _⟩ := sr2.mutAt es eg
    rw [eσ] at e1; cases e1
    have d2' : Dp X.K (fz H2 O2) kv k := d2
    dsimp only at ez
    cases k with
    | int ki =>
      obtain rfl := dp_int d2'
      obtain ⟨w, ew, dw⟩ := atI_D qb (show atI xs ki = some z from ez)
      exact .inl ⟨_, _, _, _, rfl, rfl, .inl (.inl pb), ew, a2 w H2 O2 sr2 (Same.refl _) dw⟩
    | _ => cases ez
  unfold vIxV at an
  cases e : δ[i]? with
  | none => rw [e] at an; exact fin an
  | some s =>
    rw [e] at an
    cases s with
    | d y =>
      obtain ⟨v, e1, pv⟩ := sr.sl i _ e
      refine ⟨v, of_slAt e1, q2 G O δ σ H _ sr (AnsG.seq (k := fun q => (Rs.of (gIx y q.1)).bind fun z => .ok (z, q.2)) an fun k δ2 kv H2 O2 _ sr2 g2 d2 a2 => ?_)⟩
      obtain ⟨z, ez, kk⟩ := ans_of sr2 a2
      exact pr_ix O2 H2 v kv y k z Q sr2.alive (Dp.same g2 pv) d2 ez kk
    | own xs => exact fin an
    | io xs => exact fin an
    | un => exact fin an
    | fn n => exact fin an
end
end Ev
set_option maxHeartbeats 200000
/-! E7: functions' contracts and calls by data. Own work. -/
namespace Ev
open PySem PySem.Spec L2
open PyProof.Rows (envOfC)

abbrev FX := List D → Rs D
abbrev FL := List D → Rs (List D)
abbrev FU := List D → List D → Rs (D × List D)
/-- a def's promise: its arguments' data, the answer's datum -/
def spP (K : PySem.W.Frag) (mg : Str → Option Value) (g : FX) : Sp := fun vs H Q E => ∃ (Ob : List Addr) (ds : List D), (∀ a ∈ Ob, H a ≠ none) ∧ DpAll K (fz H Ob) vs ds ∧
  match g ds with
  | .ok d => ∀ v H', Same H H' → Dp K (fz H' Ob) v d → Q v H'
  | .exc m f => ∀ cls dx H', Same H H' → XOk mg m f cls dx H' → E cls dx H'
  | .no => False
/-- a def that hands back a new list -/
def spF (K : PySem.W.Frag) (mg : Str → Option Value) (g : FL) : Sp := fun vs H Q E => ∃ (Ob : List Addr) (ds : List D), (∀ a ∈ Ob, H a ≠ none) ∧ DpAll K (fz H Ob) vs ds ∧
  match g ds with
  | .ok xs => ∀ a ws H', Same H H' → H a = none → H' a = some (.lst ws) → DpAll K (fz H' (a :: Ob)) ws xs → Q (.ref a) H'
  | .exc m f => ∀ cls dx H', Same H H' → XOk mg m f cls dx H' → E cls dx H'
  | .no => False
/-- a def whose first argument is a list that it may change -/
def spU (K : PySem.W.Frag) (mg : Str → Option Value) (g : FU) : Sp := fun vs H Q E => ∃ (Ob : List Addr) (a : Addr) (ws rest : List V) (u ds : List D), vs = .ref a :: rest ∧ (∀ b ∈ Ob, H b ≠ none) ∧ a ∈ Ob ∧ H a = some (.lst ws) ∧
  DpAll K (fz H Ob) ws u ∧ DpAll K (fz H Ob) rest ds ∧
  match g u ds with
  | .ok p => ∀ v ws' H', (∀ b o, H b = some o → b ≠ a → H' b = some o) → H' a = some (.lst ws') → DpAll K (fz H' Ob) ws' p.2 → Dp K (fz H' Ob) v p.1 → Q v H'
  | .exc m f => ∀ cls dx H', (∀ b o, H b = some o → b ≠ a → H' b = some o) → XOk mg m f cls dx H' → E cls dx H'
  | .no => False

section
variable {X : Cx} {W : WX} {k : Nat} {f : Addr} {fd : FuncData} {ps : List Str} {x : Str} {p pos : Pos} {e : Expr} {es : List Expr}
def vCall (g : FX) (fe : XT (List D)) : XT D := fun δ => (fe δ).bind fun p => (g p.1).bind fun d => .ok (d, p.2)
theorem keptOf {G : G0} {O : List Addr} {δ : List Sl} {σ : St} {H H' : Hp} (sr : SR (fr X G) O δ σ H) (s : Same H H') : ∀ b o, G.H0 b = some o → b ∉ G.Wa → H' b = some o := fun b o e n => s b o (sr.old b o e n)
theorem call_ans {g : FX} {G : G0} {O : List Addr} {δ : List Sl} {σ : St} {H : Hp} {vs : List V} {ds : List D} {Q : VK} (sr : SR (fr X G) O δ σ H) (d : DpAll X.K (fz H O) vs ds) (an : AnsG X W G O σ H (OkV X.K) ((g ds).bind fun d => .ok (d, δ)) Q) :
    spP X.K X.mg g vs H Q (WE W σ) := by
  refine ⟨O, ds, sr.alive, d, ?_⟩
  cases e : g ds with
  | ok r => rw [e] at an; exact fun v H' s dv => an v H' O (sr.grow s) (fz_grow s) dv
  | exc m f => rw [e] at an; exact fun cls dx H' s xo => an cls dx H' (keptOf sr s) xo
  | no => rw [e] at an; exact an
theorem callF_ans {g : FL} {G : G0} {O : List Addr} {δ : List Sl} {σ : St} {H : Hp} {vs : List V} {ds : List D} {Q : VK} (sr : SR (fr X G) O δ σ H) (d : DpAll X.K (fz H O) vs ds) (an : AnsF X W G O σ H ((g ds).bind fun d => .ok (d, δ)) Q) :
    spF X.K X.mg g vs H Q (WE W σ) := by
  refine ⟨O, ds, sr.alive, d, ?_⟩
  cases e : g ds with
  | ok r =>
    rw [e] at an
    intro a ws H' s ha h dw
    obtain ⟨z1, z2, z3⟩ := fresh0 sr ha
    -- the state with one more owned address
    have s2 : Same (fz H O) (fz H' (a :: O)) := fun b o eb => by
      obtain ⟨n, eb⟩ := fz_some eb
      refine fz_mk (fun z => ?_) (s b o eb)
      rcases List.mem_cons.mp z with z | z
      · subst z; rw [ha] at eb; cases eb
      · exact n z
    have sr' := sr.grow s
    have srm : SR (fr X G) (a :: O) δ σ H' := by
      refine ⟨sr.len, fun i t et => ?_, sr.sep, sr'.old, fun b m => List.mem_cons_of_mem _ (sr.bas b m), sr.wa, fun b m => ?_, fun p' mp => ?_⟩
      · have z := sr.sl i t et
        cases t with
        | un => trivial
        | d x => obtain ⟨v, r1, r2⟩ := z; exact ⟨v, r1, r2.same s2⟩
        | own xs => obtain ⟨c, vs, r1, r2, y1, y2, r3, r4⟩ := z; exact ⟨c, vs, r1, List.mem_cons_of_mem _ r2, y1, y2, s _ _ r3, r4.same s2⟩
        | io xs => obtain ⟨c, vs, r1, r2, r3, r4⟩ := z; exact ⟨c, vs, r1, r2, s _ _ r3, r4.same s2⟩
        | fn n => exact z
      · rcases List.mem_cons.mp m with rfl | m
        · rw [h]; intro z; cases z
        · exact sr'.alive b m
      · obtain ⟨x1, x2, x3⟩ := sr.pin p' mp
        exact ⟨List.mem_cons_of_mem _ x1, s _ _ x2, x3⟩
    exact an a ws H' O srm (sr.free z3) s2 z1 z2 z3 (fun p' mp z => z3 (z ▸ (sr.pin p' mp).1)) h dw
  | exc m f => rw [e] at an; exact fun cls dx H' s xo => an cls dx H' (keptOf sr s) xo
  | no => rw [e] at an; exact an
theorem de_call {g : FX} {fe : XT (List D)} (F : FnOk X.prog X.w X.K X.mg X.base (L2.CX X.prog X.w) k f fd ps (spP X.K X.mg g)) (hr : Room k X.A) (tk : Takes X W) (hg : Gl X x) (hm : X.mg x = some (.ref f)) (hk : PySem.W.keepIn X.K (.ref f) = true) (hb : Binds X.K fd ps [])
    (ha : DA X W (e :: es) fe) (hdb : (x == ("__debug__" : Str)) = false := by decide) (he : starEach (e :: es) X.env = (false, eval e X.env) :: starEach es X.env := by rfl) (hpl : (backTo pos (starEach es X.env)).any (·.1) = false := by rfl) :
    DE X W (.Call (.Name x p) (e :: es) [] pos) (vCall g fe) := by
  obtain ⟨t, pt, q⟩ := ha
  refine ⟨_, pe_callSD F hr hg hm hk hb .nil (fun σ => passAt tk σ) pt hdb he hpl, fun G O δ σ H Q sr an => ?_⟩
  refine q G O δ σ H _ sr (an.seq fun ds δ1 vs H1 O1 _ sr1 g1 d1 a1 => ?_)
  rw [List.append_nil]
  exact call_ans sr1 d1 a1
theorem df_call {g : FL} {fe : XT (List D)} (F : FnOk X.prog X.w X.K X.mg X.base (L2.CX X.prog X.w) k f fd ps (spF X.K X.mg g)) (hr : Room k X.A) (tk : Takes X W) (hg : Gl X x) (hm : X.mg x = some (.ref f)) (hk : PySem.W.keepIn X.K (.ref f) = true) (hb : Binds X.K fd ps [])
    (ha : DA X W (e :: es) fe) (hdb : (x == ("__debug__" : Str)) = false := by decide) (he : starEach (e :: es) X.env = (false, eval e X.env) :: starEach es X.env := by rfl) (hpl : (backTo pos (starEach es X.env)).any (·.1) = false := by rfl) :
    DF X W (.Call (.Name x p) (e :: es) [] pos) (fun δ => (fe δ).bind fun p => (g p.1).bind fun d => .ok (d, p.2)) := by
  obtain ⟨t, pt, q⟩ := ha
  refine ⟨_, pe_callSD F hr hg hm hk hb .nil (fun σ => passAt tk σ) pt hdb he hpl, fun G O δ σ H Q sr an => ?_⟩
  refine q G O δ σ H _ sr (an.seq fun ds δ1 vs H1 O1 _ sr1 g1 d1 a1 => ?_)
  rw [List.append_nil]
  exact callF_ans sr1 d1 a1
/-- f(x, ..), x a list that f may change -/
def vCallU (i : Nat) (g : FU) (fe : XT (List D)) : XT D := fun δ => (Rs.of (lstAt i δ)).bind fun _ => (fe δ).bind fun p => (Rs.of (lstAt i p.2)).bind fun u => (g u p.1).bind fun r => .ok (r.1, putAt i r.2 p.2)
theorem callU_ans {g : FU} {G : G0} {O : List Addr} {δ : List Sl} {σ : St} {H : Hp} {a : Addr} {vs : List V} {u ds : List D} {Q : VK} {i : Nat} (sr : SR (fr X G) O δ σ H) (eσ : σ[i]? = some (some (.ref a))) (eu : lstAt i δ = some u)
    (d : DpAll X.K (fz H O) vs ds) (an : AnsG X W G O σ H (OkV X.K) ((g u ds).bind fun r => .ok (r.1, putAt i r.2 δ)) Q) : spU X.K X.mg g (.ref a :: vs) H Q (WE W σ) := by
  obtain ⟨s, es, eg, ep⟩ := lstAt_some eu
  obtain ⟨b, ws, e1, m, pb, qb, mt, fo⟩ := sr.mutAt es eg
  rw [eσ] at e1; cases e1
  refine ⟨O, a, ws, vs, u, ds, rfl, sr.alive, m, pb, qb, d, ?_⟩
  have old : ∀ H' : Hp, (∀ b o, H b = some o → b ≠ a → H' b = some o) → ∀ b o, G.H0 b = some o → b ∉ G.Wa → H' b = some o := fun H' k b o e n => k b o (sr.old b o e n) fun z => by
    subst z
    rcases fo with fo | fo
    · have fo' : G.H0 b = none := fo
      rw [fo'] at e; cases e
    · exact n fo
  cases er : g u ds with
  | ok r =>
    rw [er] at an
    intro v ws' H' k h dw dv
    obtain ⟨sr2, g2⟩ := sr.mutate (ys := r.2) es eg eσ k h dw
    rw [← ep] at sr2
    exact an v H' O sr2 g2 dv
  | exc m f => rw [er] at an; exact fun cls dx H' k xo => an cls dx H' (old H' k) xo
  | no => rw [er] at an; exact an
theorem de_callU {i : Nat} {g : FU} {y : Str} {p1 : Pos} {fe : XT (List D)} (F : FnOk X.prog X.w X.K X.mg X.base (L2.CX X.prog X.w) k f fd ps (spU X.K X.mg g)) (hr : Room k X.A) (tk : Takes X W) (hg : Gl X x) (hm : X.mg x = some (.ref f)) (hk : PySem.W.keepIn X.K (.ref f) = true) (hb : Binds X.K fd ps [])
    (ha : DA X W es fe) (hN : X.N[i]? = some y := by rfl) (hv : Vis X.env.scope y := by first | exact Or.inl rfl | exact Or.inr (Or.inl rfl) | exact Or.inr (Or.inr rfl))
    (hd : (y == ("__debug__" : Str)) = false := by decide) (hcd : (y == ("__classdict__" : Str)) = false := by decide)
    (hdb : (x == ("__debug__" : Str)) = false := by decide) (he : starEach (.Name y p1 :: es) X.env = (false, eval (.Name y p1) X.env) :: starEach es X.env := by rfl) (hpl : (backTo pos (starEach es X.env)).any (·.1) = false := by rfl) :
    DE X W (.Call (.Name x p) (.Name y p1 :: es) [] pos) (vCallU i g fe) := by
  obtain ⟨t, pt, q⟩ := ha
  refine ⟨_, pe_callSD F hr hg hm hk hb .nil (fun σ => passAt tk σ) (pa_cons (pe_var hN hv hd hcd) pt he) hdb he hpl, fun G O δ σ H Q sr an => ?_⟩
  obtain ⟨_, e0, an⟩ := AnsG.ofO an
  obtain ⟨s0, es0, eg0, _⟩ := lstAt_some e0
  obtain ⟨a, vs0, eσ, m, pa, qa, mt, _⟩ := sr.mutAt es0 eg0
  refine ⟨_, eσ, q G O δ σ H _ sr (an.seq fun ds δ1 vs H1 O1 _ sr1 g1 d1 a1 => ?_)⟩
  obtain ⟨u, eu, a1⟩ := AnsG.ofO a1
  rw [List.append_nil]
  exact callU_ans sr1 eσ eu d1 a1
end

/-! ### a def's body -/
def retOf : Rs (Fl × List Sl) → Rs D
  | .ok (.rt d, _) => .ok d
  | .ok (.nx, _) => .ok .none
  | .exc n f => .exc n f
  | _ => .no
def slots (N : Nat) (ds : List D) : List Sl := ds.map .d ++ List.replicate (N - ds.length) .un
/-- what a def's body answers: n parameters, N slots -/
def fnP (n N : Nat) (f : SX) : FX := fun ds => if ds.length = n then retOf (f (slots N ds)) else .no
def fnF (n N : Nat) (f : SX) : FL := fun ds => if ds.length = n then (match f (slots N ds) with
  | .ok (.ro xs, _) => .ok xs
  | .exc n f => .exc n f
  | _ => .no) else .no
def fnU (n N : Nat) (f : SX) : FU := fun u ds => if ds.length + 1 = n then (match f (.io u :: slots (N - 1) ds) with
  | .ok (.rt d, .io u' :: _) => .ok (d, u')
  | .ok (.nx, .io u' :: _) => .ok (.none, u')
  | .exc n f => .exc n f
  | _ => .no) else .no
section
variable {K : PySem.W.Frag} {mg : Str → Option Value}
theorem slots_len {N : Nat} {ds : List D} (h : ds.length ≤ N) : (slots N ds).length = N := by
  unfold slots
  rw [List.length_append, List.length_map, List.length_replicate]
  omega
theorem slots_get {N : Nat} {ds : List D} {i : Nat} {s : Sl} (e : (slots N ds)[i]? = some s) : (∃ x, ds[i]? = some x ∧ s = .d x) ∨ s = .un := by
  unfold slots at e
  by_cases h : i < ds.length
  · rw [List.getElem?_append_left (by simpa using h), List.getElem?_map, List.getElem?_eq_getElem h] at e
    exact .inl ⟨ds[i], List.getElem?_eq_getElem h, (Option.some.inj e).symm⟩
  · rw [List.getElem?_append_right (by simpa using h), List.getElem?_replicate] at e
    split at e
    · exact .inr (Option.some.inj e).symm
    · cases e
theorem start_get {N : List Str} {vs : List V} {i : Nat} {v : V} (h : vs[i]? = some v) : slAt (L2.start N vs) i = some v := by
  have hi : i < vs.length := (List.getElem?_eq_some_iff.mp h).1
  refine slAt_of ?_
  unfold L2.start
  rw [List.getElem?_append_left (by simpa using hi), List.getElem?_map, h]; rfl
theorem start_len {N : List Str} {vs : List V} (h : vs.length ≤ N.length) : (L2.start N vs).length = N.length := by
  unfold L2.start
  rw [List.length_append, List.length_map, List.length_replicate]
  omega
/-- the state at a def's entry -/
theorem SR.start {N : List Str} {H : Hp} {Ob : List Addr} {vs : List V} {ds : List D} (al : ∀ a ∈ Ob, H a ≠ none) (d : DpAll K (fz H Ob) vs ds) (hN : ds.length ≤ N.length) : SR ⟨K, mg, H, Ob, [], []⟩ Ob (slots N.length ds) (L2.start N vs) H where
  len := by rw [slots_len hN, start_len (by rw [d.length]; exact hN)]
  sl := fun i s e => by
    rcases slots_get e with ⟨x, ex, rfl⟩ | rfl
    · obtain ⟨v, ev, dv⟩ := d.get ex
      exact ⟨v, start_get ev, dv⟩
    · trivial
  sep := fun i j s t a e1 e2 m1 m2 _ _ => by
    rcases slots_get e1 with ⟨x, ex, rfl⟩ | rfl
    · exact m1.elim
    · exact m1.elim
  old := fun b o e _ => e
  bas := fun a m => m
  wa := fun a m => by cases m
  alive := al
  pin := fun p m => by cases m
theorem SR.startU {N : List Str} {H : Hp} {Ob : List Addr} {a : Addr} {ws vs : List V} {u ds : List D} (al : ∀ a ∈ Ob, H a ≠ none) (ma : a ∈ Ob) (h : H a = some (.lst ws)) (du : DpAll K (fz H Ob) ws u) (d : DpAll K (fz H Ob) vs ds) (hN : ds.length + 1 ≤ N.length) :
    SR ⟨K, mg, H, Ob, [a], []⟩ Ob (.io u :: slots (N.length - 1) ds) (L2.start N (.ref a :: vs)) H where
  len := by rw [List.length_cons, slots_len (by omega), start_len (by rw [List.length_cons, d.length]; exact hN)]; omega
  sl := fun i s e => by
    cases i with
    | zero =>
      cases (Option.some.inj e)
      exact ⟨a, ws, start_get rfl, List.mem_singleton.mpr rfl, h, du⟩
    | succ i =>
      rcases slots_get (show (slots (N.length - 1) ds)[i]? = some s from e) with ⟨x, ex, rfl⟩ | rfl
      · obtain ⟨v, ev, dv⟩ := d.get ex
        exact ⟨v, start_get (show (V.ref a :: vs)[i + 1]? = some v from ev), dv⟩
      · trivial
  sep := fun i j s t b e1 e2 m1 m2 _ _ => by
    have z : ∀ (i : Nat) (s : Sl), (Sl.io u :: slots (N.length - 1) ds)[i]? = some s → s.mut → i = 0 := fun i s e m => by
      cases i with
      | zero => rfl
      | succ i =>
        rcases slots_get (show (slots (N.length - 1) ds)[i]? = some s from e) with ⟨x, ex, rfl⟩ | rfl
        · exact m.elim
        · exact m.elim
    rw [z i s e1 m1, z j t e2 m2]
  old := fun b o e _ => e
  bas := fun a m => m
  wa := fun b m => by cases m with
    | head => exact ma
    | tail _ m => cases m
  alive := al
  pin := fun p m => by cases m
end

section
variable {P : Program} {w : World} {K : PySem.W.Frag} {mg : Str → Option Value} {base : Heap}
/-- the wish of a def's body -/
abbrev WD (E : XK) : WX := fun cls d _ H => E cls d H
/-- A def by its body -/
theorem fn_P {x qual : Str} {st : Stmt} {f : Addr} {fd : FuncData} {N ps : List Str} {k : Nat} {g : SX} (F : Fun K x qual st f fd) (S : FnScope N ps (defScope st)) (hps : ps.length ≤ N.length)
    (body : ∀ (cdv : Value) (A : Around) (outer : List Env) (s : Shared) (H : Hp) (E : XK), Room k (A.deeper (envOfC qual (defScope st) s.heap.objs.size f cdv)) →
      DSs (cxOf (L2.CX P w) P w K mg base N qual (defScope st) f cdv A outer s H E) (WD E) (defBody st) g) : FnOk P w K mg base (L2.CX P w) (k + 1) f fd ps (spP K mg (fnP ps.length N.length g)) := by
  refine F.okX S (fun vs H Q E h => ?_) (fun cdv A outer s H vs Q E hr h => ?_)
  · obtain ⟨Ob, ds, al, d, m⟩ := h
    unfold fnP at m
    by_cases c : ds.length = ps.length
    · rw [d.length]; exact c
    · rw [if_neg c] at m; exact m.elim
  · obtain ⟨Ob, ds, al, d, m⟩ := h
    obtain ⟨t, pt, q⟩ := body cdv A outer s H E hr
    refine ⟨t, pt, ?_⟩
    unfold fnP at m
    by_cases c : ds.length = ps.length
    · rw [if_pos c] at m
      refine q ⟨H, Ob, [], []⟩ Ob (slots N.length ds) _ H _ (SR.start al d (by omega)) ?_
      rcases hg : g (slots N.length ds) with ⟨⟨_ | _ | _ | r | xs, δ⟩⟩ | ⟨n, fl⟩ | _
      · rw [hg] at m; exact fun σ' H' O' sr gr => m .non H' (fun b o e => sr.old b o e (fun z => by cases z)) .non
      · rw [hg] at m; exact m.elim
      · rw [hg] at m; exact m.elim
      · rw [hg] at m; exact fun v σ' H' O' sr gr dv => m v H' (fun b o e => sr.old b o e (fun z => by cases z)) (dv.same (fz_less sr.bas))
      · rw [hg] at m; exact m.elim
      · rw [hg] at m; exact fun cls dx σ' H' kp xo => m cls dx H' (fun b o e => kp b o e (fun z => by cases z)) xo
      · rw [hg] at m; exact m
    · rw [if_neg c] at m; exact m.elim
theorem fn_F {x qual : Str} {st : Stmt} {f : Addr} {fd : FuncData} {N ps : List Str} {k : Nat} {g : SX} (F : Fun K x qual st f fd) (S : FnScope N ps (defScope st)) (hps : ps.length ≤ N.length)
    (body : ∀ (cdv : Value) (A : Around) (outer : List Env) (s : Shared) (H : Hp) (E : XK), Room k (A.deeper (envOfC qual (defScope st) s.heap.objs.size f cdv)) →
      DSs (cxOf (L2.CX P w) P w K mg base N qual (defScope st) f cdv A outer s H E) (WD E) (defBody st) g) : FnOk P w K mg base (L2.CX P w) (k + 1) f fd ps (spF K mg (fnF ps.length N.length g)) := by
  refine F.okX S (fun vs H Q E h => ?_) (fun cdv A outer s H vs Q E hr h => ?_)
  · obtain ⟨Ob, ds, al, d, m⟩ := h
    unfold fnF at m
    by_cases c : ds.length = ps.length
    · rw [d.length]; exact c
    · rw [if_neg c] at m; exact m.elim
  · obtain ⟨Ob, ds, al, d, m⟩ := h
    obtain ⟨t, pt, q⟩ := body cdv A outer s H E hr
    refine ⟨t, pt, ?_⟩
    unfold fnF at m
    by_cases c : ds.length = ps.length
    · rw [if_pos c] at m
      refine q ⟨H, Ob, [], []⟩ Ob (slots N.length ds) _ H _ (SR.start al d (by omega)) ?_
      rcases hg : g (slots N.length ds) with ⟨⟨_ | _ | _ | r | xs, δ⟩⟩ | ⟨n, fl⟩ | _
      · rw [hg] at m; exact m.elim
      · rw [hg] at m; exact m.elim
      · rw [hg] at m; exact m.elim
      · rw [hg] at m; exact m.elim
      · rw [hg] at m
        intro a σ' H' O' sr gr ⟨vs', z1, z2, z3, h, dv⟩
        exact m a vs' H' (fun b o e => sr.old b o e (fun z => by cases z)) z1 h (dv.same (fz_less fun b mb => (List.mem_cons.mp mb).elim (fun z => by rw [z]; exact List.mem_cons_self) fun z => List.mem_cons_of_mem _ (sr.bas b z)))
      · rw [hg] at m; exact fun cls dx σ' H' kp xo => m cls dx H' (fun b o e => kp b o e (fun z => by cases z)) xo
      · rw [hg] at m; exact m
    · rw [if_neg c] at m; exact m.elim
theorem fn_U {x qual : Str} {st : Stmt} {f : Addr} {fd : FuncData} {N ps : List Str} {k : Nat} {g : SX} (F : Fun K x qual st f fd) (S : FnScope N ps (defScope st)) (hps : ps.length ≤ N.length)
    (body : ∀ (cdv : Value) (A : Around) (outer : List Env) (s : Shared) (H : Hp) (E : XK), Room k (A.deeper (envOfC qual (defScope st) s.heap.objs.size f cdv)) →
      DSs (cxOf (L2.CX P w) P w K mg base N qual (defScope st) f cdv A outer s H E) (WD E) (defBody st) g) : FnOk P w K mg base (L2.CX P w) (k + 1) f fd ps (spU K mg (fnU ps.length N.length g)) := by
  refine F.okX S (fun vs H Q E h => ?_) (fun cdv A outer s H vs Q E hr h => ?_)
  · obtain ⟨Ob, a, ws, rest, u, ds, rfl, al, ma, ha, du, d, m⟩ := h
    unfold fnU at m
    by_cases c : ds.length + 1 = ps.length
    · rw [List.length_cons, d.length]; exact c
    · rw [if_neg c] at m; exact m.elim
  · obtain ⟨Ob, a, ws, rest, u, ds, rfl, al, ma, ha, du, d, m⟩ := h
    obtain ⟨t, pt, q⟩ := body cdv A outer s H E hr
    refine ⟨t, pt, ?_⟩
    unfold fnU at m
    by_cases c : ds.length + 1 = ps.length
    · rw [if_pos c] at m
      have kept : ∀ {O' : List Addr} {δ' : List Sl} {σ' : St} {H' : Hp}, SR ⟨K, mg, H, Ob, [a], []⟩ O' δ' σ' H' → ∀ b o, H b = some o → b ≠ a → H' b = some o := fun sr b o e n => sr.old b o e (fun z => n (List.mem_singleton.mp z))
      have io0 : ∀ {O' : List Addr} {u' : List D} {δ' : List Sl} {σ' : St} {H' : Hp}, SR ⟨K, mg, H, Ob, [a], []⟩ O' (.io u' :: δ') σ' H' → ∃ ws', H' a = some (.lst ws') ∧ DpAll K (fz H' Ob) ws' u' := fun {O' u' δ' σ' H'} sr => by
        obtain ⟨a', ws', _, m', h', q'⟩ := sr.sl 0 _ rfl
        obtain rfl := List.mem_singleton.mp m'
        exact ⟨ws', h', q'.same (fz_less sr.bas)⟩
      refine q ⟨H, Ob, [a], []⟩ Ob (.io u :: slots (N.length - 1) ds) _ H _ (SR.startU al ma ha du d (by omega)) ?_
      rcases hg : g (.io u :: slots (N.length - 1) ds) with ⟨⟨fl, δ⟩⟩ | ⟨n, fl⟩ | _
      · rw [hg] at m
        cases fl with
        | nx =>
          cases δ with
          | nil => exact m.elim
          | cons s0 δ =>
            cases s0 with
            | io u' =>
              intro σ' H' O' sr gr
              obtain ⟨ws', h', q'⟩ := io0 sr
              exact m .non ws' H' (kept sr) h' q' .non
            | _ => exact m.elim
        | rt r =>
          cases δ with
          | nil => exact m.elim
          | cons s0 δ =>
            cases s0 with
            | io u' =>
              intro v σ' H' O' sr gr dv
              obtain ⟨ws', h', q'⟩ := io0 sr
              exact m v ws' H' (kept sr) h' q' (dv.same (fz_less sr.bas))
            | _ => exact m.elim
        | _ => exact m.elim
      · rw [hg] at m; exact fun cls dx σ' H' kp xo => m cls dx H' (fun b o e n => kp b o e (fun z => n (List.mem_singleton.mp z))) xo
      · rw [hg] at m; exact m
    · rw [if_neg c] at m; exact m.elim
/-- a smaller promise -/
def Rs.le {α : Type} (a b : Rs α) : Prop := a = .no ∨ a = b
theorem FnOk.le {f : Addr} {fd : FuncData} {ps : List Str} {k : Nat} {g g' : FX} (F : FnOk P w K mg base (L2.CX P w) k f fd ps (spP K mg g)) (h : ∀ ds, Rs.le (g' ds) (g ds)) : FnOk P w K mg base (L2.CX P w) k f fd ps (spP K mg g') :=
  F.imp fun vs H Q E ⟨Ob, ds, al, d, m⟩ => ⟨Ob, ds, al, d, by
    rcases h ds with e | e
    · rw [e] at m; exact m.elim
    · rw [← e]; exact m⟩
theorem FnOk.leF {f : Addr} {fd : FuncData} {ps : List Str} {k : Nat} {g g' : FL} (F : FnOk P w K mg base (L2.CX P w) k f fd ps (spF K mg g)) (h : ∀ ds, Rs.le (g' ds) (g ds)) : FnOk P w K mg base (L2.CX P w) k f fd ps (spF K mg g') :=
  F.imp fun vs H Q E ⟨Ob, ds, al, d, m⟩ => ⟨Ob, ds, al, d, by
    rcases h ds with e | e
    · rw [e] at m; exact m.elim
    · rw [← e]; exact m⟩
theorem FnOk.leU {f : Addr} {fd : FuncData} {ps : List Str} {k : Nat} {g g' : FU} (F : FnOk P w K mg base (L2.CX P w) k f fd ps (spU K mg g)) (h : ∀ u ds, Rs.le (g' u ds) (g u ds)) : FnOk P w K mg base (L2.CX P w) k f fd ps (spU K mg g') :=
  F.imp fun vs H Q E ⟨Ob, a, ws, rest, u, ds, e0, al, ma, ha, du, d, m⟩ => ⟨Ob, a, ws, rest, u, ds, e0, al, ma, ha, du, d, by
    rcases h u ds with e | e
    · rw [e] at m; exact m.elim
    · rw [← e]; exact m⟩
end
end Ev
set_option maxHeartbeats 200000
/-! E8: targets, what is walked, loops, comprehensions by data. Own work. -/
namespace Ev
open PySem PySem.Spec L2

/-! ### targets -/
def setV (σ : St) : List Nat → List V → St
  | i :: is, v :: vs => setV (σ.set i (some v)) is vs
  | _, _ => σ
/-- a target: the slots that it sets, how a datum is parted -/
def DG (X : Cx) (tg : Expr) (is : List Nat) (sel : D → Option (List D)) : Prop :=
  ∃ t, PG X tg t ∧ ∀ (σ : St) (H : Hp) (O : List Addr) (v : V) (d : D) (ds : List D) (Q : St → Hp → Prop), sel d = some ds → Dp X.K (fz H O) v d → (∀ vs, DpAll X.K (fz H O) vs ds → Q (setV σ is vs) H) → t v σ H Q
def selOne (d : D) : Option (List D) := some [d]
def selTup (n : Nat) : D → Option (List D)
  | .tuple ds => if ds.length = n then some ds else none
  | _ => none
section
variable {X : Cx} {x : Str} {pos : Pos}
theorem dg_name (i : Nat) (hN : X.N.Nodup) (hi : X.N[i]? = some x := by rfl) (hx : Loc X.env.scope x := by first | exact Or.inl rfl | exact Or.inr rfl) (hf : X.fn x = true ∨ X.env.scope.names.lookup x = some .local := by first | exact .inl rfl | exact .inr rfl) :
    DG X (.Name x pos) [i] selOne :=
  ⟨_, pg_name hN hi hx hf, fun σ H O v d ds Q e h k => by cases e; exact k [v] (.cons h .nil)⟩
/-- names in a row -/
def DGs (X : Cx) (ts : List Expr) (is : List Nat) : Prop :=
  ∃ t, PGs X ts t ∧ ∀ (σ : St) (H : Hp) (vs : List V) (Q : St → Hp → Prop), vs.length = is.length → Q (setV σ is vs) H → t vs σ H Q
theorem dgs_nil : DGs X [] [] := ⟨_, pgs_nil, fun σ H vs Q e k => by cases vs with | nil => exact ⟨rfl, k⟩ | cons _ _ => cases e⟩
theorem dgs_cons (i : Nat) {es : List Expr} {is : List Nat} (h : DGs X es is) (hN : X.N.Nodup) (hi : X.N[i]? = some x := by rfl) (hx : Loc X.env.scope x := by first | exact Or.inl rfl | exact Or.inr rfl) (hf : X.fn x = true ∨ X.env.scope.names.lookup x = some .local := by first | exact .inl rfl | exact .inr rfl)
    (hs : (assignEach (.Name x pos :: es) X.env).map (·.2) = assign (.Name x pos) X.env :: (assignEach es X.env).map (·.2) := by rfl) : DGs X (.Name x pos :: es) (i :: is) := by
  obtain ⟨t, p, q⟩ := h
  refine ⟨_, pgs_cons (pg_name hN hi hx hf) p hs, fun σ H vs Q e k => ?_⟩
  cases vs with
  | nil => cases e
  | cons v vs => exact ⟨v, vs, rfl, q _ H vs Q (by simpa using e) k⟩
theorem dg_tup {es : List Expr} {kk : Nat} {is : List Nat} (hc : X.calm = true) (h : DGs X es is) (hn : (assignEach es X.env).length = is.length := by rfl) (hst : (assignEach es X.env).findIdx? (·.1) = none := by rfl) :
    DG X (.Tuple es kk pos) is (selTup is.length) := by
  obtain ⟨t, p, q⟩ := h
  refine ⟨_, pg_tup hc p hn hst, fun σ H O v d ds Q e hd k => ?_⟩
  cases d with
  | tuple xs =>
    obtain ⟨c, rfl⟩ := ite_some e
    cases hd with
    | tup hs ha => exact ⟨_, _, rfl, SqT.same (fz_same H O) hs, by rw [ha.length]; exact c, q σ H _ Q (by rw [ha.length]; exact c) (k _ ha)⟩
  | _ => cases e
end
/-- slots set to data -/
def putD : List Nat → List D → List Sl → Option (List Sl)
  | i :: is, d :: ds, δ => if i < δ.length ∧ isIo δ[i]? = false then putD is ds (δ.set i (.d d)) else none
  | [], [], δ => some δ
  | _, _, _ => none
theorem SR.putD {F : Fr0} {O : List Addr} {H : Hp} : ∀ {is : List Nat} {ds : List D} {vs : List V} {δ δ' : List Sl} {σ : St}, SR F O δ σ H → DpAll F.K (fz H O) vs ds → Ev.putD is ds δ = some δ' → SR F O δ' (setV σ is vs) H
  | [], [], _, _, _, _, sr, .nil, e => by cases e; exact sr
  | i :: is, d :: ds, _, δ, δ', σ, sr, .cons h t, e => by
    unfold Ev.putD at e
    by_cases c : i < δ.length ∧ isIo δ[i]? = false
    · rw [if_pos c] at e
      have z := SR.putD (sr.setD c.1 h) t e
      exact z
    · rw [if_neg c] at e; cases e
  | [], _ :: _, _, _, _, _, _, _, e => by cases e
  | _ :: _, [], _, _, _, _, _, _, e => by cases e

/-! ### what is walked -/
def OkI (K : PySem.W.Frag) (M : Hp) (J : It) (ds : List D) : Prop := ∀ (H : Hp) (O : List Addr), Same M (fz H O) → (∀ a ∈ O, H a ≠ none) → ∀ i : Nat,
  (∀ d, ds[i]? = some d → J.go i H ∧ ∀ x H', J.yld i H x H' → Same H H' ∧ Dp K (fz H' O) x d) ∧ (ds.length ≤ i → J.stop i H)
def DI (X : Cx) (W : WX) (tg iter : Expr) (f : XT (List D)) : Prop :=
  ∃ wi, PI X tg iter wi ∧ ∀ G O δ σ H R, SR (fr X G) O δ σ H → AnsG X W G O σ H (OkI X.K) (f δ) R → wi σ H R
section
variable {K : PySem.W.Frag} {M : Hp}
theorem okI_list {a : Addr} {vs : List V} {ds : List D} (h : SqL K M a vs) (d : DpAll K M vs ds) : OkI K M (Itl K a) ds := fun H O s al i => by
  have hS := SqL.same s h
  have hH := SqL.same (fz_same H O) hS
  refine ⟨fun x e => ?_, fun e => ⟨vs, hH, by rw [d.length]; exact e⟩⟩
  obtain ⟨v, ev, dv⟩ := d.get e
  refine ⟨⟨vs, v, hH, ev⟩, fun y H' hy => ?_⟩
  obtain ⟨rfl, hy⟩ := hy
  have := hy vs hH
  rw [ev] at this; cases this
  exact ⟨Same.refl _, dv.same s⟩
theorem okI_tup {a : Addr} {vs : List V} {ds : List D} (h : SqT K M a vs) (d : DpAll K M vs ds) : OkI K M (Itt K a) ds := fun H O s al i => by
  have hS := SqT.same s h
  have hH := SqT.same (fz_same H O) hS
  refine ⟨fun x e => ?_, fun e => ⟨vs, hH, by rw [d.length]; exact e⟩⟩
  obtain ⟨v, ev, dv⟩ := d.get e
  refine ⟨⟨vs, v, hH, ev⟩, fun y H' hy => ?_⟩
  obtain ⟨rfl, hy⟩ := hy
  have := hy vs hH
  rw [ev] at this; cases this
  exact ⟨Same.refl _, dv.same s⟩
def rangeD (lo : Int) (n : Nat) : List D := (List.range n).map fun i => PyData.int (lo + (i : Nat))
theorem rangeD_get {lo : Int} {n i : Nat} {d : D} (e : (rangeD lo n)[i]? = some d) : i < n ∧ d = .int (lo + i) := by
  unfold rangeD at e
  rw [List.getElem?_map] at e
  by_cases h : i < n
  · rw [List.getElem?_eq_getElem (by simpa using h)] at e
    refine ⟨h, ?_⟩
    simp at e
    exact e.symm
  · rw [List.getElem?_eq_none (by simpa using h)] at e; cases e
theorem rangeD_len (lo : Int) (n : Nat) : (rangeD lo n).length = n := by unfold rangeD; simp
theorem okI_range {lo : Int} {n : Nat} : OkI K M (Itr lo n) (rangeD lo n) := fun H O s al i => by
  refine ⟨fun x e => ?_, fun e => by rw [rangeD_len] at e; exact e⟩
  obtain ⟨h, rfl⟩ := rangeD_get e
  exact ⟨h, fun y H' ⟨e1, e2⟩ => by rw [e1, e2]; exact ⟨Same.refl _, .int _⟩⟩
end
/-- a list's items, a tuple's -/
def itemsOf : D → Option (List D)
  | .list xs => some xs
  | .tuple xs => some xs
  | _ => none
def iSeq (K : PySem.W.Frag) (tl : TE) : TI := fun σ H R => tl σ H fun x H1 => (∃ a, x = .ref a ∧ (∃ xs, SqL K H1 a xs) ∧ R (Itl K a) H1) ∨ ∃ a, x = .ref a ∧ (∃ xs, SqT K H1 a xs) ∧ R (Itt K a) H1
section
variable {X : Cx} {W : WX} {tg l : Expr} {fl : XT D}
theorem PE.keep {e : Expr} {t : TE} (h : PE X e t) (k : V → Hp → VK → Prop) : True := trivial
theorem pi_seq {tl : TE} (hl : PE X l tl) : PI X tg l (iSeq X.K tl) := by
  refine ⟨fun pins s σ H R I h => ?_⟩
  refine thn (hl.run pins s σ H _ I h) fun v s1 ⟨x, H1, I1, r1, q1⟩ => ?_
  rcases q1 with ⟨a, rfl, ⟨xs, hq⟩, q⟩ | ⟨a, rfl, ⟨xs, hq⟩, q⟩
  · cases r1
    obtain ⟨its, rv, p, hz⟩ := I1.list hq
    refine wpAny_pyIter_list p.isList ?_
    refine ⟨s1.heap.objs.size, [s1.heap.objs.size], _, _, H1, rfl, I1.kept (t' := s1.toks) fun b o e => Heap.get?_push_of_some _ e, turn_list a _, ⟨_, Heap.get?_push_size _ rfl, rfl, rfl⟩, fun b hb => ?_, q⟩
    have e : b = s1.heap.objs.size := by simpa using hb
    subst e
    exact I1.fpOk (Nat.le_refl _) (I1.hok.fresh (Nat.le_refl _))
  · cases r1
    obtain ⟨its, rv, p, hz⟩ := I1.tuple hq
    refine wpAny_pyIter_tuple (show s1.heap.IsTuple a its.toArray from p) ?_
    refine ⟨s1.heap.objs.size, [s1.heap.objs.size], _, _, H1, rfl, I1.kept (t' := s1.toks) fun b o e => Heap.get?_push_of_some _ e, turn_tuple a _, ⟨_, Heap.get?_push_size _ rfl, rfl, rfl⟩, fun b hb => ?_, q⟩
    have e : b = s1.heap.objs.size := by simpa using hb
    subst e
    exact I1.fpOk (Nat.le_refl _) (I1.hok.fresh (Nat.le_refl _))
def vItems (fl : XT D) : XT (List D) := fun δ => (fl δ).bind fun p => (Rs.of (itemsOf p.1)).bind fun xs => .ok (xs, p.2)
theorem di_seq (h : DE X W l fl) : DI X W tg l (vItems fl) := by
  obtain ⟨t, p, q⟩ := h
  refine ⟨_, pi_seq p, fun G O δ σ H R sr an => ?_⟩
  refine q G O δ σ H _ sr (an.seq fun x δ1 v H1 O1 _ sr1 g1 d1 a1 => ?_)
  obtain ⟨xs, ex, a1⟩ := AnsG.ofO a1
  have d1' : Dp X.K (fz H1 O1) v x := d1
  cases x with
  | list ys =>
    cases ex
    cases d1' with
    | lst hs ha => exact .inl ⟨_, rfl, ⟨_, SqL.same (fz_same H1 O1) hs⟩, a1 _ H1 O1 sr1 (Same.refl _) (okI_list hs ha)⟩
  | tuple ys =>
    cases ex
    cases d1' with
    | tup hs ha => exact .inr ⟨_, rfl, ⟨_, SqT.same (fz_same H1 O1) hs⟩, a1 _ H1 O1 sr1 (Same.refl _) (okI_tup hs ha)⟩
  | _ => cases ex
variable {a b : Expr} {p pos : Pos} {fa fb : XT D} {fe : XT (List D)}
def rng1 : List D → Option (List D)
  | [.int j] => if -(2 ^ 62) ≤ j ∧ j < 2 ^ 62 then some (rangeD 0 j.toNat) else none
  | _ => none
def rng2 : List D → Option (List D)
  | [.int i, .int j] => if -(2 ^ 62) ≤ i ∧ i < 2 ^ 62 ∧ -(2 ^ 62) ≤ j ∧ j < 2 ^ 62 then some (rangeD i (j - i).toNat) else none
  | _ => none
def vIt (g : List D → Option (List D)) (fe : XT (List D)) : XT (List D) := fun δ => (fe δ).bind fun p => (Rs.of (g p.1)).bind fun xs => .ok (xs, p.2)
theorem di_range1 (ha : DA X W [a] fe) (hg : Gl X "range") (hm : X.mg "range" = none) (hs : starEach [a] X.env = [(false, eval a X.env)] := by rfl) : DI X W tg (.Call (.Name "range" p) [a] [] pos) (vIt rng1 fe) := by
  obtain ⟨t, pt, q⟩ := ha
  refine ⟨_, pi_range1 hg hm pt hs, fun G O δ σ H R sr an => ?_⟩
  refine q G O δ σ H _ sr (an.seq fun ds δ1 vs H1 O1 _ sr1 g1 d1 a1 => ?_)
  obtain ⟨xs, ex, a1⟩ := AnsG.ofO a1
  have d1' : DpAll X.K (fz H1 O1) vs ds := d1
  match ds, ex, d1' with
  | [.int j], ex, .cons (.int _) .nil =>
    obtain ⟨⟨c1, c2⟩, rfl⟩ := ite_some ex
    exact ⟨_, rfl, c1, c2, a1 _ H1 O1 sr1 (Same.refl _) okI_range⟩
theorem di_range2 (ha : DA X W [a, b] fe) (hg : Gl X "range") (hm : X.mg "range" = none) (hs : starEach [a, b] X.env = [(false, eval a X.env), (false, eval b X.env)] := by rfl) (hs2 : starEach [b] X.env = [(false, eval b X.env)] := by rfl) :
    DI X W tg (.Call (.Name "range" p) [a, b] [] pos) (vIt rng2 fe) := by
  obtain ⟨t, pt, q⟩ := ha
  refine ⟨_, pi_range2 hg hm pt hs hs2, fun G O δ σ H R sr an => ?_⟩
  refine q G O δ σ H _ sr (an.seq fun ds δ1 vs H1 O1 _ sr1 g1 d1 a1 => ?_)
  obtain ⟨xs, ex, a1⟩ := AnsG.ofO a1
  have d1' : DpAll X.K (fz H1 O1) vs ds := d1
  match ds, ex, d1' with
  | [.int i, .int j], ex, .cons (.int _) (.cons (.int _) .nil) =>
    obtain ⟨c, rfl⟩ := ite_some ex
    exact ⟨_, _, rfl, c, a1 _ H1 O1 sr1 (Same.refl _) okI_range⟩
end

/-! ### for, while -/
def forL (is : List Nat) (sel : D → Option (List D)) (body : SX) : List D → List Sl → Rs (Fl × List Sl)
  | [], δ => .ok (.nx, δ)
  | d :: ds, δ => (Rs.of ((sel d).bind fun xs => putD is xs δ)).bind fun δ1 => (body δ1).bind fun p => match p with
    | (.nx, δ2) => forL is sel body ds δ2
    | (.ct, δ2) => forL is sel body ds δ2
    | (.bk, δ2) => .ok (.nx, δ2)
    | q => .ok q
def sFor (is : List Nat) (sel : D → Option (List D)) (fi : XT (List D)) (body : SX) : SX := fun δ => (fi δ).bind fun p => forL is sel body p.1 p.2
section
variable {X : Cx} {W : WX} {tg iter : Expr} {is : List Nat} {sel : D → Option (List D)} {fi : XT (List D)} {body : List Stmt} {fb : SX} {pos : Pos}
theorem ds_for (hp : PassesOwn (model X.prog X.w) X.A X.env X.xe) (hc : X.calm = true) (hi : DI X W tg iter fi) (hg : DG X tg is sel) (hb : DSs X W body fb) (hs : ∀ x, foldedSetIterable iter X.env x = pure x := by intro _; rfl) :
    DS X W (.For tg iter body [] pos) (sFor is sel fi fb) := by
  obtain ⟨wi, pi, qi⟩ := hi
  obtain ⟨tg', pg, qg⟩ := hg
  obtain ⟨tb, pb, qb⟩ := hb
  refine ⟨_, ps_for hp hc pi pg pb hs, fun G O δ σ H Dn sr an => ?_⟩
  refine qi G O δ σ H _ sr (an.ofE (fun _ _ _ h => h) fun ds δ1 J H1 O1 _ sr1 g1 dJ a1 => ?_)
  dsimp only at a1
  refine ⟨fun i m σ' H' => m = ds.length - i ∧ i ≤ ds.length ∧ ∃ O' δ', SR (fr X G) O' δ' σ' H' ∧ Gr H1 O1 H' O' ∧ AnsS X W G O' H' (forL is sel fb (ds.drop i) δ') Dn, ⟨ds.length, rfl, Nat.zero_le _, O1, δ1, sr1, Same.refl _, a1⟩, ?_⟩
  rintro i m σ' H' ⟨rfl, hle, O', δ', sr', g', a'⟩
  obtain ⟨go, stop⟩ := dJ H' O' g' sr'.alive i
  by_cases hlt : i < ds.length
  · have ed : ds[i]? = some ds[i] := List.getElem?_eq_getElem hlt
    obtain ⟨go1, go2⟩ := go _ ed
    rw [List.drop_eq_getElem_cons hlt] at a'
    unfold forL at a'
    obtain ⟨δ2, e2, a2⟩ := AnsS.ofO a'
    cases es : sel ds[i] with
    | none => rw [es] at e2; cases e2
    | some xs =>
      rw [es] at e2
      have e2 : putD is xs δ' = some δ2 := e2
      refine .inr ⟨go1, fun σ2 H2 => i + 1 ≤ ds.length ∧ ∃ O2 δ2, SR (fr X G) O2 δ2 σ2 H2 ∧ Gr H1 O1 H2 O2 ∧ AnsS X W G O2 H2 (forL is sel fb (ds.drop (i + 1)) δ2) Dn, fun σ2 H2 ⟨h1, O2, δ2, h2⟩ => ⟨ds.length - (i + 1), by omega, rfl, h1, O2, δ2, h2⟩, fun x H3 hy => ?_⟩
      obtain ⟨s3, d3⟩ := go2 x H3 hy
      refine qg σ' H3 O' x _ xs _ es d3 fun vs dvs => ?_
      have sr3 := (sr'.grow s3).putD dvs e2
      refine qb G O' δ2 _ H3 _ sr3 ?_
      have gr3 : Gr H1 O1 H3 O' := g'.trans (fz_grow s3)
      have a3 := a2.shift (fz_grow s3)
      rcases eb : fb δ2 with ⟨⟨fl, δ4⟩⟩ | ⟨n, fl⟩ | _
      · rw [eb] at a3
        cases fl with
        | nx => exact fun σ4 H4 O4 sr4 g4 => ⟨hlt, O4, δ4, sr4, gr3.trans g4, a3.shift g4⟩
        | ct => exact fun σ4 H4 O4 sr4 g4 => ⟨hlt, O4, δ4, sr4, gr3.trans g4, a3.shift g4⟩
        | bk => exact a3
        | rt r => exact a3
        | ro r => exact a3
      · rw [eb] at a3; exact a3
      · rw [eb] at a3; exact a3
  · have e : i = ds.length := by omega
    subst e
    refine .inl ⟨stop (Nat.le_refl _), ?_⟩
    rw [List.drop_length] at a'
    exact a' σ' H' O' sr' (Same.refl _)
def whL (c : XT Bool) (body : SX) : Nat → SX
  | 0, _ => .no
  | n + 1, δ => (c δ).bind fun p => if p.1 then (body p.2).bind fun q => match q with
    | (.nx, δ2) => whL c body n δ2
    | (.ct, δ2) => whL c body n δ2
    | (.bk, δ2) => .ok (.nx, δ2)
    | r => .ok r
    else .ok (.nx, p.2)
theorem ds_while {c : Expr} {fc : XT Bool} (n : Nat) (hp : PassesOwn (model X.prog X.w) X.A X.env X.xe) (hc : DT X W c fc) (hb : DSs X W body fb) : DS X W (.While c body [] pos) (whL fc fb n) := by
  obtain ⟨tc, pc, qc⟩ := hc
  obtain ⟨tb, pb, qb⟩ := hb
  refine ⟨_, ps_while hp pc pb, fun G O δ σ H Dn sr an => ?_⟩
  refine ⟨fun m σ' H' => ∃ O' δ', SR (fr X G) O' δ' σ' H' ∧ AnsS X W G O' H' (whL fc fb m δ') Dn, ⟨n, O, δ, sr, an⟩, ?_⟩
  rintro m σ' H' ⟨O', δ', sr', a'⟩
  cases m with
  | zero => exact a'.elim
  | succ m =>
    unfold whL at a'
    refine qc G O' δ' σ' H' _ sr' (a'.ofE (fun _ _ _ h => h) fun x δ1 v H1 O1 _ sr1 g1 d1 a1 => ?_)
    obtain rfl : v = x := d1
    dsimp only at a1
    cases v with
    | false => exact a1 σ' H1 O1 sr1 (Same.refl _)
    | true =>
      rw [if_pos rfl] at a1 ⊢
      refine ⟨fun σ2 H2 => ∃ O2 δ2, SR (fr X G) O2 δ2 σ2 H2 ∧ AnsS X W G O2 H2 (whL fc fb m δ2) Dn, fun σ2 H2 h => ⟨m, Nat.lt_succ_self m, h⟩, ?_⟩
      refine qb G O1 δ1 σ' H1 _ sr1 ?_
      rcases eb : fb δ1 with ⟨⟨fl, δ4⟩⟩ | ⟨k, fl⟩ | _
      · rw [eb] at a1
        cases fl with
        | nx => exact fun σ4 H4 O4 sr4 g4 => ⟨O4, δ4, sr4, a1.shift g4⟩
        | ct => exact fun σ4 H4 O4 sr4 g4 => ⟨O4, δ4, sr4, a1.shift g4⟩
        | bk => exact a1
        | rt r => exact a1
        | ro r => exact a1
      · rw [eb] at a1; exact a1
      · rw [eb] at a1; exact a1
end
end Ev
set_option maxHeartbeats 200000
/-! E9: list comprehensions by data. Own work. -/
namespace Ev
open PySem PySem.Spec L2
open PyProof.Rows (envOfC)

def wipeD (δ : List Sl) : List Nat → List Sl
  | [] => δ
  | v :: vs => (wipeD δ vs).set v .un
theorem wipeD_len (δ : List Sl) : ∀ vs : List Nat, (wipeD δ vs).length = δ.length
  | [] => rfl
  | v :: vs => by unfold wipeD; rw [List.length_set, wipeD_len δ vs]
theorem wipeD_in {δ : List Sl} {j : Nat} {s : Sl} : ∀ {vs : List Nat}, j ∈ vs → (wipeD δ vs)[j]? = some s → s = .un
  | v :: vs, m, e => by
    unfold wipeD at e
    by_cases h : v = j
    · subst h
      by_cases hv : v < (wipeD δ vs).length
      · rw [List.getElem?_set_self hv] at e; exact (Option.some.inj e).symm
      · rw [List.getElem?_eq_none (by rw [List.length_set]; omega)] at e; cases e
    · rw [List.getElem?_set_ne h] at e
      rcases List.mem_cons.mp m with z | z
      · exact absurd z.symm h
      · exact wipeD_in z e
theorem wipe_at {σ : St} {j : Nat} : ∀ {vs : List Nat}, j ∉ vs → slAt (wipe σ vs) j = slAt σ j
  | [], _ => rfl
  | v :: vs, m => by
    have h : v ≠ j := fun z => m (by rw [z]; exact List.mem_cons_self)
    show slAt ((wipe σ vs).set v none) j = slAt σ j
    have ih := wipe_at (σ := σ) (vs := vs) fun z => m (List.mem_cons_of_mem _ z)
    unfold slAt at ih ⊢
    rw [List.getElem?_set_ne h]
    exact ih
section
variable {F : Fr0} {O O' : List Addr} {δ : List Sl} {σ σ' : St} {H H' : Hp}
theorem SR.wipes (sr : SR F O δ σ H) : ∀ vs : List Nat, SR F O (wipeD δ vs) (wipe σ vs) H
  | [] => sr
  | _ :: vs => (SR.wipes sr vs).setUn
theorem SR.congr (sr : SR F O δ σ H) (hl : σ.length = σ'.length) (h : ∀ j s, δ[j]? = some s → s ≠ .un → slAt σ' j = slAt σ j) : SR F O δ σ' H where
  len := by rw [sr.len, hl]
  sl := fun j s e => by
    by_cases hs : s = .un
    · subst hs; trivial
    · rw [h j s e hs]; exact sr.sl j s e
  sep := fun i j s t a e1 e2 m1 m2 q1 q2 => by
    have n1 : s ≠ .un := fun z => by subst z; exact m1
    have n2 : t ≠ .un := fun z => by subst z; exact m2
    rw [h i s e1 n1] at q1
    rw [h j t e2 n2] at q2
    exact sr.sep i j s t a e1 e2 m1 m2 q1 q2
  old := sr.old
  bas := sr.bas
  wa := sr.wa
  alive := sr.alive
  pin := fun p m => by
    obtain ⟨a, b, c⟩ := sr.pin p m
    refine ⟨a, b, fun j s e mt q => ?_⟩
    have n1 : s ≠ .un := fun z => by subst z; exact mt
    rw [h j s e n1] at q
    exact c j s e mt q
theorem SR.unwipe {vs : List Nat} (sr : SR F O (wipeD δ vs) σ H) (hw : wipe σ vs = wipe σ' vs) : SR F O (wipeD δ vs) σ' H := by
  refine sr.congr ?_ fun j s e n => ?_
  · have := congrArg List.length hw
    rw [wipe_length, wipe_length] at this
    exact this
  · by_cases m : j ∈ vs
    · exact absurd (wipeD_in m e) n
    · rw [← wipe_at (σ := σ') m, ← wipe_at (σ := σ) m, hw]
theorem Free.of_unwipe {vs : List Nat} {a : Addr} (f : Free (wipeD δ vs) σ a) (hw : wipe σ vs = wipe σ' vs) : Free (wipeD δ vs) σ' a := fun j s e m q => by
  by_cases h : j ∈ vs
  · have := wipeD_in h e; subst this; exact m
  · rw [← wipe_at (σ := σ') h, ← hw, wipe_at h] at q
    exact f j s e m q
theorem fz_perm {H : Hp} (h : ∀ b, b ∈ O ↔ b ∈ O') : fz H O = fz H O' := by
  funext b
  by_cases hb : b ∈ O
  · rw [fz_in hb, fz_in ((h b).mp hb)]
  · rw [fz_out hb, fz_out fun z => hb ((h b).mpr z)]
theorem SR.perm (sr : SR F O δ σ H) (h : ∀ b, b ∈ O ↔ b ∈ O') : SR F O' δ σ H where
  len := sr.len
  sl := fun j s e => (sr.sl j s e).less (fun b m => (h b).mpr m) fun a m q => (h a).mp (sr.memO e m q)
  sep := sr.sep
  old := sr.old
  bas := fun a m => (h a).mp (sr.bas a m)
  wa := sr.wa
  alive := fun a m => sr.alive a ((h a).mpr m)
  pin := fun p m => let ⟨a, b, c⟩ := sr.pin p m; ⟨(h _).mp a, b, c⟩
/-- an owned list that no slot holds is written -/
theorem SR.write {a : Addr} {o : HO} (sr : SR F O δ σ H) (m : a ∈ O) (f : Free δ σ a) (z : F.H0 a = none) (np : ∀ p ∈ F.Pn, p.1 ≠ a) : SR F O δ σ (upd H a o) where
  len := sr.len
  sl := fun j s e => by
    have k := sr.sl j s e
    have g : Same (fz H O) (fz (upd H a o) O) := by rw [fz_upd m]; exact Same.refl _
    cases s with
    | un => trivial
    | d x => obtain ⟨v, r1, r2⟩ := k; exact ⟨v, r1, r2.same g⟩
    | own xs => obtain ⟨c, vs, r1, r2, y1, y2, r3, r4⟩ := k; exact ⟨c, vs, r1, r2, y1, y2, by rw [upd_ne fun q => f j _ e trivial (by rw [← q]; exact r1)]; exact r3, r4.same g⟩
    | io xs => obtain ⟨c, vs, r1, r2, r3, r4⟩ := k; exact ⟨c, vs, r1, r2, by rw [upd_ne fun q => f j _ e trivial (by rw [← q]; exact r1)]; exact r3, r4.same g⟩
    | fn n => exact k
  sep := sr.sep
  old := fun b u e n => by rw [upd_ne fun q => by rw [q, z] at e; cases e]; exact sr.old b u e n
  bas := sr.bas
  wa := sr.wa
  alive := fun b mb q => by
    by_cases hb : b = a
    · subst hb; rw [upd_same] at q; cases q
    · rw [upd_ne hb] at q; exact sr.alive b mb q
  pin := fun p mp => by
    obtain ⟨x1, x2, x3⟩ := sr.pin p mp
    exact ⟨x1, by rw [upd_ne (np p mp)]; exact x2, x3⟩
end

/-! ### one uniform reading -/
theorem PE.weak {X : Cx} {e : Expr} {t t' : TE} (h : PE X e t) (k : ∀ σ H Q, t' σ H Q → t σ H Q) : PE X e t' := ⟨fun pins s σ H Q I q => h.run pins s σ H Q I (k σ H Q q)⟩
theorem PTs.weak {X : Cx} {e : List Expr} {t t' : TT} (h : PTs X e t) (k : ∀ σ H Q, t' σ H Q → t σ H Q) : PTs X e t' := ⟨fun pins s σ H Q I q => h.run pins s σ H Q I (k σ H Q q)⟩
theorem PG.weak {X : Cx} {e : Expr} {t t' : TG} (h : PG X e t) (k : ∀ v σ H Q, t' v σ H Q → t v σ H Q) : PG X e t' := ⟨fun pins s σ H v u Q I r q => h.run pins s σ H v u Q I r (k v σ H Q q)⟩
abbrev W0 : WX := fun _ _ _ _ => False
abbrev BlkX (X : Cx) (scope : Scope) (b : Shared × Hp × Addr × List (Str × Addr) × List Addr) : Cx := X.blk b.1 b.2.1 scope (compEnvC scope b.2.2.2.1 b.2.2.1 X.env) b.2.2.2.2
/-- a clause's tests -/
def DTs (X : Cx) (W : WX) (es : List Expr) (f : XT Bool) : Prop :=
  ∃ t, PTs X es t ∧ ∀ G O δ σ H Q, SR (fr X G) O δ σ H → AnsG X W G O σ H OkE (f δ) Q → t σ H Q
theorem dts_nil {X : Cx} {W : WX} : DTs X W [] (fun δ => .ok (true, δ)) := ⟨_, pts_nil, fun G O δ σ H Q sr an => an true H O sr (Same.refl _) rfl⟩
theorem dts_one {X : Cx} {W : WX} {c : Expr} {f : XT Bool} (h : DT X W c f) : DTs X W [c] f := by
  obtain ⟨t, p, q⟩ := h
  exact ⟨t, pts_one p, q⟩
section
variable {X : Cx} {scope : Scope}
theorem uniE {e : Expr} {f : XT D} (h : ∀ b, DE (BlkX X scope b) W0 e f) : ∃ t, (∀ b, PE (BlkX X scope b) e t) ∧ ∀ G O δ σ H Q, SR (fr X G) O δ σ H → AnsG X W0 G O σ H (OkV X.K) (f δ) Q → t σ H Q := by
  refine ⟨fun σ H Q => ∀ b, (h b).choose σ H Q, fun b => PE.weak (h b).choose_spec.1 fun σ H Q k => k b, fun G O δ σ H Q sr an b => (h b).choose_spec.2 G O δ σ H Q sr an⟩
theorem uniT {e : List Expr} {f : XT Bool} (h : ∀ b, DTs (BlkX X scope b) W0 e f) : ∃ t, (∀ b, PTs (BlkX X scope b) e t) ∧ ∀ G O δ σ H Q, SR (fr X G) O δ σ H → AnsG X W0 G O σ H OkE (f δ) Q → t σ H Q := by
  refine ⟨fun σ H Q => ∀ b, (h b).choose σ H Q, fun b => PTs.weak (h b).choose_spec.1 fun σ H Q k => k b, fun G O δ σ H Q sr an b => (h b).choose_spec.2 G O δ σ H Q sr an⟩
theorem uniG {tg : Expr} {is : List Nat} {sel : D → Option (List D)} (h : ∀ b, DG (BlkX X scope b) tg is sel) : ∃ t, (∀ b, PG (BlkX X scope b) tg t) ∧
    ∀ (σ : St) (H : Hp) (O : List Addr) (v : V) (d : D) (ds : List D) (Q : St → Hp → Prop), sel d = some ds → Dp X.K (fz H O) v d → (∀ vs, DpAll X.K (fz H O) vs ds → Q (setV σ is vs) H) → t v σ H Q := by
  refine ⟨fun v σ H Q => ∀ b, (h b).choose v σ H Q, fun b => PG.weak (h b).choose_spec.1 fun v σ H Q k => k b, fun σ H O v d ds Q e dv k b => (h b).choose_spec.2 σ H O v d ds Q e dv k⟩
end

/-! ### the comprehension -/
def nox {α β : Type} (r : Rs α) (k : α → Rs β) : Rs β := match r with
  | .ok a => k a
  | _ => .no
def lcL (own is : List Nat) (sel : D → Option (List D)) (ft : XT Bool) (fe : XT D) : List D → XT (List D)
  | [], δ => .ok ([], δ)
  | d :: ds, δ => (Rs.of ((sel d).bind fun xs => putD is xs δ)).bind fun δ1 => nox (ft δ1) fun q =>
    if q.1 then nox (fe q.2) fun r => (lcL own is sel ft fe ds (wipeD r.2 own)).bind fun z => .ok (r.1 :: z.1, z.2)
    else lcL own is sel ft fe ds (wipeD q.2 own)
def vLc (own is : List Nat) (sel : D → Option (List D)) (fi : XT (List D)) (ft : XT Bool) (fe : XT D) : XT (List D) := fun δ => (fi δ).bind fun p => (lcL own is sel ft fe p.1 (wipeD p.2 own)).bind fun r =>
  if r.1.length ≤ sizeLine then .ok r else .no
theorem setV_len : ∀ (is : List Nat) (vs : List V) (σ : St), (setV σ is vs).length = σ.length
  | [], _, _ => by unfold setV; rfl
  | _ :: _, [], _ => by unfold setV; rfl
  | i :: is, v :: vs, σ => by show (setV (σ.set i (some v)) is vs).length = _; rw [setV_len is vs, List.length_set]
theorem setV_at {j : Nat} : ∀ (is : List Nat) (vs : List V) (σ : St), j ∉ is → (setV σ is vs)[j]? = σ[j]?
  | [], _, _, _ => by unfold setV; rfl
  | _ :: _, [], _, _ => by unfold setV; rfl
  | i :: is, v :: vs, σ, m => by
    show (setV (σ.set i (some v)) is vs)[j]? = _
    rw [setV_at is vs _ fun z => m (List.mem_cons_of_mem _ z), List.getElem?_set_ne fun z => m (by rw [z]; exact List.mem_cons_self)]
theorem wipe_get {σ : St} {j : Nat} : ∀ {vs : List Nat}, j ∈ vs → j < σ.length → (wipe σ vs)[j]? = some none
  | v :: vs, m, h => by
    show ((wipe σ vs).set v none)[j]? = _
    by_cases hv : v = j
    · subst hv
      rw [List.getElem?_set_self (by rw [wipe_length]; exact h)]
    · rw [List.getElem?_set_ne hv]
      rcases List.mem_cons.mp m with z | z
      · exact absurd z.symm hv
      · exact wipe_get z h
theorem wipe_out {σ : St} {j : Nat} : ∀ {vs : List Nat}, j ∉ vs → (wipe σ vs)[j]? = σ[j]?
  | [], _ => rfl
  | v :: vs, m => by
    show ((wipe σ vs).set v none)[j]? = _
    rw [List.getElem?_set_ne fun z => m (by rw [z]; exact List.mem_cons_self)]
    exact wipe_out fun z => m (List.mem_cons_of_mem _ z)
theorem wipe_setV {own is : List Nat} {vs : List V} {σ : St} (h : ∀ i ∈ is, i ∈ own) : wipe (setV (wipe σ own) is vs) own = wipe σ own := by
  apply List.ext_getElem?
  intro j
  by_cases hj : j ∈ own
  · by_cases hl : j < σ.length
    · rw [wipe_get hj (by rw [setV_len, wipe_length]; exact hl), wipe_get hj hl]
    · rw [List.getElem?_eq_none (by rw [wipe_length, setV_len, wipe_length]; omega), List.getElem?_eq_none (by rw [wipe_length]; omega)]
  · rw [wipe_out hj, setV_at is vs _ fun z => hj (h j z)]

section
variable {X : Cx} {W : WX} {elt tg iter : Expr} {ifs : List Expr} {scope : Scope} {own : List (Str × Nat)} {pos : Pos} {is : List Nat} {sel : D → Option (List D)} {fi : XT (List D)} {ft : XT Bool} {fe : XT D}
/-- the reading of a comprehension -/
theorem lc_ans {wi : TI} {g : TG} {tt : TT} {te : TE} {ow : List Nat} (hin : ∀ i ∈ is, i ∈ ow)
    (qi : ∀ G O δ σ H R, SR (fr X G) O δ σ H → AnsG X W G O σ H (OkI X.K) (fi δ) R → wi σ H R)
    (qg : ∀ (σ : St) (H : Hp) (O : List Addr) (v : V) (d : D) (ds : List D) (Q : St → Hp → Prop), sel d = some ds → Dp X.K (fz H O) v d → (∀ vs, DpAll X.K (fz H O) vs ds → Q (setV σ is vs) H) → g v σ H Q)
    (qt : ∀ G O δ σ H Q, SR (fr X G) O δ σ H → AnsG X W0 G O σ H OkE (ft δ) Q → tt σ H Q)
    (qe : ∀ G O δ σ H Q, SR (fr X G) O δ σ H → AnsG X W0 G O σ H (OkV X.K) (fe δ) Q → te σ H Q)
    (G : G0) (O : List Addr) (δ : List Sl) (σ : St) (H : Hp) (Q : VK) (sr : SR (fr X G) O δ σ H) (an : AnsF X W G O σ H (vLc ow is sel fi ft fe δ) Q) : tLc wi g tt te ow σ H Q := by
  refine qi G O δ σ H _ sr (AnsF.seq an fun ds δ1 J H1 O1 _ sr1 g1 dJ a1 => ?_)
  dsimp only at a1
  intro Da hD
  obtain ⟨z1, z2, z3⟩ := fresh0 sr1 hD
  have z4 : ∀ p ∈ G.Pn, p.1 ≠ Da := fun p mp z => z3 (z ▸ (sr1.pin p mp).1)
  have nD : ∀ b o, H1 b = some o → b ≠ Da := fun b o e z => by rw [z, hD] at e; cases e
  -- what is wanted of what is still to come, behind the items acc
  let P : List D → Rs (List D × List Sl) → Prop := fun acc r => match r with
    | .ok p => (acc ++ p.1).length ≤ sizeLine ∧ ∀ vs H' O', SR (fr X G) O' p.2 σ H' → Da ∈ O' → Free p.2 σ Da → Same (fz H1 O1) (fz H' O') → H' Da = some (.lst vs) → DpAll X.K (fz H' O') vs (acc ++ p.1) → Q (.ref Da) H'
    | _ => False
  have P0 : P [] (lcL ow is sel ft fe ds (wipeD δ1 ow)) := by
    cases er : lcL ow is sel ft fe ds (wipeD δ1 ow) with
    | no => rw [er] at a1; exact a1
    | exc n f =>
      -- no exception comes of a comprehension
      have noexc : ∀ (ds : List D) (δ : List Sl) n f, lcL ow is sel ft fe ds δ ≠ .exc n f := by
        intro ds
        induction ds with
        | nil => intro δ n f h; cases h
        | cons d ds ih =>
          intro δ n f h
          unfold lcL at h
          cases e1 : ((sel d).bind fun xs => putD is xs δ) with
          | none => rw [e1] at h; cases h
          | some δ2 =>
            rw [e1] at h
            simp only [Rs.of, Rs.bind] at h
            cases e2 : ft δ2 with
            | no => rw [e2] at h; cases h
            | exc _ _ => rw [e2] at h; cases h
            | ok q =>
              rw [e2] at h
              simp only [nox] at h
              cases hb : q.1 with
              | false => rw [hb] at h; rw [if_neg Bool.false_ne_true] at h; exact ih _ _ _ h
              | true =>
                rw [hb, if_pos rfl] at h
                cases e3 : fe q.2 with
                | no => rw [e3] at h; cases h
                | exc _ _ => rw [e3] at h; cases h
                | ok r =>
                  rw [e3] at h
                  simp only at h
                  cases e4 : lcL ow is sel ft fe ds (wipeD r.2 ow) with
                  | no => rw [e4] at h; cases h
                  | ok z => rw [e4] at h; cases h
                  | exc m l => exact ih _ _ _ e4
      exact absurd er (noexc _ _ _ _)
    | ok p =>
      rw [er] at a1
      have a1 : AnsF X W G O1 σ H1 (if p.1.length ≤ sizeLine then Rs.ok p else Rs.no) Q := a1
      by_cases hl : p.1.length ≤ sizeLine
      · rw [if_pos hl] at a1
        refine ⟨by rw [List.nil_append]; exact hl, fun vs H' O' sr' mD fD s' hv dv => ?_⟩
        have pm : ∀ b, b ∈ O' ↔ b ∈ Da :: O'.filter (fun b => decide (b ≠ Da)) := fun b => by
          by_cases hb : b = Da
          · subst hb; exact ⟨fun _ => List.mem_cons_self, fun _ => mD⟩
          · exact ⟨fun h => List.mem_cons_of_mem _ (List.mem_filter.mpr ⟨h, decide_eq_true hb⟩), fun h => (List.mem_cons.mp h).elim (fun z => absurd z hb) fun z => (List.mem_filter.mp z).1⟩
        have ez : fz H' (Da :: O'.filter (fun b => decide (b ≠ Da))) = fz H' O' := (fz_perm pm).symm
        refine a1 Da vs H' _ (sr'.perm pm) fD ?_ z1 z2 (fun z => ?_) z4 hv (by rw [ez]; exact dv)
        · show Same (fz H1 O1) (fz H' (Da :: _))
          rw [ez]; exact s'
        · have := (List.mem_filter.mp z).2; simp at this
      · rw [if_neg hl] at a1; exact a1.elim
  refine ⟨fun i m H' => m = ds.length - i ∧ i ≤ ds.length ∧ ∃ O' δ' acc vs, SR (fr X G) O' (wipeD δ' ow) (wipe σ ow) H' ∧ Da ∈ O' ∧ Free (wipeD δ' ow) (wipe σ ow) Da ∧ Same (fz H1 O1) (fz H' O') ∧ H' Da = some (.lst vs) ∧ DpAll X.K (fz H' O') vs acc ∧ P acc (lcL ow is sel ft fe (ds.drop i) (wipeD δ' ow)),
    ⟨ds.length, rfl, Nat.zero_le _, Da :: O1, δ1, [], [], ((sr1.more hD).wipes ow), List.mem_cons_self, ?_, gr_more hD, upd_same, .nil, P0⟩, ?_⟩
  · intro j s e m q
    by_cases h : j ∈ ow
    · have := wipeD_in h e; subst this; exact m
    · rw [wipe_at h] at q
      have : δ1[j]? = some s := by
        clear q
        have : ∀ vs : List Nat, j ∉ vs → (wipeD δ1 vs)[j]? = δ1[j]? := by
          intro vs
          induction vs with
          | nil => intro _; rfl
          | cons v vs ih =>
            intro m'
            show ((wipeD δ1 vs).set v .un)[j]? = _
            rw [List.getElem?_set_ne fun z => m' (by rw [z]; exact List.mem_cons_self)]
            exact ih fun z => m' (List.mem_cons_of_mem _ z)
        rw [← this ow h]; exact e
      exact sr1.free z3 j s this m q
  rintro i m H' ⟨rfl, hle, O', δ', acc, vs, sr', mD, fD, s', hv, dv, hP⟩
  obtain ⟨go, stop⟩ := dJ H' O' s' sr'.alive i
  by_cases hlt : i < ds.length
  · have ed : ds[i]? = some ds[i] := List.getElem?_eq_getElem hlt
    obtain ⟨go1, go2⟩ := go _ ed
    rw [List.drop_eq_getElem_cons hlt] at hP
    unfold lcL at hP
    cases es : sel ds[i] with
    | none => rw [es] at hP; exact hP.elim
    | some xs =>
      rw [es] at hP
      simp only [Option.bind_some] at hP
      cases e2 : putD is xs (wipeD δ' ow) with
      | none => rw [e2] at hP; exact hP.elim
      | some δ2 =>
        rw [e2] at hP
        simp only [Rs.of, Rs.bind] at hP
        refine .inr ⟨go1, fun H2 => i + 1 ≤ ds.length ∧ ∃ O' δ' acc vs, SR (fr X G) O' (wipeD δ' ow) (wipe σ ow) H2 ∧ Da ∈ O' ∧ Free (wipeD δ' ow) (wipe σ ow) Da ∧ Same (fz H1 O1) (fz H2 O') ∧ H2 Da = some (.lst vs) ∧ DpAll X.K (fz H2 O') vs acc ∧ P acc (lcL ow is sel ft fe (ds.drop (i + 1)) (wipeD δ' ow)),
          fun H2 ⟨h1, h2⟩ => ⟨ds.length - (i + 1), by omega, rfl, h1, h2⟩, fun x H3 hy => ?_⟩
        obtain ⟨s3, d3⟩ := go2 x H3 hy
        refine qg _ H3 O' x _ xs _ es d3 fun ws dws => ?_
        have hw : wipe (setV (wipe σ ow) is ws) ow = wipe σ ow := wipe_setV hin
        refine ⟨hw, ?_⟩
        have sr3 := (sr'.grow s3).putD dws e2
        -- the new list pinned
        have hv3 : H3 Da = some (.lst vs) := s3 _ _ hv
        have fD3 : Free δ2 (setV (wipe σ ow) is ws) Da := by
          -- a slot that is changed is a datum
          have : ∀ (is : List Nat) (xs : List D) (ws : List V) (δ δ2 : List Sl) (σ : St), putD is xs δ = some δ2 → xs.length = ws.length → Free δ σ Da → Free δ2 (setV σ is ws) Da := by
            intro is
            induction is with
            | nil => intro xs ws δ δ2 σ e hl f; cases xs with
              | nil => cases ws with
                | nil => cases e; exact f
                | cons _ _ => cases hl
              | cons _ _ => cases e
            | cons i is ih =>
              intro xs ws δ δ2 σ e hl f
              cases xs with
              | nil => cases e
              | cons d xs =>
                cases ws with
                | nil => cases hl
                | cons w ws =>
                  unfold putD at e
                  by_cases c : i < δ.length ∧ isIo δ[i]? = false
                  · rw [if_pos c] at e
                    refine ih xs ws _ δ2 (σ.set i (some w)) e (by simpa using hl) fun j s ej m q => ?_
                    by_cases hj : i = j
                    · subst hj; rw [List.getElem?_set_self c.1] at ej; cases ej; exact m
                    · rw [List.getElem?_set_ne hj] at ej
                      unfold slAt at q; rw [List.getElem?_set_ne hj] at q
                      exact f j s ej m q
                  · rw [if_neg c] at e; cases e
          exact this is xs ws _ δ2 _ e2 dws.length.symm fD
        have srP : SR (fr X { G with Pn := (Da, .lst vs) :: G.Pn }) O' δ2 (setV (wipe σ ow) is ws) H3 := ⟨sr3.len, sr3.sl, sr3.sep, sr3.old, sr3.bas, sr3.wa, sr3.alive, fun p mp => by
          rcases List.mem_cons.mp mp with z | z
          · subst z; exact ⟨mD, hv3, fD3⟩
          · exact sr3.pin p z⟩
        have unp : ∀ {O4 : List Addr} {δ4 : List Sl} {σ4 : St} {H4 : Hp}, SR (fr X { G with Pn := (Da, .lst vs) :: G.Pn }) O4 δ4 σ4 H4 → SR (fr X G) O4 δ4 σ4 H4 ∧ Da ∈ O4 ∧ H4 Da = some (.lst vs) ∧ Free δ4 σ4 Da := fun {O4 δ4 σ4 H4} s4 =>
          ⟨⟨s4.len, s4.sl, s4.sep, s4.old, s4.bas, s4.wa, s4.alive, fun p mp => s4.pin p (List.mem_cons_of_mem _ mp)⟩, s4.pin (Da, .lst vs) List.mem_cons_self⟩
        have gr3 : Same (fz H1 O1) (fz H3 O') := s'.trans (fz_grow s3)
        have dv3 : DpAll X.K (fz H3 O') vs acc := dv.same (fz_grow s3)
        have freeW : ∀ {δ4 : List Sl}, Free δ4 (setV (wipe σ ow) is ws) Da → Free (wipeD δ4 ow) (setV (wipe σ ow) is ws) Da := fun {δ4} f j s e m q => by
          by_cases h : j ∈ ow
          · have := wipeD_in h e; subst this; exact m
          · have : ∀ vs : List Nat, j ∉ vs → (wipeD δ4 vs)[j]? = δ4[j]? := by
              intro vs
              induction vs with
              | nil => intro _; rfl
              | cons v vs ih =>
                intro m'
                show ((wipeD δ4 vs).set v .un)[j]? = _
                rw [List.getElem?_set_ne fun z => m' (by rw [z]; exact List.mem_cons_self)]
                exact ih fun z => m' (List.mem_cons_of_mem _ z)
            rw [this ow h] at e
            exact f j s e m q
        have back : ∀ {O4 : List Addr} {δ4 : List Sl} {H4 : Hp}, SR (fr X G) O4 δ4 (setV (wipe σ ow) is ws) H4 → Free δ4 (setV (wipe σ ow) is ws) Da → SR (fr X G) O4 (wipeD δ4 ow) (wipe σ ow) H4 ∧ Free (wipeD δ4 ow) (wipe σ ow) Da := fun {O4 δ4 H4} s4 f4 => by
          have w1 := s4.wipes ow
          rw [hw] at w1
          refine ⟨w1, fun j s e m q => ?_⟩
          by_cases h : j ∈ ow
          · have := wipeD_in h e; subst this; exact m
          · rw [← hw, wipe_at h] at q
            exact freeW f4 j s e m q
        refine qt { G with Pn := (Da, .lst vs) :: G.Pn } O' δ2 _ H3 _ srP ?_
        cases et : ft δ2 with
        | no => rw [et] at hP; exact hP.elim
        | exc n f => rw [et] at hP; exact hP.elim
        | ok q =>
          rw [et] at hP
          simp only [nox] at hP
          intro b H4 O4 sr4 g4 ok4
          obtain rfl : b = q.1 := ok4
          obtain ⟨sr4', mD4, hv4, fD4⟩ := unp sr4
          cases hb : q.1 with
          | false =>
            rw [hb, if_neg Bool.false_ne_true] at hP
            rw [if_neg Bool.false_ne_true]
            obtain ⟨b1, b2⟩ := back sr4' fD4
            exact ⟨hlt, O4, q.2, acc, vs, b1, mD4, b2, gr3.trans g4, hv4, dv3.same g4, hP⟩
          | true =>
            rw [hb, if_pos rfl] at hP
            rw [if_pos rfl]
            refine qe { G with Pn := (Da, .lst vs) :: G.Pn } O4 q.2 _ H4 _ sr4 ?_
            cases ee : fe q.2 with
            | no => rw [ee] at hP; exact hP.elim
            | exc n f => rw [ee] at hP; exact hP.elim
            | ok r =>
              rw [ee] at hP
              simp only at hP
              intro y H5 O5 sr5 g5 dy
              obtain ⟨sr5', mD5, hv5, fD5⟩ := unp sr5
              have dv5 : DpAll X.K (fz H5 O5) vs acc := (dv3.same g4).same g5
              have dy' : Dp X.K (fz H5 O5) y r.1 := dy
              cases el : lcL ow is sel ft fe (ds.drop (i + 1)) (wipeD r.2 ow) with
              | no => rw [el] at hP; exact hP.elim
              | exc n f => rw [el] at hP; exact hP.elim
              | ok z =>
                rw [el] at hP
                obtain ⟨hlen, fin⟩ := hP
                have hl5 : vs.length = acc.length := dv5.length
                refine ⟨vs, hv5, by rw [hl5]; rw [List.length_append, List.length_cons] at hlen; omega, hlt, O5, r.2, acc ++ [r.1], vs ++ [y], ?_⟩
                obtain ⟨b1, b2⟩ := back (sr5'.write (o := .lst (vs ++ [y])) mD5 fD5 z1 z4) fD5
                refine ⟨b1, mD5, b2, ?_, upd_same, ?_, ?_⟩
                · rw [fz_upd mD5]; exact (gr3.trans g4).trans g5
                · rw [fz_upd mD5]; exact dv5.snoc dy'
                · rw [el]
                  refine ⟨by rw [List.append_assoc]; exact hlen, fun vs' H6 O6 a1 a2 a3 a4 a5 a6 => fin vs' H6 O6 a1 a2 a3 a4 a5 (by rw [List.append_assoc] at a6; exact a6)⟩
  · have e : i = ds.length := by omega
    subst e
    refine .inl ⟨stop (Nat.le_refl _), ?_⟩
    rw [List.drop_length] at hP
    obtain ⟨hlen, fin⟩ := hP
    have hw : wipe (wipe σ ow) ow = wipe σ ow := by
      have := wipe_setV (own := ow) (is := []) (vs := []) (σ := σ) (fun _ h => by cases h)
      unfold setV at this
      exact this
    exact fin vs H' O' (sr'.unwipe hw) mD (fD.of_unwipe hw) s' hv (by rw [List.append_nil]; exact dv)
theorem df_lc (hc : X.calm = true) (hN : X.N.Nodup) (hi : DI X W tg iter fi) (ok : BlkOk X.N X.env.scope scope own) (hin : ∀ i ∈ is, i ∈ own.map (·.2))
    (hg : ∀ b, DG (BlkX X scope b) tg is sel) (ht : ∀ b, DTs (BlkX X scope b) W0 ifs ft) (he : ∀ b, DE (BlkX X scope b) W0 elt fe) (hs : ∀ x, foldedSetIterable iter X.env x = pure x := by intro _; rfl) :
    DF X W (.ListComp elt [⟨tg, iter, ifs, 0⟩] scope pos) (vLc (own.map (·.2)) is sel fi ft fe) := by
  obtain ⟨wi, pi, qi⟩ := hi
  obtain ⟨g, pg, qg⟩ := uniG hg
  obtain ⟨tt, pt, qt⟩ := uniT ht
  obtain ⟨te, pe, qe⟩ := uniE he
  exact ⟨_, pe_lc hc hN pi ok (fun s H C cl fp => pg (s, H, C, cl, fp)) (fun s H C cl fp => pt (s, H, C, cl, fp)) (fun s H C cl fp => pe (s, H, C, cl, fp)) hs, lc_ans hin qi qg qt qe⟩
/-- name = [..] on one line -/
theorem ds_setLc (i : Nat) {y : Str} {py spos : Pos} (hc : X.calm = true) (hN : X.N.Nodup) (hyl : X.env.scope.names.lookup y = some .local) (hi : DI X W tg iter fi) (ok : BlkOk X.N X.env.scope scope own) (hin : ∀ i ∈ is, i ∈ own.map (·.2))
    (hg : ∀ b, DG (BlkX X scope b) tg is sel) (ht : ∀ b, DTs (BlkX X scope b) W0 ifs ft) (he : ∀ b, DE (BlkX X scope b) W0 elt fe)
    (hsw : swapsWith (.ListComp elt [⟨tg, iter, ifs, 0⟩] scope pos) (some (.Name y py)) spos.line X.env = pure true) (hy : X.N[i]? = some y := by rfl) (hs : ∀ x, foldedSetIterable iter X.env x = pure x := by intro _; rfl) :
    DS X W (.Assign [.Name y py] (.ListComp elt [⟨tg, iter, ifs, 0⟩] scope pos) spos) (sSet i (vList (vLc (own.map (·.2)) is sel fi ft fe))) := by
  obtain ⟨wi, pi, qi⟩ := hi
  obtain ⟨g, pg, qg⟩ := uniG hg
  obtain ⟨tt, pt, qt⟩ := uniT ht
  obtain ⟨te, pe, qe⟩ := uniE he
  refine ⟨_, ps_setLc hc hN hy hyl hsw pi ok (fun s H C cl fp => pg (s, H, C, cl, fp)) (fun s H C cl fp => pt (s, H, C, cl, fp)) (fun s H C cl fp => pe (s, H, C, cl, fp)) hs, fun G O δ σ H Dn sr an => ?_⟩
  refine lc_ans hin qi qg qt qe G O δ σ H _ sr (AnsF.ofG (AnsS.ofE (fun _ _ _ h => h) an fun x δ1 v H1 O1 _ sr1 g1 d1 a1 => ans_put sr1 d1 a1))
theorem ds_ownLc (i : Nat) {y : Str} {py spos : Pos} (hc : X.calm = true) (hN : X.N.Nodup) (hyl : X.env.scope.names.lookup y = some .local) (hi : DI X W tg iter fi) (ok : BlkOk X.N X.env.scope scope own) (hin : ∀ i ∈ is, i ∈ own.map (·.2))
    (hg : ∀ b, DG (BlkX X scope b) tg is sel) (ht : ∀ b, DTs (BlkX X scope b) W0 ifs ft) (he : ∀ b, DE (BlkX X scope b) W0 elt fe)
    (hsw : swapsWith (.ListComp elt [⟨tg, iter, ifs, 0⟩] scope pos) (some (.Name y py)) spos.line X.env = pure true) (hy : X.N[i]? = some y := by rfl) (hs : ∀ x, foldedSetIterable iter X.env x = pure x := by intro _; rfl) :
    DS X W (.Assign [.Name y py] (.ListComp elt [⟨tg, iter, ifs, 0⟩] scope pos) spos) (sOwn i (vLc (own.map (·.2)) is sel fi ft fe)) := by
  obtain ⟨wi, pi, qi⟩ := hi
  obtain ⟨g, pg, qg⟩ := uniG hg
  obtain ⟨tt, pt, qt⟩ := uniT ht
  obtain ⟨te, pe, qe⟩ := uniE he
  refine ⟨_, ps_setLc hc hN hy hyl hsw pi ok (fun s H C cl fp => pg (s, H, C, cl, fp)) (fun s H C cl fp => pt (s, H, C, cl, fp)) (fun s H C cl fp => pe (s, H, C, cl, fp)) hs, fun G O δ σ H Dn sr an => ?_⟩
  refine lc_ans hin qi qg qt qe G O δ σ H _ sr ?_
  unfold sOwn at an
  cases er : vLc (own.map (·.2)) is sel fi ft fe δ with
  | ok p => rw [er] at an; exact fun a vs H' O' sr fa g z1 z2 z3 z4 h d => ans_putOwn sr fa g z1 z2 z4 h d an
  | exc n f => rw [er] at an; exact fun cls dx H' k xo => an cls dx σ H' k xo
  | no => rw [er] at an; exact an
end
end Ev
set_option maxHeartbeats 200000
set_option maxHeartbeats 2000000
/-! Z1: zip of two sequences, each a list or a tuple. Own work over the library's rules. -/
namespace Zs
open PySem PySem.Spec L2

/-- an iterator over a list (true) or a tuple (false) -/
def It (b : Bool) (h : Heap) (it l : Addr) (i : Nat) : Prop := match b with
  | true => h.IsListIter it l i
  | false => h.IsTupleIter it l i
def Sq (b : Bool) (h : Heap) (l : Addr) (xs : Array Value) : Prop := match b with
  | true => h.IsList l xs
  | false => h.IsTuple l xs
theorem It.obj {b : Bool} {h : Heap} {it l : Addr} {i : Nat} (x : It b h it l i) : ∃ o, h.get? it = some o ∧ ∀ v, o.data ≠ .cell v := by
  cases b with
  | true => obtain ⟨o, e, _, d⟩ := x; exact ⟨o, e, fun v q => by rw [d] at q; cases q⟩
  | false => obtain ⟨o, e, _, d⟩ := x; exact ⟨o, e, fun v q => by rw [d] at q; cases q⟩
theorem It.keep {b : Bool} {h h' : Heap} {it l : Addr} {i : Nat} (x : It b h it l i) (k : ∀ o, h.get? it = some o → h'.get? it = some o) : It b h' it l i := by
  cases b with
  | true => exact (show h.IsListIter it l i from x).at k
  | false => exact (show h.IsTupleIter it l i from x).at k
theorem Sq.keep {b : Bool} {h h' : Heap} {l : Addr} {xs : Array Value} (x : Sq b h l xs) (k : ∀ o, h.get? l = some o → h'.get? l = some o) : Sq b h' l xs := by
  cases b with
  | true => obtain ⟨o, e, c, n, d⟩ := x; exact ⟨o, k o e, c, n, d⟩
  | false => obtain ⟨o, e, c, n, d⟩ := x; exact ⟨o, k o e, c, n, d⟩
theorem Sq.lt {b : Bool} {h : Heap} {l : Addr} {xs : Array Value} (x : Sq b h l xs) : l < h.objs.size := by
  cases b with
  | true => obtain ⟨o, e, _⟩ := x; exact Heap.lt_size e
  | false => obtain ⟨o, e, _⟩ := x; exact Heap.lt_size e
section
variable {prog : Program} {w : World} {A : Around} {E : Value → Shared → Prop} {s : Shared}
theorem next_item {b : Bool} {it l : Addr} {i : Nat} {xs : Array Value} {x : Value} {Q : Value → Shared → Prop} (hit : It b s.heap it l i) (hl : Sq b s.heap l xs) (hx : xs[i]? = some x)
    (hQ : ∀ h', It b h' it l (i + 1) → (∀ c o, c ≠ it → s.heap.get? c = some o → h'.get? c = some o) → h'.objs.size = s.heap.objs.size → Q x { s with heap := h' }) : wpAny (model prog w) A (Builtin.SmallTypes.nextOf (.ref it)) Q E s := by
  cases b with
  | true => exact wpAny_nextOf_list_item hit hl hx fun h' st sb => hQ h' st (fun c o n e => (sb.2 c n).trans e) sb.1
  | false => exact RZ.nextOf_tuple_item hit hl hx fun h' st sb => hQ h' st (fun c o n e => (sb.2 c n).trans e) sb.1
theorem next_end {b : Bool} {it l : Addr} {i : Nat} {xs : Array Value} {Q : Value → Shared → Prop} (hh : A.handled = none) (hit : It b s.heap it l i) (hl : Sq b s.heap l xs) (hx : xs[i]? = none)
    (hE : ∀ h' e, (∀ c o, c ≠ it → s.heap.get? c = some o → h'.get? c = some o) → (∃ o, h'.get? e = some o ∧ o.cls = .type "StopIteration") → E (.ref e) { s with heap := h' }) : wpAny (model prog w) A (Builtin.SmallTypes.nextOf (.ref it)) Q E s := by
  cases b with
  | true => exact wpAny_nextOf_list_end hh hit hl hx fun h' e k o => hE h' e (fun c ob n q => k c ob n q) o
  | false => exact RZ.nextOf_tuple_end hh hit hl hx fun h' e k o => hE h' e (fun c ob n q => k c ob n q) o
end

/-- where the zip's own things lie: all sources below n, the rest from n on, apart -/
structure Ap (n z TI TO i1 i2 l1 l2 : Addr) : Prop where
  hl1 : l1 < n
  hl2 : l2 < n
  hz : n ≤ z
  hti : n ≤ TI
  hto : n ≤ TO
  hi1 : n ≤ i1
  hi2 : n ≤ i2
  nd : [z, TI, TO, i1, i2].Nodup
section
variable {prog : Program} {w : World} {A : Around} {E : Value → Shared → Prop} {s : Shared} {n z TI TO i1 i2 l1 l2 : Addr}
theorem Ap.far (D : Ap n z TI TO i1 i2 l1 l2) : TI ≠ z ∧ TO ≠ z ∧ i1 ≠ z ∧ i2 ≠ z ∧ TO ≠ TI ∧ i1 ≠ TI ∧ i2 ≠ TI ∧ i1 ≠ TO ∧ i2 ≠ TO ∧ i2 ≠ i1 := by
  have h := D.nd
  simp only [List.nodup_cons, List.mem_cons, List.not_mem_nil, or_false, not_or] at h
  obtain ⟨⟨a1, a2, a3, a4⟩, ⟨b1, b2, b3⟩, ⟨c1, c2⟩, d, _⟩ := h
  exact ⟨Ne.symm a1, Ne.symm a2, Ne.symm a3, Ne.symm a4, Ne.symm b1, Ne.symm b2, Ne.symm b3, Ne.symm c1, Ne.symm c2, Ne.symm d⟩
theorem Ap.low (D : Ap n z TI TO i1 i2 l1 l2) {l : Addr} (h : l < n) : l ≠ z ∧ l ≠ TI ∧ l ≠ TO ∧ l ≠ i1 ∧ l ≠ i2 :=
  ⟨Nat.ne_of_lt (Nat.lt_of_lt_of_le h D.hz), Nat.ne_of_lt (Nat.lt_of_lt_of_le h D.hti), Nat.ne_of_lt (Nat.lt_of_lt_of_le h D.hto), Nat.ne_of_lt (Nat.lt_of_lt_of_le h D.hi1), Nat.ne_of_lt (Nat.lt_of_lt_of_le h D.hi2)⟩
abbrev Kp (h h' : Heap) (a : Addr) : Prop := ∀ c o, c ≠ a → h.get? c = some o → h'.get? c = some o
theorem kp_same {h h' : Heap} {a : Addr} (k : Heap.SameBut a h h') : Kp h h' a := fun c o n e => (k.2 c n).trans e
variable {b1 b2 : Bool} {k1 k2 : Nat} {xs ys : Array Value} {x y u v : Value}
theorem zip_item {Q : Value → Shared → Prop} (D : Ap n z TI TO i1 i2 l1 l2) (hz : IsZip s.heap z TI TO .none) (hTI : IsPair s.heap TI (.ref i1) (.ref i2)) (hTO : IsPair s.heap TO u v)
    (h1 : It b1 s.heap i1 l1 k1) (h2 : It b2 s.heap i2 l2 k2) (q1 : Sq b1 s.heap l1 xs) (q2 : Sq b2 s.heap l2 ys) (hx : xs[k1]? = some x) (hy : ys[k2]? = some y)
    (hQ : ∀ h', IsZip h' z TI TO (rawInt s.heap.objs.size) → IsPair h' TO x y → It b1 h' i1 l1 (k1 + 1) → It b2 h' i2 l2 (k2 + 1) → IsPair h' s.heap.objs.size x y →
      (∀ c o, c ≠ z → c ≠ TO → c ≠ i1 → c ≠ i2 → s.heap.get? c = some o → h'.get? c = some o) → Q (.ref s.heap.objs.size) { s with heap := h' }) :
    wpAny (model prog w) A (Builtin.«zip.__next__» ⟨[.ref z], []⟩) (fun fin s' => ∃ r, fin = .done (.ret r) ∧ Q r s') E s := by
  obtain ⟨f1, f2, f3, f4, f5, f6, f7, f8, f9, f10⟩ := D.far
  obtain ⟨g1, g2, g3, g4, g5⟩ := D.low D.hl1
  obtain ⟨e1, e2, e3, e4, e5⟩ := D.low D.hl2
  -- the fields, the owned tuple is free
  show wpAny _ _ (field (.ref z) 2 >>= _) _ _ _
  refine wpAny_bind (wpAny_field hz rfl (x := .bool false) rfl ?_)
  show wpAny _ _ (field (.ref z) 3 >>= _) _ _ _
  refine wpAny_bind (wpAny_field hz rfl (x := .ref TI) rfl (wpAny_bind (wpAny_seqItems hTI rfl ?_)))
  show wpAny _ _ (Builtin.SmallTypes.ownedTupleIsFree (.ref z) >>= _) _ _ _
  unfold Builtin.SmallTypes.ownedTupleIsFree
  refine wpAny_bind (wpAny_bind (wpAny_field hz rfl (x := .none) rfl (wpAny_pure ?_)))
  simp only [if_true]
  refine wpAny_bind (wpAny_rule (wpAny_bind (wpAny_field hz rfl (x := .ref TO) rfl (wpAny_bind (wpAny_setField_rec hz (by simp) fun h₁ hz₁ sb₁ => ?_)))))
  have z₁ : IsZip h₁ z TI TO .ellipsis := hz₁
  have m₁ := kp_same sb₁
  simp only [List.zipIdx_cons, List.zipIdx_nil, List.forIn_cons, List.forIn_nil]
  -- the first source
  refine wpAny_bind (wpAny_bind (wpAny_bind (wpAny_onRaise ?_)))
  show wpAny _ _ (Builtin.SmallTypes.nextOf (.ref i1) >>= _) _ _ _
  refine wpAny_bind (next_item (h1.keep fun o => m₁ _ o f3) (q1.keep fun o => m₁ _ o g1) hx fun h₂ j₂ m₂ sz₂ => wpAny_pure ?_)
  refine wpAny_bind (wpAny_seqItems (m₂ _ _ f8.symm (m₁ _ _ f2 hTO)) rfl (wpAny_bind (wpAny_updateSeq_pair (m₂ _ _ f8.symm (m₁ _ _ f2 hTO)) fun h₃ t₃ sb₃ => ?_)))
  have m₃ := kp_same sb₃
  have t₃ : IsPair h₃ TO x v := t₃
  refine wpAny_bind (wpAny_letGo (wpAny_pure ?_))
  -- the second one
  refine wpAny_bind (wpAny_bind (wpAny_onRaise ?_))
  show wpAny _ _ (Builtin.SmallTypes.nextOf (.ref i2) >>= _) _ _ _
  refine wpAny_bind (next_item (h2.keep fun o q => m₃ _ o f9 (m₂ _ o f10 (m₁ _ o f4 q))) (q2.keep fun o q => m₃ _ o e3 (m₂ _ o e4 (m₁ _ o e1 q))) hy fun h₄ j₄ m₄ sz₄ => wpAny_pure ?_)
  refine wpAny_bind (wpAny_seqItems (m₄ _ _ f9.symm t₃) rfl (wpAny_bind (wpAny_updateSeq_pair (m₄ _ _ f9.symm t₃) fun h₅ t₅ sb₅ => ?_)))
  have m₅ := kp_same sb₅
  have t₅ : IsPair h₅ TO x y := t₅
  refine wpAny_bind (wpAny_letGo (wpAny_pure (wpAny_pure ?_)))
  -- a new tuple is handed out
  refine wpAny_bind (wpAny_seqItems t₅ rfl (wpAny_bind (wpAny_newTuple ?_)))
  have hsz : h₅.objs.size = s.heap.objs.size := by rw [sb₅.1, sz₄, sb₃.1, sz₂, sb₁.1]
  have z₅ : IsZip h₅ z TI TO .ellipsis := m₅ _ _ f2.symm (m₄ _ _ f4.symm (m₃ _ _ f2.symm (m₂ _ _ f3.symm z₁)))
  have all : ∀ c o, c ≠ z → c ≠ TO → c ≠ i1 → c ≠ i2 → s.heap.get? c = some o → h₅.get? c = some o := fun c o n1 n2 n3 n4 q => m₅ _ _ n2 (m₄ _ _ n4 (m₃ _ _ n2 (m₂ _ _ n3 (m₁ _ _ n1 q))))
  have j1 : It b1 h₅ i1 l1 (k1 + 1) := j₂.keep fun o q => m₅ _ o f8 (m₄ _ o f10.symm (m₃ _ o f8 q))
  have j2 : It b2 h₅ i2 l2 (k2 + 1) := j₄.keep fun o q => m₅ _ o f9 q
  have zlt : z < h₅.objs.size := Heap.lt_size z₅
  show wpAny _ _ (Builtin.SmallTypes.ownedTupleHandOut (.ref z) (.ref h₅.objs.size) >>= _) _ _ _
  unfold Builtin.SmallTypes.ownedTupleHandOut
  refine wpAny_bind ?_
  refine wpAny_bind (wpAny_setField_rec (show IsZip (h₅.push { cls := .type "tuple", data := .seq #[x, y] }) z TI TO .ellipsis from Heap.get?_push_of_some _ z₅) (by simp) fun h₇ z₇ sb₇ => ?_)
  refine wpAny_setField_rec (show IsZip h₇ z TI TO (rawInt h₅.objs.size) from z₇) (by simp) fun h₈ z₈ sb₈ => ?_
  have up : ∀ c o, c ≠ z → h₅.get? c = some o → h₈.get? c = some o := fun c o n q => kp_same sb₈ _ _ n (kp_same sb₇ _ _ n (Heap.get?_push_of_some _ q))
  have T₈ : IsPair h₈ h₅.objs.size x y := kp_same sb₈ _ _ (Nat.ne_of_gt zlt) (kp_same sb₇ _ _ (Nat.ne_of_gt zlt) (Heap.get?_push_size _ rfl))
  have z₈ : IsZip h₈ z TI TO (rawInt h₅.objs.size) := z₈
  rw [hsz] at z₈ T₈
  refine wpAny_pure ⟨_, rfl, ?_⟩
  show Q (.ref h₅.objs.size) _
  rw [hsz]
  exact hQ h₈ z₈ (up _ _ f2 t₅) (j1.keep fun o q => up _ o f3 q) (j2.keep fun o q => up _ o f4 q) T₈ fun c o n1 n2 n3 n4 q => up c o n1 (all c o n1 n2 n3 n4 q)
theorem zip_end {Q : Fin → Shared → Prop} (hh : A.handled = none) (D : Ap n z TI TO i1 i2 l1 l2) (hz : IsZip s.heap z TI TO .none) (hTI : IsPair s.heap TI (.ref i1) (.ref i2)) (hTO : IsPair s.heap TO u v)
    (h1 : It b1 s.heap i1 l1 k1) (h2 : It b2 s.heap i2 l2 k2) (q1 : Sq b1 s.heap l1 xs) (q2 : Sq b2 s.heap l2 ys) (hend : xs[k1]? = none ∨ ys[k2]? = none)
    (hE : ∀ h' e, (∀ c o, c ≠ z → c ≠ TO → c ≠ i1 → c ≠ i2 → s.heap.get? c = some o → h'.get? c = some o) → (∃ o, h'.get? e = some o ∧ o.cls = .type "StopIteration") → E (.ref e) { s with heap := h' }) :
    wpAny (model prog w) A (Builtin.«zip.__next__» ⟨[.ref z], []⟩) Q E s := by
  obtain ⟨f1, f2, f3, f4, f5, f6, f7, f8, f9, f10⟩ := D.far
  obtain ⟨g1, g2, g3, g4, g5⟩ := D.low D.hl1
  obtain ⟨e1, e2, e3, e4, e5⟩ := D.low D.hl2
  show wpAny _ _ (field (.ref z) 2 >>= _) _ _ _
  refine wpAny_bind (wpAny_field hz rfl (x := .bool false) rfl ?_)
  show wpAny _ _ (field (.ref z) 3 >>= _) _ _ _
  refine wpAny_bind (wpAny_field hz rfl (x := .ref TI) rfl (wpAny_bind (wpAny_seqItems hTI rfl ?_)))
  show wpAny _ _ (Builtin.SmallTypes.ownedTupleIsFree (.ref z) >>= _) _ _ _
  unfold Builtin.SmallTypes.ownedTupleIsFree
  refine wpAny_bind (wpAny_bind (wpAny_field hz rfl (x := .none) rfl (wpAny_pure ?_)))
  simp only [if_true]
  refine wpAny_bind (wpAny_rule (wpAny_bind (wpAny_field hz rfl (x := .ref TO) rfl (wpAny_bind (wpAny_setField_rec hz (by simp) fun h₁ hz₁ sb₁ => ?_)))))
  have z₁ : IsZip h₁ z TI TO .ellipsis := hz₁
  have m₁ := kp_same sb₁
  simp only [List.zipIdx_cons, List.zipIdx_nil, List.forIn_cons, List.forIn_nil]
  refine wpAny_bind (wpAny_bind (wpAny_bind (wpAny_onRaise ?_)))
  show wpAny _ _ (Builtin.SmallTypes.nextOf (.ref i1) >>= _) _ _ _
  -- behind the end the first field is set back
  have fin : ∀ (h : Heap) (e : Addr) (oe : Obj), IsZip h z TI TO .ellipsis → h.get? e = some oe → oe.cls = .type "StopIteration" → (∀ c o, c ≠ z → c ≠ TO → c ≠ i1 → c ≠ i2 → s.heap.get? c = some o → h.get? c = some o) →
      wpAny (model prog w) A (setField (.ref z) 0 .none) (fun _ s' => E (.ref e) s') E { s with heap := h } := fun h e oe zh he hc k => by
    have ne : e ≠ z := fun q => by rw [q, zh] at he; cases he; simp at hc
    refine wpAny_setField_rec zh (by simp) fun h' _ sb => hE h' e (fun c o n1 n2 n3 n4 q => kp_same sb _ _ n1 (k c o n1 n2 n3 n4 q)) ⟨oe, kp_same sb _ _ ne he, hc⟩
  cases hx : xs[k1]? with
  | none =>
    refine wpAny_bind (next_end hh (h1.keep fun o => m₁ _ o f3) (q1.keep fun o => m₁ _ o g1) hx fun h₂ e m₂ ⟨oe, he, hc⟩ => ?_)
    exact fin h₂ e oe (m₂ _ _ f3.symm z₁) he hc fun c o n1 _ n3 _ q => m₂ _ _ n3 (m₁ _ _ n1 q)
  | some x =>
    have hy : ys[k2]? = none := by rcases hend with h | h; rw [hx] at h; cases h; exact h
    refine wpAny_bind (next_item (h1.keep fun o => m₁ _ o f3) (q1.keep fun o => m₁ _ o g1) hx fun h₂ j₂ m₂ sz₂ => wpAny_pure ?_)
    refine wpAny_bind (wpAny_seqItems (m₂ _ _ f8.symm (m₁ _ _ f2 hTO)) rfl (wpAny_bind (wpAny_updateSeq_pair (m₂ _ _ f8.symm (m₁ _ _ f2 hTO)) fun h₃ t₃ sb₃ => ?_)))
    have m₃ := kp_same sb₃
    refine wpAny_bind (wpAny_letGo (wpAny_pure ?_))
    refine wpAny_bind (wpAny_bind (wpAny_onRaise ?_))
    show wpAny _ _ (Builtin.SmallTypes.nextOf (.ref i2) >>= _) _ _ _
    refine wpAny_bind (next_end hh (h2.keep fun o q => m₃ _ o f9 (m₂ _ o f10 (m₁ _ o f4 q))) (q2.keep fun o q => m₃ _ o e3 (m₂ _ o e4 (m₁ _ o e1 q))) hy fun h₄ e m₄ ⟨oe, he, hc⟩ => ?_)
    exact fin h₄ e oe (m₄ _ _ f4.symm (m₃ _ _ f2.symm (m₂ _ _ f3.symm z₁))) he hc fun c o n1 n2 n3 n4 q => m₄ _ _ n4 (m₃ _ _ n2 (m₂ _ _ n3 (m₁ _ _ n1 q)))
end
end Zs
set_option maxHeartbeats 200000
set_option maxHeartbeats 4000000
/-! Z2: zip(..) called and walked, by data; enumerate. Own work. -/
namespace Zs
open PySem PySem.Spec L2
def itC : Bool → String
  | true => "list_iterator"
  | false => "tuple_iterator"
abbrev zH1 (b : Bool) (h : Heap) (l : Addr) : Heap := h.push { cls := .type (itC b), data := .fields #[.ref l, .int 0 0] }
abbrev zH3 (b c : Bool) (h : Heap) (l m : Addr) : Heap := (zH1 c (zH1 b h l) m).push { cls := .type "tuple", data := .seq #[.ref h.objs.size, .ref (zH1 b h l).objs.size] }
abbrev zH4 (b c : Bool) (h : Heap) (l m : Addr) : Heap := (zH3 b c h l m).push { cls := .type "tuple", data := .seq #[.none, .none] }
abbrev zH5 (b c : Bool) (h : Heap) (l m : Addr) : Heap := (zH4 b c h l m).push { cls := .type "zip", data := .fields #[.none, .bool false, .bool false, .ref (zH1 c (zH1 b h l) m).objs.size, .ref (zH3 b c h l m).objs.size] }
theorem Sq.push {b : Bool} {h : Heap} {l : Addr} {xs : Array Value} (x : Sq b h l xs) (o : Obj) : Sq b (h.push o) l xs := x.keep fun _ q => Heap.get?_push_of_some _ q
theorem meets_new (b c : Bool) (l m : Addr) (xs ys : Array Value) :
    Meets (Builtin.«zip.__new__» ⟨[.type "zip", .ref l, .ref m], []⟩) (fun _ R s => Sq b s.heap l xs ∧ Sq c s.heap m ys ∧ R (.ok (.ret (.ref (zH4 b c s.heap l m).objs.size))) { s with heap := zH5 b c s.heap l m }) :=
  .of_wp fun prog w A R s h => by
    obtain ⟨hp, g, d, tk, os⟩ := s
    obtain ⟨hl, hm, h⟩ := h
    have hsub := sub_zip
    cases b <;> cases c
    · have hL1 : Heap.IsTuple (Shared.heap ⟨hp, g, d, tk, os⟩) l xs := hl
      have hL2 : Heap.IsTuple (Shared.heap ⟨hp.push { cls := .type "tuple_iterator", data := .fields #[.ref l, .int 0 0] }, g, d, tk, os⟩) m ys := Sq.push hm _
      wp_walk using wpAny_pyIter_tuple hL1, wpAny_pyIter_tuple hL2
      exact ⟨_, rfl, h⟩
    · have hL1 : Heap.IsTuple (Shared.heap ⟨hp, g, d, tk, os⟩) l xs := hl
      have hL2 : Heap.IsList (Shared.heap ⟨hp.push { cls := .type "tuple_iterator", data := .fields #[.ref l, .int 0 0] }, g, d, tk, os⟩) m ys := Sq.push hm _
      wp_walk using wpAny_pyIter_tuple hL1, wpAny_pyIter_list hL2
      exact ⟨_, rfl, h⟩
    · have hL1 : Heap.IsList (Shared.heap ⟨hp, g, d, tk, os⟩) l xs := hl
      have hL2 : Heap.IsTuple (Shared.heap ⟨hp.push { cls := .type "list_iterator", data := .fields #[.ref l, .int 0 0] }, g, d, tk, os⟩) m ys := Sq.push hm _
      wp_walk using wpAny_pyIter_list hL1, wpAny_pyIter_tuple hL2
      exact ⟨_, rfl, h⟩
    · have hL1 : Heap.IsList (Shared.heap ⟨hp, g, d, tk, os⟩) l xs := hl
      have hL2 : Heap.IsList (Shared.heap ⟨hp.push { cls := .type "list_iterator", data := .fields #[.ref l, .int 0 0] }, g, d, tk, os⟩) m ys := Sq.push hm _
      wp_walk using wpAny_pyIter_list hL1, wpAny_pyIter_list hL2
      exact ⟨_, rfl, h⟩
theorem ap_of {n s1 s2 s3 s4 l m : Nat} (a : l < n) (b : m < n) (h1 : s1 = n + 1) (h2 : s2 = s1 + 1) (h3 : s3 = s2 + 1) (h4 : s4 = s3 + 1) : Ap n s4 s2 s3 n s1 l m := by
  subst h4 h3 h2 h1
  have nd : [n + 1 + 1 + 1 + 1, n + 1 + 1, n + 1 + 1 + 1, n, n + 1].Nodup := by
    simp only [List.nodup_cons, List.mem_cons, List.not_mem_nil, or_false, not_or, List.nodup_nil, not_false_eq_true, and_true]
    omega
  exact ⟨a, b, Nat.le_of_lt (by omega), Nat.le_of_lt (by omega), Nat.le_of_lt (by omega), Nat.le_refl n, Nat.le_succ n, nd⟩
theorem it_new (b : Bool) (h : Heap) (l : Addr) : It b (zH1 b h l) h.objs.size l 0 := by
  cases b with
  | true => exact ⟨_, Heap.get?_push_size _ rfl, rfl, rfl⟩
  | false => exact ⟨_, Heap.get?_push_size _ rfl, rfl, rfl⟩
section
variable {prog : Program} {w : World} {A : Around} {E : Value → Shared → Prop} {s : Shared}
theorem call_zip {b c : Bool} {l m : Addr} {xs ys : Array Value} {Q : Value → Shared → Prop} (hl : Sq b s.heap l xs) (hm : Sq c s.heap m ys)
    (h : ∀ h' z TI TO i1 i2, Ap s.heap.objs.size z TI TO i1 i2 l m → IsZip h' z TI TO .none → IsPair h' TI (.ref i1) (.ref i2) → IsPair h' TO .none .none → It b h' i1 l 0 → It c h' i2 m 0 →
      (∀ c o, s.heap.get? c = some o → h'.get? c = some o) → Q (.ref z) { s with heap := h' }) :
    wpAny (model prog w) A (call (.type "zip") [.ref l, .ref m]) Q E s := by
  refine callType_new F.called_zip (by decide) (F.typeCall_zip_2 _ _) (F.newCall_zip_2 _ _) (fun obj => F.args_object_init_3 obj _ _) F.entry_zip_new (meets_new b c l m xs ys) ⟨hl, hm, ?_⟩
  have n1 : (zH1 b s.heap l).objs.size = s.heap.objs.size + 1 := Heap.size_push ..
  have n2 : (zH1 c (zH1 b s.heap l) m).objs.size = (zH1 b s.heap l).objs.size + 1 := Heap.size_push ..
  have n3 : (zH3 b c s.heap l m).objs.size = (zH1 c (zH1 b s.heap l) m).objs.size + 1 := Heap.size_push ..
  have n4 : (zH4 b c s.heap l m).objs.size = (zH3 b c s.heap l m).objs.size + 1 := Heap.size_push ..
  have up1 : ∀ a o, (zH1 b s.heap l).get? a = some o → (zH5 b c s.heap l m).get? a = some o := fun a o q => Heap.get?_push_of_some _ (Heap.get?_push_of_some _ (Heap.get?_push_of_some _ (Heap.get?_push_of_some _ q)))
  have up2 : ∀ a o, (zH1 c (zH1 b s.heap l) m).get? a = some o → (zH5 b c s.heap l m).get? a = some o := fun a o q => Heap.get?_push_of_some _ (Heap.get?_push_of_some _ (Heap.get?_push_of_some _ q))
  have gz : IsZip (zH5 b c s.heap l m) (zH4 b c s.heap l m).objs.size (zH1 c (zH1 b s.heap l) m).objs.size (zH3 b c s.heap l m).objs.size .none := Heap.get?_push_size _ rfl
  have gTO : IsPair (zH5 b c s.heap l m) (zH3 b c s.heap l m).objs.size .none .none := Heap.get?_push_of_some _ (Heap.get?_push_size _ rfl)
  have gTI : IsPair (zH5 b c s.heap l m) (zH1 c (zH1 b s.heap l) m).objs.size (.ref s.heap.objs.size) (.ref (zH1 b s.heap l).objs.size) := Heap.get?_push_of_some _ (Heap.get?_push_of_some _ (Heap.get?_push_size _ rfl))
  have z1 : l < s.heap.objs.size := hl.lt
  have z2 : m < s.heap.objs.size := hm.lt
  exact ⟨⟨_, gz, rfl⟩, h _ _ _ _ _ _ (ap_of z1 z2 n1 n2 n3 n4) gz gTI gTO ((it_new b s.heap l).keep fun o q => up1 _ o q) ((it_new c (zH1 b s.heap l) m).keep fun o q => up2 _ o q) fun a o q => up1 _ _ (Heap.get?_push_of_some _ q)⟩
theorem next_some {n z TI TO i1 i2 l1 l2 : Addr} {b1 b2 : Bool} {k1 k2 : Nat} {xs ys : Array Value} {x y u v : Value} {Q : Option Value → Shared → Prop} (D : Ap n z TI TO i1 i2 l1 l2) (hz : IsZip s.heap z TI TO .none) (hTI : IsPair s.heap TI (.ref i1) (.ref i2)) (hTO : IsPair s.heap TO u v)
    (h1 : It b1 s.heap i1 l1 k1) (h2 : It b2 s.heap i2 l2 k2) (q1 : Sq b1 s.heap l1 xs) (q2 : Sq b2 s.heap l2 ys) (hx : xs[k1]? = some x) (hy : ys[k2]? = some y)
    (hQ : ∀ h', IsZip h' z TI TO (rawInt s.heap.objs.size) → IsPair h' TO x y → It b1 h' i1 l1 (k1 + 1) → It b2 h' i2 l2 (k2 + 1) → IsPair h' s.heap.objs.size x y →
      (∀ c o, c ≠ z → c ≠ TO → c ≠ i1 → c ≠ i2 → s.heap.get? c = some o → h'.get? c = some o) → Q (some (.ref s.heap.objs.size)) { s with heap := h' }) : wpAny (model prog w) A (pyNext (.ref z)) Q E s := by
  have hT : s.TypeIs (.ref z) "zip" := ⟨_, hz, rfl⟩
  unfold pyNext
  exact wpAny_bind (wpAny_attempt (wpAny_callSpecial?_slot (name := Str.ofString "__next__") hT F.slot_zip_next
    (wpAny_call_entry F.slot_zip_next hT F.entry_zip_next (zip_item D hz hTI hTO h1 h2 q1 q2 hx hy fun h' a1 a2 a3 a4 a5 a6 => wpAny_pure (hQ h' a1 a2 a3 a4 a5 a6)) (F.args_zip_next_1 _))))
theorem next_none {n z TI TO i1 i2 l1 l2 : Addr} {b1 b2 : Bool} {k1 k2 : Nat} {xs ys : Array Value} {u v : Value} {Q : Option Value → Shared → Prop} (hh : A.handled = none) (D : Ap n z TI TO i1 i2 l1 l2) (hz : IsZip s.heap z TI TO .none) (hTI : IsPair s.heap TI (.ref i1) (.ref i2)) (hTO : IsPair s.heap TO u v)
    (h1 : It b1 s.heap i1 l1 k1) (h2 : It b2 s.heap i2 l2 k2) (q1 : Sq b1 s.heap l1 xs) (q2 : Sq b2 s.heap l2 ys) (hend : xs[k1]? = none ∨ ys[k2]? = none)
    (hQ : ∀ h', (∀ c o, c ≠ z → c ≠ TO → c ≠ i1 → c ≠ i2 → s.heap.get? c = some o → h'.get? c = some o) → Q none { s with heap := h' }) : wpAny (model prog w) A (pyNext (.ref z)) Q E s := by
  have hT : s.TypeIs (.ref z) "zip" := ⟨_, hz, rfl⟩
  unfold pyNext
  refine wpAny_bind (wpAny_attempt (wpAny_callSpecial?_slot (name := Str.ofString "__next__") hT F.slot_zip_next
    (wpAny_call_entry F.slot_zip_next hT F.entry_zip_next (zip_end hh D hz hTI hTO h1 h2 q1 q2 hend fun h' e hk ⟨o, ho, hc⟩ => ?_) (F.args_zip_next_1 _))))
  exact wpAny_bind (wpAny_isInstance (T := "StopIteration") (b := true) ⟨o, ho, hc⟩ isSubtype_stop (wpAny_pure (hQ _ hk)))
end
/-! ### over the layer -/
/-- a list or a tuple -/
def SqV (K : PySem.W.Frag) (b : Bool) (H : Hp) (a : Addr) (xs : List V) : Prop := match b with
  | true => SqL K H a xs
  | false => SqT K H a xs
theorem SqV.at_ {X : Cx} {pins : List (Addr × Obj)} {σ : St} {H : Hp} {s : Shared} {b : Bool} {a : Addr} {xs : List V} (I : Inv X pins σ H s) (h : SqV X.K b H a xs) : ∃ its : List Value, Vals xs its ∧ Sq b s.heap a its.toArray := by
  cases b with
  | true => obtain ⟨its, r, p, _⟩ := I.list h; exact ⟨its, r, p.isList⟩
  | false => obtain ⟨its, r, p, _⟩ := I.tuple h; exact ⟨its, r, p⟩
theorem SqV.inj {X : Cx} {pins : List (Addr × Obj)} {σ : St} {H : Hp} {s : Shared} {b : Bool} {a : Addr} {xs ys : List V} (I : Inv X pins σ H s) (h : SqV X.K b H a xs) (h' : SqV X.K b H a ys) : xs = ys := by
  cases b with
  | true => exact I.list_inj h h'
  | false => exact I.tuple_inj h h'
theorem SqV.same {K : PySem.W.Frag} {H H' : Hp} {b : Bool} {a : Addr} {xs : List V} (s : Same H H') (h : SqV K b H a xs) : SqV K b H' a xs := by
  cases b with
  | true => exact SqL.same s h
  | false => exact SqT.same s h
/-- both as they stand at each turn, the items in new pairs -/
def Itm (K : PySem.W.Frag) (b c : Bool) (l m : Addr) : L2.It :=
  ⟨fun i H => ∃ (xs ys : List V) (x y : V), SqV K b H l xs ∧ SqV K c H m ys ∧ xs[i]? = some x ∧ ys[i]? = some y,
    fun i H v H' => ∃ T x y, v = .ref T ∧ H T = none ∧ H' = upd H T (.tup [x, y]) ∧ (∀ xs, SqV K b H l xs → xs[i]? = some x) ∧ ∀ ys, SqV K c H m ys → ys[i]? = some y,
    fun i H => ∃ xs ys : List V, SqV K b H l xs ∧ SqV K c H m ys ∧ (xs.length ≤ i ∨ ys.length ≤ i)⟩
theorem turn {P : Program} {w : World} {K : PySem.W.Frag} {elts : List Expr} {kk : Nat} {tpos : Pos} {b c : Bool} {n l m z TI TO i1 i2 : Addr} (D : Ap n z TI TO i1 i2 l m) :
    Turn P w K (.Tuple elts kk tpos) (Itm K b c l m) [z, TI, TO, i1, i2] z (fun i h => IsZip h z TI TO .none ∧ IsPair h TI (.ref i1) (.ref i2) ∧ (∃ x y, IsPair h TO x y) ∧ It b h i1 l i ∧ It c h i2 m i) where
  mem := by simp
  obj := fun i h st a ha => by
    obtain ⟨hz, hTI, ⟨x, y, hTO⟩, h1, h2⟩ := st
    have e' : a = z ∨ a = TI ∨ a = TO ∨ a = i1 ∨ a = i2 := by simpa using ha
    rcases e' with q | q | q | q | q
    · rw [q]; exact ⟨_, hz, fun v q => nomatch q⟩
    · rw [q]; exact ⟨_, hTI, fun v q => nomatch q⟩
    · rw [q]; exact ⟨_, hTO, fun v q => nomatch q⟩
    · rw [q]; exact h1.obj
    · rw [q]; exact h2.obj
  keep := fun i h h' st k => by
    obtain ⟨hz, hTI, ⟨x, y, hTO⟩, h1, h2⟩ := st
    exact ⟨k z (by simp) _ hz, k TI (by simp) _ hTI, ⟨x, y, k TO (by simp) _ hTO⟩, h1.keep fun o q => k i1 (by simp) o q, h2.keep fun o q => k i2 (by simp) o q⟩
  item := by
    intro X hP hw hK hc i pins s σ H E I hf st hg
    subst hP hw hK
    obtain ⟨hz, hTI, ⟨x0, y0, hTO⟩, h1, h2⟩ := st
    obtain ⟨xs, ys, x, y, hqx, hqy, hx, hy⟩ := hg
    obtain ⟨its, rv, p⟩ := hqx.at_ I
    obtain ⟨its2, rv2, p2⟩ := hqy.at_ I
    obtain ⟨u, hu, ru⟩ := rv.get hx
    obtain ⟨u2, hu2, ru2⟩ := rv2.get hy
    obtain ⟨f1, f2, f3, f4, f5, f6, f7, f8, f9, f10⟩ := D.far
    have hzl : z < s.heap.objs.size := Heap.lt_size hz
    refine next_some D hz hTI hTO h1 h2 p p2 (x := u) (y := u2) (by simpa using hu) (by simpa using hu2) fun h' z' TO' h1' h2' hT hk => ?_
    refine ⟨_, rfl, wpAny_letOwnedTupleGo_zip (s := { s with heap := h' }) z' fun h'' z'' sb => ?_⟩
    have hT2 : h''.get? s.heap.objs.size = some { cls := .type "tuple", data := .seq #[u, u2] } := (sb.2 _ (Nat.ne_of_gt hzl)).trans hT
    have new : ObjOk X.prog X.w (upd H s.heap.objs.size (.tup [x, y])) h'' s.heap.objs.size (.tup [x, y]) :=
      ⟨by show 2 ≤ sizeLine; decide, [u, u2], .cons ru (.cons ru2 .nil), ⟨_, hT2, rfl, _, rfl⟩⟩
    have I1 : Inv X pins σ (upd H s.heap.objs.size (.tup [x, y])) { s with heap := h'' } :=
      I.turnedNew (t' := s.toks) (ch := [z, TI, TO, i1, i2]) (fun c o hb q => (sb.2 c (fun q' => hb (by simp [q']))).trans (hk c o (fun q' => hb (by simp [q'])) (fun q' => hb (by simp [q'])) (fun q' => hb (by simp [q'])) (fun q' => hb (by simp [q'])) q)) hf (Nat.le_refl _) new
    refine ⟨.ref s.heap.objs.size, _, I1, rfl, ⟨_, x, y, rfl, I.hok.fresh (Nat.le_refl _), rfl, fun l hl => by rw [hl.inj I hqx]; exact hx, fun l hl => by rw [hl.inj I hqy]; exact hy⟩, ⟨z'', ?_, ⟨u, u2, ?_⟩, ?_, ?_⟩, fun c hcm => ?_⟩
    · exact (sb.2 _ f1).trans (hk _ _ f1 f5.symm f6.symm f7.symm hTI)
    · exact (sb.2 _ f2).trans TO'
    · exact h1'.keep fun o q => (sb.2 _ f3).trans q
    · exact h2'.keep fun o q => (sb.2 _ f4).trans q
    · have hlt : c < s.heap.objs.size := by
        have e' : c = z ∨ c = TI ∨ c = TO ∨ c = i1 ∨ c = i2 := by simpa using hcm
        rcases e' with q | q | q | q | q
        · rw [q]; exact hzl
        · rw [q]; exact Heap.lt_size hTI
        · rw [q]; exact Heap.lt_size hTO
        · rw [q]; obtain ⟨_, e1, _⟩ := h1.obj; exact Heap.lt_size e1
        · rw [q]; obtain ⟨_, e2, _⟩ := h2.obj; exact Heap.lt_size e2
      rw [upd_ne (Nat.ne_of_lt hlt)]
      exact (hf c hcm).1
  done := by
    intro X hP hw hK hc i pins s σ H E I hf st hg
    subst hP hw hK
    obtain ⟨hz, hTI, ⟨x0, y0, hTO⟩, h1, h2⟩ := st
    obtain ⟨xs, ys, hqx, hqy, hend⟩ := hg
    obtain ⟨its, rv, p⟩ := hqx.at_ I
    obtain ⟨its2, rv2, p2⟩ := hqy.at_ I
    have l1 := rv.length
    have l2 := rv2.length
    have he : its.toArray[i]? = none ∨ its2.toArray[i]? = none := by
      rcases hend with q | q
      · exact .inl (by simp; omega)
      · exact .inr (by simp; omega)
    exact next_none (I.ok.hd hc) D hz hTI hTO h1 h2 p p2 he fun h' hk => ⟨rfl, I.turnedL (t' := s.toks) (ch := [z, TI, TO, i1, i2]) (fun c o hb q =>
      hk c o (fun q' => hb (by simp [q'])) (fun q' => hb (by simp [q'])) (fun q' => hb (by simp [q'])) (fun q' => hb (by simp [q'])) q) hf⟩
  self := fun A i s Q E st h => wpAny_pyIter_zip st.1 h
def iZm (K : PySem.W.Frag) (ta : TA) : TI := fun σ H R => ta σ H fun vs H1 => ∃ l m b c xs ys, vs = [.ref l, .ref m] ∧ SqV K b H1 l xs ∧ SqV K c H1 m ys ∧ R (Itm K b c l m) H1
theorem pi_zm {X : Cx} {e e2 : Expr} {ta : TA} {p pos tpos : Pos} {elts : List Expr} {kk : Nat} (hg : Gl X "zip") (hm : X.mg "zip" = none) (ha : PA X [e, e2] ta)
    (hs : starEach [e, e2] X.env = (false, eval e X.env) :: starEach [e2] X.env := by rfl) (hpl : (backTo pos (starEach [e2] X.env)).any (·.1) = false := by rfl) :
    PI X (.Tuple elts kk tpos) (.Call (.Name "zip" p) [e, e2] [] pos) (iZm X.K ta) := by
  refine ⟨fun pins s σ H R I h => ?_⟩
  refine PyProof.Rows.Call_ (ld_blt I hg hm PyProof.Rows.boot_zip (PyProof.Rows.callWith_type1 (thn (ha.run pos pins s σ H _ I h) fun us s1 ⟨vs, H1, I1, r1, q1⟩ => ?_) hs hpl))
  obtain ⟨l, m, b, c, xs, ys, rfl, hqx, hqy, q⟩ := q1
  obtain ⟨u1, u2, rfl, r, r'⟩ := vals2 r1
  cases r
  cases r'
  obtain ⟨its, rv, p1⟩ := hqx.at_ I1
  obtain ⟨its2, rv2, p2⟩ := hqy.at_ I1
  refine call_zip p1 p2 fun h' z TI TO i1 i2 D hz hTI hTO h1 h2 hk => wpAny_pyIter_zip hz ?_
  have I2 : Inv X pins σ H1 { s1 with heap := h' } := I1.kept (t' := s1.toks) hk
  refine ⟨z, [z, TI, TO, i1, i2], _, _, H1, rfl, I2, turn D, ⟨hz, hTI, ⟨_, _, hTO⟩, h1, h2⟩, fun a ha => ?_, q⟩
  have hle : s1.heap.objs.size ≤ a := by
    have e' : a = z ∨ a = TI ∨ a = TO ∨ a = i1 ∨ a = i2 := by simpa using ha
    rcases e' with q | q | q | q | q
    · rw [q]; exact D.hz
    · rw [q]; exact D.hti
    · rw [q]; exact D.hto
    · rw [q]; exact D.hi1
    · rw [q]; exact D.hi2
  exact I1.fpOk hle (I1.hok.fresh hle)
end Zs
namespace Ev
open PySem PySem.Spec L2
def zipD : List D → List D → List D
  | x :: xs, y :: ys => .tuple [x, y] :: zipD xs ys
  | _, _ => []
theorem zipD_get : ∀ {xs ys : List D} {i : Nat} {d : D}, (zipD xs ys)[i]? = some d → ∃ x y, xs[i]? = some x ∧ ys[i]? = some y ∧ d = .tuple [x, y]
  | x :: xs, y :: ys, 0, d, e => ⟨x, y, rfl, rfl, (Option.some.inj e).symm⟩
  | x :: xs, y :: ys, i + 1, d, e => by
    obtain ⟨a, b, h1, h2, h3⟩ := zipD_get (xs := xs) (ys := ys) (i := i) (show (zipD xs ys)[i]? = some d from e)
    exact ⟨a, b, h1, h2, h3⟩
  | [], _, _, _, e => by simp [zipD] at e
  | _ :: _, [], _, _, e => by simp [zipD] at e
theorem zipD_len : ∀ xs ys : List D, (zipD xs ys).length = min xs.length ys.length
  | x :: xs, y :: ys => by simp only [zipD, List.length_cons, zipD_len xs ys]; omega
  | [], _ => by simp [zipD]
  | _ :: _, [] => by simp [zipD]
theorem okI_zip {K : PySem.W.Frag} {M : Hp} {b c : Bool} {l m : Addr} {us vs : List V} {xs ys : List D} (h : Zs.SqV K b M l us) (h' : Zs.SqV K c M m vs) (d : DpAll K M us xs) (d' : DpAll K M vs ys) : OkI K M (Zs.Itm K b c l m) (zipD xs ys) := fun H O s al i => by
  have a1 := Zs.SqV.same (s.trans (fz_same H O)) h
  have a2 := Zs.SqV.same (s.trans (fz_same H O)) h'
  refine ⟨fun z e => ?_, fun e => ⟨us, vs, a1, a2, ?_⟩⟩
  · obtain ⟨x, y, e1, e2, rfl⟩ := zipD_get e
    obtain ⟨u, eu, du⟩ := d.get e1
    obtain ⟨v, ev, dv⟩ := d'.get e2
    refine ⟨⟨us, vs, u, v, a1, a2, eu, ev⟩, fun w H' hy => ?_⟩
    obtain ⟨T, x', y', rfl, hT, rfl, f1, f2⟩ := hy
    have e1 := f1 us a1
    have e2 := f2 vs a2
    rw [eu] at e1; cases e1
    rw [ev] at e2; cases e2
    exact new_tup al (.cons (du.same s) (.cons (dv.same s) .nil)) hT
  · rw [zipD_len] at e
    rw [d.length, d'.length]
    omega
section
variable {X : Cx} {W : WX} {e e2 : Expr} {fe : XT (List D)} {p pos tpos : Pos} {elts : List Expr} {kk : Nat}
def zip2 : List D → Option (List D)
  | [a, b] => (itemsOf a).bind fun xs => (itemsOf b).bind fun ys => some (zipD xs ys)
  | _ => none
theorem seq_of {K : PySem.W.Frag} {M : Hp} {v : V} {d : D} {xs : List D} (h : Dp K M v d) (e : itemsOf d = some xs) : ∃ b a us, v = .ref a ∧ Zs.SqV K b M a us ∧ DpAll K M us xs := by
  cases d with
  | list ys => cases e; cases h with | lst hs ha => exact ⟨true, _, _, rfl, hs, ha⟩
  | tuple ys => cases e; cases h with | tup hs ha => exact ⟨false, _, _, rfl, hs, ha⟩
  | _ => cases e
theorem di_zip (ha : DA X W [e, e2] fe) (hg : Gl X "zip") (hm : X.mg "zip" = none) (hs : starEach [e, e2] X.env = (false, eval e X.env) :: starEach [e2] X.env := by rfl) (hpl : (backTo pos (starEach [e2] X.env)).any (·.1) = false := by rfl) :
    DI X W (.Tuple elts kk tpos) (.Call (.Name "zip" p) [e, e2] [] pos) (vIt zip2 fe) := by
  obtain ⟨t, pt, q⟩ := ha
  refine ⟨_, Zs.pi_zm hg hm pt hs hpl, fun G O δ σ H R sr an => ?_⟩
  refine q G O δ σ H _ sr (an.seq fun ds δ1 vs H1 O1 _ sr1 g1 d1 a1 => ?_)
  obtain ⟨zs, ez, a1⟩ := AnsG.ofO a1
  have d1' : DpAll X.K (fz H1 O1) vs ds := d1
  match ds, ez, d1' with
  | [a, b], ez, .cons ha (.cons hb .nil) =>
    have ez : ((itemsOf a).bind fun xs => (itemsOf b).bind fun ys => some (zipD xs ys)) = some zs := ez
    cases e1 : itemsOf a with
    | none => rw [e1] at ez; cases ez
    | some xs =>
      cases e2 : itemsOf b with
      | none => rw [e1, e2] at ez; cases ez
      | some ys =>
        rw [e1, e2] at ez
        have ez : zipD xs ys = zs := Option.some.inj ez
        subst ez
        obtain ⟨b1, l, us, rfl, s1, u1⟩ := seq_of ha e1
        obtain ⟨b2, m, ws, rfl, s2, u2⟩ := seq_of hb e2
        exact ⟨l, m, b1, b2, us, ws, rfl, s1.same (fz_same H1 O1), s2.same (fz_same H1 O1), a1 _ H1 O1 sr1 (Same.refl _) (okI_zip s1 s2 u1 u2)⟩
/-! ### enumerate of a list -/
def enumD (i : Nat) : List D → List D
  | [] => []
  | x :: xs => .tuple [.int i, x] :: enumD (i + 1) xs
theorem enumD_get : ∀ {xs : List D} {k i : Nat} {d : D}, (enumD k xs)[i]? = some d → ∃ x, xs[i]? = some x ∧ d = .tuple [.int ((k + i : Nat) : Int), x]
  | x :: xs, k, 0, d, e => ⟨x, rfl, (Option.some.inj e).symm⟩
  | x :: xs, k, i + 1, d, e => by
    obtain ⟨y, h1, h2⟩ := enumD_get (xs := xs) (k := k + 1) (i := i) (show (enumD (k + 1) xs)[i]? = some d from e)
    exact ⟨y, h1, by rw [h2]; congr 3; omega⟩
  | [], _, _, _, e => by simp [enumD] at e
theorem enumD_len : ∀ (xs : List D) (k : Nat), (enumD k xs).length = xs.length
  | [], _ => rfl
  | x :: xs, k => by simp only [enumD, List.length_cons, enumD_len xs]
def enum1 : List D → Option (List D)
  | [.list xs] => some (enumD 0 xs)
  | _ => none
theorem okI_enum {K : PySem.W.Frag} {M : Hp} {l : Addr} {us : List V} {xs : List D} (h : SqL K M l us) (d : DpAll K M us xs) : OkI K M (Ite K l) (enumD 0 xs) := fun H O s al i => by
  have a1 := SqL.same (s.trans (fz_same H O)) h
  refine ⟨fun z e => ?_, fun e => ⟨us, a1, by rw [enumD_len] at e; rw [d.length]; exact e⟩⟩
  obtain ⟨x, e1, rfl⟩ := enumD_get e
  obtain ⟨u, eu, du⟩ := d.get e1
  refine ⟨⟨us, u, a1, eu⟩, fun w H' hy => ?_⟩
  obtain ⟨T, x', rfl, hT, rfl, f1⟩ := hy
  have e2 := f1 us a1
  rw [eu] at e2; cases e2
  rw [show ((0 + i : Nat) : Int) = ((i : Nat) : Int) by simp]
  exact new_tup al (.cons (.int _) (.cons (du.same s) .nil)) hT
theorem di_enum (ha : DA X W [e] fe) (hg : Gl X "enumerate") (hm : X.mg "enumerate" = none) (hs : starEach [e] X.env = [(false, eval e X.env)] := by rfl) :
    DI X W (.Tuple elts kk tpos) (.Call (.Name "enumerate" p) [e] [] pos) (vIt enum1 fe) := by
  obtain ⟨t, pt, q⟩ := ha
  refine ⟨_, pi_enum hg hm pt hs, fun G O δ σ H R sr an => ?_⟩
  refine q G O δ σ H _ sr (an.seq fun ds δ1 vs H1 O1 _ sr1 g1 d1 a1 => ?_)
  obtain ⟨zs, ez, a1⟩ := AnsG.ofO a1
  have d1' : DpAll X.K (fz H1 O1) vs ds := d1
  match ds, ez, d1' with
  | [.list xs], ez, .cons (.lst hs ha) .nil =>
    cases ez
    exact ⟨_, _, rfl, SqL.same (fz_same H1 O1) hs, a1 _ H1 O1 sr1 (Same.refl _) (okI_enum hs ha)⟩
end
end Ev
set_option maxHeartbeats 200000
/-! E10: built-ins by data. Own work. -/
namespace Ev
open PySem PySem.Spec L2

section
variable {K : PySem.W.Frag}
/-! ### len, abs, int, str -/
def gLen : List D → Option D
  | [.list xs] => some (.int xs.length)
  | [.tuple xs] => some (.int xs.length)
  | [.str z] => if z.length ≤ sizeLine then some (.int z.length) else none
  | _ => none
def rLen (K : PySem.W.Frag) : List V → Hp → VK → Prop := fun xs H Q => (∃ p ys, xs = [.ref p] ∧ (SqL K H p ys ∨ SqT K H p ys) ∧ Q (.int ys.length) H) ∨ ∃ z, xs = [.str z] ∧ z.length ≤ sizeLine ∧ Q (.int z.length) H
theorem pr_len : PrN K (rLen K) gLen := fun O H us xs z Q al d e k => by
  unfold gLen at e
  split at e
  · cases e
    cases d with
    | cons d t =>
      cases t
      cases d with
      | lst h a =>
        refine .inl ⟨_, _, rfl, .inl (SqL.same (fz_same H O) h), ?_⟩
        rw [a.length]; exact k _ H (Same.refl H) (.int _)
  · cases e
    cases d with
    | cons d t =>
      cases t
      cases d with
      | tup h a =>
        refine .inl ⟨_, _, rfl, .inr (SqT.same (fz_same H O) h), ?_⟩
        rw [a.length]; exact k _ H (Same.refl H) (.int _)
  · obtain ⟨c, rfl⟩ := ite_some e
    cases d with
    | cons d t =>
      cases t
      cases d
      exact .inr ⟨_, rfl, c, k _ H (Same.refl H) (.int _)⟩
  · cases e
def gAbs : List D → Option D
  | [.int i] => some (.int (if i < 0 then -i else i))
  | _ => none
theorem pr_abs : PrN K (fun xs H Q => ∃ i, xs = [.int i] ∧ Q (.int (if i < 0 then -i else i)) H) gAbs := fun O H us xs z Q al d e k => by
  unfold gAbs at e
  split at e
  · cases e
    cases d with
    | cons d t => cases t; cases d; exact ⟨_, rfl, k _ H (Same.refl H) (.int _)⟩
  · cases e
def gInt : List D → Option D
  | [.int i] => some (.int i)
  | [.bool b] => some (.int (if b then 1 else 0))
  | [.str a] => if a.length ≤ 640 then (PySem.intText? a).map .int else none
  | _ => none
def rInt : List V → Hp → VK → Prop := fun xs H Q => ((∃ i, xs = [.int i] ∧ Q (.int i) H) ∨ ∃ k, xs = [.bl k] ∧ Q (.int (if k then 1 else 0)) H) ∨ ∃ a n, xs = [.str a] ∧ PySem.intText? a = some n ∧ a.length ≤ 640 ∧ Q (.int n) H
theorem pr_int : PrN K rInt gInt := fun O H us xs z Q al d e k => by
  unfold gInt at e
  split at e
  · cases e
    cases d with
    | cons d t => cases t; cases d; exact .inl (.inl ⟨_, rfl, k _ H (Same.refl H) (.int _)⟩)
  · cases e
    cases d with
    | cons d t => cases t; cases d; exact .inl (.inr ⟨_, rfl, k _ H (Same.refl H) (.int _)⟩)
  · rename_i a
    by_cases c : a.length ≤ 640
    · rw [if_pos c] at e
      cases en : PySem.intText? a with
      | none => rw [en] at e; cases e
      | some n =>
        rw [en] at e
        cases e
        cases d with
        | cons d t => cases t; cases d; exact .inr ⟨_, _, rfl, en, c, k _ H (Same.refl H) (.int _)⟩
    · rw [if_neg c] at e; cases e
  · cases e
def gStr : List D → Option D
  | [.int i] => if i.natAbs.log2 < 1920 then some (.str (toString i)) else none
  | _ => none
theorem pr_str : PrN K (fun xs H Q => ∃ i, xs = [.int i] ∧ i.natAbs.log2 < 1920 ∧ Q (.str (toString i)) H) gStr := fun O H us xs z Q al d e k => by
  unfold gStr at e
  split at e
  · obtain ⟨c, rfl⟩ := ite_some e
    cases d with
    | cons d t => cases t; cases d; exact ⟨_, rfl, c, k _ H (Same.refl H) (.str _)⟩
  · cases e
/-! ### min, max of two and three ints -/
def gMin2 : List D → Option D
  | [.int i, .int j] => some (.int (if j < i then j else i))
  | _ => none
def gMax2 : List D → Option D
  | [.int i, .int j] => some (.int (if j > i then j else i))
  | _ => none
theorem pr_min2 : PrN K (fun xs H Q => ∃ i j, xs = [.int i, .int j] ∧ Q (.int (if j < i then j else i)) H) gMin2 := fun O H us xs z Q al d e k => by
  unfold gMin2 at e
  split at e
  · cases e
    cases d with
    | cons d t => cases t with
      | cons d2 t => cases t; cases d; cases d2; exact ⟨_, _, rfl, k _ H (Same.refl H) (.int _)⟩
  · cases e
theorem pr_max2 : PrN K (fun xs H Q => ∃ i j, xs = [.int i, .int j] ∧ Q (.int (if j > i then j else i)) H) gMax2 := fun O H us xs z Q al d e k => by
  unfold gMax2 at e
  split at e
  · cases e
    cases d with
    | cons d t => cases t with
      | cons d2 t => cases t; cases d; cases d2; exact ⟨_, _, rfl, k _ H (Same.refl H) (.int _)⟩
  · cases e
def gMin3 : List D → Option D
  | [.int i, .int j, .int l] => some (.int (if l < (if j < i then j else i) then l else (if j < i then j else i)))
  | _ => none
theorem nuMin2_int (i j : Int) : nuMin2 (.int i) (.int j) = some (.int (if j < i then j else i)) := by
  unfold nuMin2
  show (some (decide (j < i))).map _ = _
  by_cases c : j < i <;> simp [c]
theorem pr_min3 : PrN K (rNuC3 nuMin3) gMin3 := fun O H us xs z Q al d e k => by
  unfold gMin3 at e
  split at e
  · cases e
    cases d with
    | cons d t => cases t with
      | cons d2 t => cases t with
        | cons d3 t =>
          cases t; cases d; cases d2; cases d3
          refine ⟨_, _, _, _, rfl, ?_, k _ H (Same.refl H) (.int _)⟩
          unfold nuMin3
          rw [nuMin2_int]
          show nuMin2 (.int _) (.int _) = _
          rw [nuMin2_int]
  · cases e
/-! ### all, any -/
def gAll : List D → Option D
  | [.list xs] => (boolsOf xs).map fun bs => .bool (bs.all id)
  | _ => none
def gAny : List D → Option D
  | [.list xs] => (boolsOf xs).map fun bs => .bool (bs.any id)
  | _ => none
theorem pr_all : PrN K (rAll K) gAll := fun O H us xs z Q al d e k => by
  unfold gAll at e
  split at e
  · rename_i xs
    cases eb : boolsOf xs with
    | none => rw [eb] at e; cases e
    | some bs =>
      rw [eb] at e
      cases e
      have := boolsOf_eq eb
      subst this
      cases d with
      | cons d t =>
        cases t
        cases d with
        | lst h a =>
          have := DpAll.ofBools a
          subst this
          exact ⟨_, bs, rfl, SqL.same (fz_same H O) h, k _ H (Same.refl H) (.bl _)⟩
  · cases e
theorem pr_any : PrN K (rAny K) gAny := fun O H us xs z Q al d e k => by
  unfold gAny at e
  split at e
  · rename_i xs
    cases eb : boolsOf xs with
    | none => rw [eb] at e; cases e
    | some bs =>
      rw [eb] at e
      cases e
      have := boolsOf_eq eb
      subst this
      cases d with
      | cons d t =>
        cases t
        cases d with
        | lst h a =>
          have := DpAll.ofBools a
          subst this
          exact ⟨_, bs, rfl, SqL.same (fz_same H O) h, k _ H (Same.refl H) (.bl _)⟩
  · cases e
/-! ### tuple(..), list(..) -/
def gTup1 : List D → Option D
  | [.list xs] => some (.tuple xs)
  | [.tuple xs] => some (.tuple xs)
  | _ => none
def rTup1 (K : PySem.W.Frag) : List V → Hp → VK → Prop := fun xs H Q => ∃ p ys, xs = [.ref p] ∧ ((SqL K H p ys ∧ ∀ l, H l = none → Q (.ref l) (upd H l (.tup ys))) ∨ (SqT K H p ys ∧ Q (.ref p) H))
theorem pr_tup1 : PrN K (rTup1 K) gTup1 := fun O H us xs z Q al d e k => by
  unfold gTup1 at e
  split at e
  · cases e
    cases d with
    | cons d t =>
      cases t
      cases d with
      | lst h a =>
        refine ⟨_, _, rfl, .inl ⟨SqL.same (fz_same H O) h, fun p hp => ?_⟩⟩
        obtain ⟨s, dd⟩ := new_tup al a hp
        exact k _ _ s dd
  · cases e
    cases d with
    | cons d t =>
      cases t
      cases d with
      | tup h a => exact ⟨_, _, rfl, .inr ⟨SqT.same (fz_same H O) h, k _ H (Same.refl H) (.tup h a)⟩⟩
  · cases e
end

/-! ### sums and bounds of a tuple of ints -/
section
variable {prog : Program} {w : World} {A : Around} {E : Value → Shared → Prop} {s : Shared} {l : Addr} {xs : Array (Int × Tok)}
theorem iter_intTup {Q : Value → Shared → Prop} (hl : s.heap.IsTuple l (intItems xs))
    (h : ∀ s₂ : Shared, s₂ = { s with heap := s.heap.push { cls := .type "tuple_iterator", data := .fields #[.ref l, .int 0 0] } } →
      (s₂.heap.IsTupleIter s.heap.objs.size l 0 ∧ s₂.heap.IsTuple l (intItems xs)) → (∀ b ∈ [s.heap.objs.size, l], b < s₂.heap.objs.size) → l ≠ s.heap.objs.size → Q (.ref s.heap.objs.size) s₂) :
    wpAny (model prog w) A (pyIter (.ref l)) Q E s := by
  have hlt : l < s.heap.objs.size := by obtain ⟨_, e, _⟩ := hl; exact Heap.lt_size e
  refine wpAny_pyIter_tuple hl (h _ rfl ⟨⟨_, Heap.get?_push_size _ rfl, rfl, rfl⟩, hl.push _⟩ (fun b hb => ?_) (Nat.ne_of_lt hlt))
  show b < (s.heap.push _).objs.size
  rw [Heap.size_push]
  rcases List.mem_cons.mp hb with rfl | hb
  · exact Nat.lt_succ_self _
  · rcases List.mem_cons.mp hb with rfl | hb
    · exact Nat.lt_succ_of_lt hlt
    · cases hb
theorem old_keptT {o1 : Obj} {h' : Heap} (hk : ∀ b o, b ∉ [s.heap.objs.size] → (s.heap.push o1).get? b = some o → h'.get? b = some o) : ∀ b o, s.heap.get? b = some o → h'.get? b = some o := fun b o e => by
  refine hk b o (fun hm => ?_) (Heap.get?_push_of_some _ e)
  rcases List.mem_cons.mp hm with e1 | hm
  · exact absurd (e1 ▸ Heap.lt_size e) (Nat.lt_irrefl _)
  · cases hm
theorem sum_intTupG {Q : Value → Shared → Prop} (hh : A.handled = none) (hl : s.heap.IsTuple l (intItems xs))
    (h : ∀ h' tk t', (∀ b o, s.heap.get? b = some o → h'.get? b = some o) → Q (.int (preSum (numAt xs) xs.size) t') { s with heap := h', toks := tk }) :
    wpAny (model prog w) A (call (.builtin "sum") [.ref l]) Q E s := by
  refine call_sum_walkG (iter_intTup hl fun s₂ e st hfp hlI => ?_)
  subst e
  refine ⟨_, _, _, _, _, _, numAt xs, rfl, Walks.tuple (A := A.in1) hh _ l hlI (intItems xs), st, hfp, (fun _ _ => intItems_at), fun h' tk t' hk => ?_⟩
  have := h h' tk t' (old_keptT hk)
  simpa [intItems] using this
theorem max_intTup {Q : Value → Shared → Prop} (hh : A.handled = none) (hl : s.heap.IsTuple l (intItems xs)) (hne : 0 < xs.size)
    (h : ∀ v h' tk, (intItems xs)[argBest (fun i j => decide (numAt xs i > numAt xs j)) (xs.size - 1)]? = some v → (∀ b o, s.heap.get? b = some o → h'.get? b = some o) → Q v { s with heap := h', toks := tk }) :
    wpAny (model prog w) A (call (.builtin "max") [.ref l]) Q E s := by
  refine call_max_walk (iter_intTup hl fun s₂ e st hfp hlI => ?_)
  subst e
  refine ⟨_, _, _, _, _, _, _, rfl, Walks.tuple (A := A.in1) hh _ l hlI (intItems xs), st, hfp, by simpa [intItems] using hne, CmpOf.ints_gt (numAt xs) (fun _ _ => intItems_at), fun v h' tk hP hk => ?_⟩
  exact h v h' tk (by simpa [intItems] using hP) (old_keptT hk)
theorem min_intTup {Q : Value → Shared → Prop} (hh : A.handled = none) (hl : s.heap.IsTuple l (intItems xs)) (hne : 0 < xs.size)
    (h : ∀ v h' tk, (intItems xs)[argBest (fun i j => decide (numAt xs i < numAt xs j)) (xs.size - 1)]? = some v → (∀ b o, s.heap.get? b = some o → h'.get? b = some o) → Q v { s with heap := h', toks := tk }) :
    wpAny (model prog w) A (call (.builtin "min") [.ref l]) Q E s := by
  refine call_min_walk (iter_intTup hl fun s₂ e st hfp hlI => ?_)
  subst e
  refine ⟨_, _, _, _, _, _, _, rfl, Walks.tuple (A := A.in1) hh _ l hlI (intItems xs), st, hfp, by simpa [intItems] using hne, CmpOf.ints_lt (numAt xs) (fun _ _ => intItems_at), fun v h' tk hP hk => ?_⟩
  exact h v h' tk (by simpa [intItems] using hP) (old_keptT hk)
end
end Ev
set_option maxHeartbeats 200000
/-! E11: more built-ins by data. Own work. -/
namespace Ev
open PySem PySem.Spec L2

section
variable {X : Cx}
def rSumT (K : PySem.W.Frag) : List V → Hp → VK → Prop := fun vs H Q => ∃ (a : Addr) (ns : List Int), vs = [V.ref a] ∧ SqT K H a (ns.map V.int) ∧ Q (.int ns.sum) H
def rMaxT (K : PySem.W.Frag) : List V → Hp → VK → Prop := fun vs H Q => ∃ (a : Addr) (ns : List Int), vs = [V.ref a] ∧ SqT K H a (ns.map V.int) ∧ 0 < ns.length ∧ ∀ m, m ∈ ns → (∀ y, y ∈ ns → y ≤ m) → Q (.int m) H
def rMinT (K : PySem.W.Frag) : List V → Hp → VK → Prop := fun vs H Q => ∃ (a : Addr) (ns : List Int), vs = [V.ref a] ∧ SqT K H a (ns.map V.int) ∧ 0 < ns.length ∧ ∀ m, m ∈ ns → (∀ y, y ∈ ns → m ≤ y) → Q (.int m) H
theorem cr_sumT (hc : X.calm = true) : CallR X (.builtin "sum") (rSumT X.K) := by
  intro pins s σ H vs us Q I r h
  obtain ⟨a, ns, rfl, hs, q⟩ := h
  obtain ⟨its, rv, ht, _⟩ := I.tuple hs
  rw [Vals.ref1 r]
  obtain ⟨xs, e⟩ := rv.ints.allInts.items
  have hn : PySem.numsOf (intItems xs).toList = ns := by rw [← e]; exact rv.ints.numsOf
  rw [nums_intItems] at hn
  rw [e] at ht
  refine sum_intTupG (I.ok.hd hc) ht fun h' tk t' hk => ⟨.int _, H, I.kept hk, ⟨t', ?_⟩, q⟩
  rw [preSum_eq, List.take_of_length_le (by simp), hn]
theorem cr_maxT (hc : X.calm = true) : CallR X (.builtin "max") (rMaxT X.K) := by
  intro pins s σ H vs us Q I r h
  obtain ⟨a, ns, rfl, hs, hne, q⟩ := h
  obtain ⟨its, rv, ht, _⟩ := I.tuple hs
  rw [Vals.ref1 r]
  obtain ⟨xs, e⟩ := rv.ints.allInts.items
  have hn : PySem.numsOf (intItems xs).toList = ns := by rw [← e]; exact rv.ints.numsOf
  rw [nums_intItems] at hn
  subst hn
  rw [e] at ht
  have hsz : 0 < xs.size := by simpa using hne
  refine max_intTup (I.ok.hd hc) ht hsz fun v h' tk hv hk => ?_
  obtain ⟨t, rfl⟩ := intItems_at hv
  obtain ⟨h1, h2⟩ := argBest_gt (numAt xs) (xs.size - 1)
  refine ⟨.int _, H, I.kept hk, ⟨_, rfl⟩, q _ ?_ fun a ha => ?_⟩
  · rw [numAt_eq]; exact PySem.getD_mem (by rw [List.length_map, Array.length_toList]; omega)
  · obtain ⟨j, hj, rfl⟩ := mem_getD ha
    rw [List.length_map, Array.length_toList] at hj
    rw [← numAt_eq]; exact h2 j (by omega)
theorem cr_minT (hc : X.calm = true) : CallR X (.builtin "min") (rMinT X.K) := by
  intro pins s σ H vs us Q I r h
  obtain ⟨a, ns, rfl, hs, hne, q⟩ := h
  obtain ⟨its, rv, ht, _⟩ := I.tuple hs
  rw [Vals.ref1 r]
  obtain ⟨xs, e⟩ := rv.ints.allInts.items
  have hn : PySem.numsOf (intItems xs).toList = ns := by rw [← e]; exact rv.ints.numsOf
  rw [nums_intItems] at hn
  subst hn
  rw [e] at ht
  have hsz : 0 < xs.size := by simpa using hne
  refine min_intTup (I.ok.hd hc) ht hsz fun v h' tk hv hk => ?_
  obtain ⟨t, rfl⟩ := intItems_at hv
  obtain ⟨h1, h2⟩ := argBest_lt (numAt xs) (xs.size - 1)
  refine ⟨.int _, H, I.kept hk, ⟨_, rfl⟩, q _ ?_ fun a ha => ?_⟩
  · rw [numAt_eq]; exact PySem.getD_mem (by rw [List.length_map, Array.length_toList]; omega)
  · obtain ⟨j, hj, rfl⟩ := mem_getD ha
    rw [List.length_map, Array.length_toList] at hj
    rw [← numAt_eq]; exact h2 j (by omega)
end
section
variable {K : PySem.W.Frag}
/-- the ints of one list, of one tuple -/
def argInts : List D → Option (List Int)
  | [.list xs] => intsOf xs
  | [.tuple xs] => intsOf xs
  | _ => none
theorem argInts_ok {M : Hp} {us : List V} {xs : List D} {ns : List Int} (d : DpAll K M us xs) (e : argInts xs = some ns) : ∃ a, us = [.ref a] ∧ (SqL K M a (ns.map V.int) ∨ SqT K M a (ns.map V.int)) := by
  unfold argInts at e
  split at e
  · cases d with
    | cons d t =>
      cases t
      cases d with
      | lst h a =>
        have := intsOf_eq e
        subst this
        have := DpAll.ofInts a
        subst this
        exact ⟨_, rfl, .inl h⟩
  · cases d with
    | cons d t =>
      cases t
      cases d with
      | tup h a =>
        have := intsOf_eq e
        subst this
        have := DpAll.ofInts a
        subst this
        exact ⟨_, rfl, .inr h⟩
  · cases e
def gSum (xs : List D) : Option D := (argInts xs).map fun ns => .int ns.sum
def maxI : List Int → Int
  | [] => 0
  | [x] => x
  | x :: y :: r => max x (maxI (y :: r))
def minI : List Int → Int
  | [] => 0
  | [x] => x
  | x :: y :: r => min x (minI (y :: r))
theorem maxI_of : ∀ {ns : List Int} {m : Int}, m ∈ ns → (∀ y ∈ ns, y ≤ m) → maxI ns = m
  | [], _, h, _ => by cases h
  | [x], m, h, k => by simp at h; exact h.symm
  | x :: y :: r, m, h, k => by
    show max x (maxI (y :: r)) = m
    rcases List.mem_cons.mp h with rfl | h'
    · have : maxI (y :: r) ≤ m := by
        have : ∀ l : List Int, l ≠ [] → (∀ z ∈ l, z ≤ m) → maxI l ≤ m := by
          intro l
          induction l with
          | nil => intro h; exact absurd rfl h
          | cons a t ih =>
            intro _ hk
            cases t with
            | nil => exact hk a List.mem_cons_self
            | cons b t => exact Int.max_le.mpr ⟨hk a List.mem_cons_self, ih (by simp) fun z hz => hk z (List.mem_cons_of_mem _ hz)⟩
        exact this _ (by simp) fun z hz => k z (List.mem_cons_of_mem _ hz)
      omega
    · have := maxI_of h' fun z hz => k z (List.mem_cons_of_mem _ hz)
      have := k x List.mem_cons_self
      omega
theorem minI_of : ∀ {ns : List Int} {m : Int}, m ∈ ns → (∀ y ∈ ns, m ≤ y) → minI ns = m
  | [], _, h, _ => by cases h
  | [x], m, h, k => by simp at h; exact h.symm
  | x :: y :: r, m, h, k => by
    show min x (minI (y :: r)) = m
    rcases List.mem_cons.mp h with rfl | h'
    · have : m ≤ minI (y :: r) := by
        have : ∀ l : List Int, l ≠ [] → (∀ z ∈ l, m ≤ z) → m ≤ minI l := by
          intro l
          induction l with
          | nil => intro h; exact absurd rfl h
          | cons a t ih =>
            intro _ hk
            cases t with
            | nil => exact hk a List.mem_cons_self
            | cons b t => exact Int.le_min.mpr ⟨hk a List.mem_cons_self, ih (by simp) fun z hz => hk z (List.mem_cons_of_mem _ hz)⟩
        exact this _ (by simp) fun z hz => k z (List.mem_cons_of_mem _ hz)
      omega
    · have := minI_of h' fun z hz => k z (List.mem_cons_of_mem _ hz)
      have := k x List.mem_cons_self
      omega
def gMaxI (xs : List D) : Option D := (argInts xs).bind fun ns => if 0 < ns.length then some (.int (maxI ns)) else none
def gMinI (xs : List D) : Option D := (argInts xs).bind fun ns => if 0 < ns.length then some (.int (minI ns)) else none
theorem pr_sum : PrN K (fun xs H Q => rSum K xs H Q ∨ rSumT K xs H Q) gSum := fun O H us xs z Q al d e k => by
  unfold gSum at e
  cases en : argInts xs with
  | none => rw [en] at e; cases e
  | some ns =>
    rw [en] at e
    cases e
    obtain ⟨a, rfl, h | h⟩ := argInts_ok (DpAll.same (fz_same H O) d) en
    · exact .inl ⟨a, ns, rfl, h, k _ H (Same.refl H) (.int _)⟩
    · exact .inr ⟨a, ns, rfl, h, k _ H (Same.refl H) (.int _)⟩
theorem pr_maxI : PrN K (fun xs H Q => rMax K xs H Q ∨ rMaxT K xs H Q) gMaxI := fun O H us xs z Q al d e k => by
  unfold gMaxI at e
  cases en : argInts xs with
  | none => rw [en] at e; cases e
  | some ns =>
    rw [en] at e
    obtain ⟨c, rfl⟩ := ite_some e
    obtain ⟨a, rfl, h | h⟩ := argInts_ok (DpAll.same (fz_same H O) d) en
    · exact .inl ⟨a, ns, rfl, h, c, fun m h1 h2 => k _ H (Same.refl H) (by rw [maxI_of h1 h2]; exact .int _)⟩
    · exact .inr ⟨a, ns, rfl, h, c, fun m h1 h2 => k _ H (Same.refl H) (by rw [maxI_of h1 h2]; exact .int _)⟩
theorem pr_minI : PrN K (fun xs H Q => rMin K xs H Q ∨ rMinT K xs H Q) gMinI := fun O H us xs z Q al d e k => by
  unfold gMinI at e
  cases en : argInts xs with
  | none => rw [en] at e; cases e
  | some ns =>
    rw [en] at e
    obtain ⟨c, rfl⟩ := ite_some e
    obtain ⟨a, rfl, h | h⟩ := argInts_ok (DpAll.same (fz_same H O) d) en
    · exact .inl ⟨a, ns, rfl, h, c, fun m h1 h2 => k _ H (Same.refl H) (by rw [minI_of h1 h2]; exact .int _)⟩
    · exact .inr ⟨a, ns, rfl, h, c, fun m h1 h2 => k _ H (Same.refl H) (by rw [minI_of h1 h2]; exact .int _)⟩

/-! ### powers, texts in texts, tuples compared, deep membership -/
def cPow (i j : Int) : Bool := decide (0 ≤ j ∧ j ≤ 1000000 ∧ i.natAbs < 2 ^ 64)
def gPow : D → D → Option D := iI cPow fun i j => i ^ j.toNat
def gInS (neg : Bool) : D → D → Option D
  | .str i, .str j => some (.bool (if neg then !(!(Builtin.Str.occurrences j i 0 j.length 1).isEmpty) else !(Builtin.Str.occurrences j i 0 j.length 1).isEmpty))
  | _, _ => none
def rInS2 (neg : Bool) : R2 := fun x y H Q => ∃ i j, x = .str i ∧ y = .str j ∧ Q (.bl (if neg then !(!(Builtin.Str.occurrences j i 0 j.length 1).isEmpty) else !(Builtin.Str.occurrences j i 0 j.length 1).isEmpty)) H
theorem pr_inS {neg : Bool} : Pr2 K (rInS2 neg) (gInS neg) := fun O H u v x y z Q al d1 d2 e k => by
  unfold gInS at e
  split at e
  · cases e
    cases d1
    cases d2
    exact ⟨_, _, rfl, rfl, k _ H (Same.refl H) (.bl _)⟩
  · cases e
def gLtT : D → D → Option D
  | .tuple xs, .tuple ys => (intsOf xs).bind fun ns => (intsOf ys).map fun ms => .bool (HT.lexLt ns ms)
  | _, _ => none
theorem pr_ltT : Pr2 K (rLtT K) gLtT := fun O H u v x y z Q al d1 d2 e k => by
  unfold gLtT at e
  split at e
  · rename_i xs ys
    cases e1 : intsOf xs with
    | none => rw [e1] at e; cases e
    | some ns =>
      rw [e1] at e
      cases e2 : intsOf ys with
      | none => rw [e2] at e; cases e
      | some ms =>
        rw [e2] at e
        cases e
        have := intsOf_eq e1
        subst this
        have := intsOf_eq e2
        subst this
        cases d1 with
        | tup h1 a1 =>
          cases d2 with
          | tup h2 a2 =>
            have := DpAll.ofInts a1
            subst this
            have := DpAll.ofInts a2
            subst this
            exact ⟨_, _, ns, ms, rfl, rfl, SqT.same (fz_same H O) h1, SqT.same (fz_same H O) h2, k _ H (Same.refl H) (.bl _)⟩
  · cases e
def gInD (neg : Bool) : D → D → Option D
  | x, .list ys => if SeqAt.shaped x && SeqAt.shaped (.list ys) then some (.bool (if neg then !ys.any fun z => PyData.eqv z x else ys.any fun z => PyData.eqv z x)) else none
  | _, _ => none
theorem pr_inD : Pr2 K (rInD K) (gInD false) := fun O H u v x y z Q al d1 d2 e k => by
  unfold gInD at e
  split at e
  · obtain ⟨c, rfl⟩ := ite_some e
    rw [Bool.and_eq_true] at c
    exact ⟨x, _, d1.same (fz_same H O), d2.same (fz_same H O), c.1, c.2, k _ H (Same.refl H) (.bl _)⟩
  · cases e
theorem pr_notInD : Pr2 K (rNotInD K) (gInD true) := fun O H u v x y z Q al d1 d2 e k => by
  unfold gInD at e
  split at e
  · obtain ⟨c, rfl⟩ := ite_some e
    rw [Bool.and_eq_true] at c
    exact ⟨x, _, d1.same (fz_same H O), d2.same (fz_same H O), c.1, c.2, k _ H (Same.refl H) (.bl _)⟩
  · cases e
/-- a text's slice, too -/
def gSlS : D → Option Int → Option Int → Option D
  | .str z, lo, hi => if z.length ≤ sizeLine then some (.str (cutS z lo hi)) else none
  | _, _, _ => none
/-! ### isinstance -/
inductive Ty where
  | int | bool | tuple | str | list
def Ty.nm : Ty → String
  | .int => "int" | .bool => "bool" | .tuple => "tuple" | .str => "str" | .list => "list"
def tyD : D → Option String
  | .none => some "NoneType" | .bool _ => some "bool" | .int _ => some "int" | .str _ => some "str" | .list _ => some "list" | .tuple _ => some "tuple" | _ => none
def isiD : Ty → D → Option Bool
  | _, .dict _ => none
  | .int, .int _ => some true | .int, .bool _ => some true | .bool, .bool _ => some true | .tuple, .tuple _ => some true | .str, .str _ => some true | .list, .list _ => some true
  | _, _ => some false
theorem tyX_of {M : Hp} {v : V} {d : D} {a : String} (h : Dp K M v d) (e : tyD d = some a) : TyX K M v (.type a) := by
  cases h with
  | non => cases e; exact .base .non
  | bl b => cases e; exact .base (.bl b)
  | int i => cases e; exact .base (.int i)
  | str i => cases e; exact .base (.str i)
  | lst h a =>
    cases e
    rcases h with (h | ⟨o, h⟩) | ⟨o, its, n, h1, h2, _⟩
    · exact .base (.lst h)
    · exact .base (.frz h)
    · exact .kList h1 h2
  | tup h a =>
    cases e
    rcases h with (h | ⟨o, h⟩) | ⟨o, its, n, h1, h2, _⟩
    · exact .base (.tup h)
    · exact .fTuple h
    · exact .kTuple h1 h2
theorem kit_i (a : String) (h : a ∈ ["NoneType", "bool", "int", "str", "list", "tuple"]) : kitB a "int" = some (decide (a = "int" ∨ a = "bool")) := by
  simp only [List.mem_cons, List.not_mem_nil, or_false] at h
  rcases h with rfl | rfl | rfl | rfl | rfl | rfl <;> decide +kernel
theorem kit_t (T a : String) (hT : T ∈ ["bool", "str", "list", "tuple"]) (h : a ∈ ["NoneType", "bool", "int", "str", "list", "tuple"]) : kitB a T = some (decide (a = T)) := by
  simp only [List.mem_cons, List.not_mem_nil, or_false] at h hT
  rcases hT with rfl | rfl | rfl | rfl <;> rcases h with rfl | rfl | rfl | rfl | rfl | rfl <;> decide +kernel
theorem isi_kit {T : Ty} {d : D} {b : Bool} (e : isiD T d = some b) : ∃ a, tyD d = some a ∧ kitB a T.nm = some b := by
  cases d with
  | dict _ => cases T <;> cases e
  | none => refine ⟨_, rfl, ?_⟩; cases T <;> cases e <;> first | (rw [show Ty.nm .int = "int" from rfl, kit_i _ (by decide)]; decide) | (rw [kit_t _ _ (by decide) (by decide)]; decide)
  | bool _ => refine ⟨_, rfl, ?_⟩; cases T <;> cases e <;> first | (rw [show Ty.nm .int = "int" from rfl, kit_i _ (by decide)]; decide) | (rw [kit_t _ _ (by decide) (by decide)]; decide)
  | int _ => refine ⟨_, rfl, ?_⟩; cases T <;> cases e <;> first | (rw [show Ty.nm .int = "int" from rfl, kit_i _ (by decide)]; decide) | (rw [kit_t _ _ (by decide) (by decide)]; decide)
  | str _ => refine ⟨_, rfl, ?_⟩; cases T <;> cases e <;> first | (rw [show Ty.nm .int = "int" from rfl, kit_i _ (by decide)]; decide) | (rw [kit_t _ _ (by decide) (by decide)]; decide)
  | list _ => refine ⟨_, rfl, ?_⟩; cases T <;> cases e <;> first | (rw [show Ty.nm .int = "int" from rfl, kit_i _ (by decide)]; decide) | (rw [kit_t _ _ (by decide) (by decide)]; decide)
  | tuple _ => refine ⟨_, rfl, ?_⟩; cases T <;> cases e <;> first | (rw [show Ty.nm .int = "int" from rfl, kit_i _ (by decide)]; decide) | (rw [kit_t _ _ (by decide) (by decide)]; decide)
end
section
variable {X : Cx} {W : WX} {e a : Expr} {fe fa : XT D} {pos p p2 : Pos}
def vIsi (T : Ty) (fe : XT D) : XT D := fun δ => (fe δ).bind fun p => (Rs.of ((isiD T p.1).map PyData.bool)).bind fun z => .ok (z, p.2)
theorem de_isi (T : Ty) {y : Str} (he : DE X W e fe) (hg : Gl X "isinstance") (hm : X.mg "isinstance" = none) (hgT : Gl X y) (hmT : X.mg y = none) (hv : bootBuiltins y = some (.type T.nm))
    (hn : y ≠ "__name__" := by decide) (hdb : (y == ("__debug__" : Str)) = false := by decide)
    (hs1 : starEach [e, .Name y p2] X.env = (false, eval e X.env) :: starEach [.Name y p2] X.env := by rfl) (hs2 : starEach [.Name y p2] X.env = (false, eval (.Name y p2) X.env) :: starEach [] X.env := by rfl)
    (hpl : (backTo pos (starEach [.Name y p2] X.env)).any (·.1) = false := by rfl) : DE X W (.Call (.Name "isinstance" p) [e, .Name y p2] [] pos) (vIsi T fe) := by
  obtain ⟨t, pt, q⟩ := he
  refine ⟨_, pe_callB call_isi hg hm PyProof.Rows.boot_isinstance (pa_cons pt (pa_cons (pe_bltn (v := .ty T.nm) hgT hmT hv rfl hn hdb) pa_nil hs2) hs1) (by decide) (by decide) hs1 hpl, fun G O δ σ H Q sr an => ?_⟩
  refine q G O δ σ H _ sr (an.seq fun x δ1 v H1 O1 _ sr1 g1 d1 a1 => ?_)
  obtain ⟨z, ez, k⟩ := ans_of sr1 a1
  dsimp only at ez
  cases eb : isiD T x with
  | none => rw [eb] at ez; cases ez
  | some b =>
    rw [eb] at ez
    cases ez
    obtain ⟨a, ea, ek⟩ := isi_kit eb
    exact ⟨v, .ty T.nm, .type a, .type T.nm, b, rfl, .ty _, tyX_of (Dp.same (fz_same H1 O1) d1) ea, kit_ty ek, k _ H1 (Same.refl _) (.bl b)⟩
/-! ### list(range(n)), list(xs) -/
def gRgL : D → Option D
  | .int n => if -(2 ^ 62) ≤ n ∧ n ≤ 1000000 then some (.list (rangeD 0 n.toNat)) else none
  | _ => none
theorem dp_range {K : PySem.W.Frag} {M : Hp} (n : Int) : DpAll K M (rgV 0 n) (rangeD 0 n.toNat) := by
  have e1 : rgV 0 n = ((List.range n.toNat).map fun i => (0 + (i : Nat) : Int)).map V.int := by unfold rgV; simp [List.map_map, Function.comp_def]
  have e2 : rangeD 0 n.toNat = ((List.range n.toNat).map fun i => (0 + (i : Nat) : Int)).map PyData.int := by unfold rangeD; simp [List.map_map, Function.comp_def]
  rw [e1, e2]
  exact DpAll.ints
theorem de_listRg {p3 pos3 : Pos} (hc : X.calm = true) (ha : DE X W a fa) (hg : Gl X "list") (hm : X.mg "list" = none) (hg2 : Gl X "range") (hm2 : X.mg "range" = none)
    (na : starEach [.Call (.Name "range" p3) [a] [] pos3] X.env = (false, eval (.Call (.Name "range" p3) [a] [] pos3) X.env) :: starEach [] X.env := by rfl) (nb : starEach [a] X.env = (false, eval a X.env) :: starEach [] X.env := by rfl) :
    DE X W (.Call (.Name "list" p) [.Call (.Name "range" p3) [a] [] pos3] [] pos) (vUn gRgL fa) := by
  obtain ⟨t, pt, q⟩ := ha
  refine ⟨_, pe_listRg hc hg hm (prg_1 hg2 hm2 pt nb) na, fun G O δ σ H Q sr an => ?_⟩
  refine q G O δ σ H _ sr (an.seq fun x δ1 v H1 O1 _ sr1 g1 d1 a1 => ?_)
  obtain ⟨z, ez, k⟩ := ans_of sr1 a1
  dsimp only at ez
  have d1' : Dp X.K (fz H1 O1) v x := d1
  cases x with
  | int n =>
    obtain ⟨c, rfl⟩ := ite_some ez
    obtain rfl := dp_int d1'
    refine ⟨n, rfl, ⟨by decide, by decide, c.1, by have := c.2; omega, by have := c.2; omega⟩, fun q hq => ?_⟩
    obtain ⟨s, d⟩ := new_lst sr1.alive (dp_range n) hq
    exact k _ _ s d
  | _ => cases ez
/-- list(xs), a new list -/
def vList1 (fe : XT (List D)) : XT (List D) := fun δ => (fe δ).bind fun p => match p.1 with
  | [.list xs] => .ok (xs, p.2)
  | [.tuple xs] => .ok (xs, p.2)
  | _ => .no
theorem df_list1 {es : List Expr} {fe : XT (List D)} (hg : Gl X "list") (hm : X.mg "list" = none) (ha : DA X W (e :: es) fe)
    (he : starEach (e :: es) X.env = (false, eval e X.env) :: starEach es X.env := by rfl) (hpl : (backTo pos (starEach es X.env)).any (·.1) = false := by rfl) : DF X W (.Call (.Name "list" p) (e :: es) [] pos) (vList1 fe) := by
  obtain ⟨t, pt, q⟩ := ha
  refine ⟨_, pe_callTy call_list_of hg hm PyProof.Rows.boot_list pt (by decide) (by decide) he hpl, fun G O δ σ H Q sr an => ?_⟩
  refine q G O δ σ H _ sr (an.seq fun x δ1 vs H1 O1 _ sr1 g1 d1 a1 => ?_)
  dsimp only at a1
  have d1' : DpAll X.K (fz H1 O1) vs x := d1
  split at a1
  · cases d1' with
    | cons d t =>
      cases t
      cases d with
      | lst h a => exact ⟨_, _, rfl, .inl (SqL.same (fz_same H1 O1) h), fun l hl => a1.made sr1 hl a⟩
  · cases d1' with
    | cons d t =>
      cases t
      cases d with
      | tup h a => exact ⟨_, _, rfl, .inr (SqT.same (fz_same H1 O1) h), fun l hl => a1.made sr1 hl a⟩
  · exact a1.elim
end
end Ev
set_option maxHeartbeats 200000
/-! E12: sorted rows of ints, methods, texts by data. Own work. -/
namespace L2
open PySem PySem.Spec
theorem DpAll.perm {K : PySem.W.Frag} {H : Hp} {xs ys : List V} (p : ys.Perm xs) : ∀ {ds : List PyData}, DpAll K H xs ds → ∃ es, DpAll K H ys es ∧ es.Perm ds := by
  induction p with
  | nil => intro ds h; exact ⟨ds, h, .refl _⟩
  | cons x _ ih => intro ds h; cases h with
    | cons a b => obtain ⟨es, h1, h2⟩ := ih b; exact ⟨_, .cons a h1, h2.cons _⟩
  | swap x y l => intro ds h; cases h with
    | cons a b => cases b with
      | cons b c => exact ⟨_, .cons b (.cons a c), .swap _ _ _⟩
  | trans _ _ ih1 ih2 => intro ds h; obtain ⟨es, h1, h2⟩ := ih2 h; obtain ⟨fs, h3, h4⟩ := ih1 h1; exact ⟨fs, h3, h4.trans h2⟩
theorem DpAll.mem {K : PySem.W.Frag} {H : Hp} : ∀ {xs : List V} {ds : List PyData} {d : PyData}, DpAll K H xs ds → d ∈ ds → ∃ v ∈ xs, Dp K H v d
  | _, _, _, .cons a b, m => by
    rcases List.mem_cons.mp m with rfl | m
    · exact ⟨_, List.mem_cons_self, a⟩
    · obtain ⟨v, h1, h2⟩ := DpAll.mem b m; exact ⟨v, List.mem_cons_of_mem _ h1, h2⟩
theorem DpAll.mem' {K : PySem.W.Frag} {H : Hp} : ∀ {xs : List V} {ds : List PyData} {v : V}, DpAll K H xs ds → v ∈ xs → ∃ d ∈ ds, Dp K H v d
  | _, _, _, .cons a b, m => by
    rcases List.mem_cons.mp m with rfl | m
    · exact ⟨_, List.mem_cons_self, a⟩
    · obtain ⟨v, h1, h2⟩ := DpAll.mem' b m; exact ⟨v, List.mem_cons_of_mem _ h1, h2⟩
theorem DpAll.pair {K : PySem.W.Frag} {H : Hp} {R : V → V → Prop} {S : PyData → PyData → Prop} (k : ∀ u v d e, Dp K H u d → Dp K H v e → R u v → S d e) : ∀ {xs : List V} {ds : List PyData}, DpAll K H xs ds → xs.Pairwise R → ds.Pairwise S
  | _, _, .nil, _ => .nil
  | _, _, .cons a b, p => by
    rw [List.pairwise_cons] at p ⊢
    refine ⟨fun e m => ?_, DpAll.pair k b p.2⟩
    obtain ⟨v, h1, h2⟩ := b.mem m
    exact k _ _ _ _ a h2 (p.1 v h1)
end L2
namespace TS
theorem code_le {B : Int} : ∀ {r q : List Int}, r.length = q.length → Bd B r → Bd B q → (code B r ≤ code B q ↔ HT.lexLt q r = false)
  | [], [], _, _, _ => by simp [HT.lexLt]
  | d :: r, e :: q, hl, hr, hq => by
    have hl' : r.length = q.length := by simpa using hl
    rw [HT.lexLt_cons]
    by_cases c : e = d
    · subst c
      rw [if_pos rfl]
      have := code_le hl' hr.tail hq.tail
      rw [← this]
      have := code_same (B := B) (d := e) hl'.symm
      omega
    · rw [if_neg c]
      rcases Int.lt_or_gt_of_ne c with c | c
      · have := code_lt hl'.symm hq.tail hr.tail c
        rw [decide_eq_true c]
        constructor
        · intro z; omega
        · intro z; cases z
      · have := code_lt hl' hr.tail hq.tail c
        rw [decide_eq_false (by omega)]
        constructor
        · intro z; rfl
        · intro z; omega
end TS
namespace Ev
open PySem PySem.Spec L2

/-! ### rows of ints in order -/
def rowOf : D → List Int
  | .tuple xs => (intsOf xs).getD []
  | _ => []
def ltD (x y : D) : Bool := HT.lexLt (rowOf x) (rowOf y)
def insD (x : D) : List D → List D
  | [] => [x]
  | y :: r => if ltD y x then y :: insD x r else x :: y :: r
def sortD : List D → List D
  | [] => []
  | x :: r => insD x (sortD r)
theorem insD_perm (x : D) : ∀ xs : List D, (insD x xs).Perm (x :: xs)
  | [] => .refl _
  | y :: r => by
    unfold insD
    by_cases c : ltD y x = true
    · rw [if_pos c]; exact ((insD_perm x r).cons y).trans (.swap x y r)
    · rw [if_neg c]
theorem sortD_perm : ∀ xs : List D, (sortD xs).Perm xs
  | [] => .refl _
  | x :: r => (insD_perm x _).trans ((sortD_perm r).cons x)
theorem lexLt_trans : ∀ {a b c : List Int}, HT.lexLt b a = false → HT.lexLt c b = false → a.length = b.length → b.length = c.length → HT.lexLt c a = false
  | [], [], [], _, _, _, _ => rfl
  | x :: a, y :: b, z :: c, h1, h2, l1, l2 => by
    rw [HT.lexLt_cons] at h1 h2 ⊢
    by_cases e1 : y = x
    · subst e1
      rw [if_pos rfl] at h1
      by_cases e2 : z = y
      · subst e2
        rw [if_pos rfl] at h2
        rw [if_pos rfl]
        exact lexLt_trans h1 h2 (by simpa using l1) (by simpa using l2)
      · rw [if_neg e2] at h2 ⊢; exact h2
    · rw [if_neg e1] at h1
      have := of_decide_eq_false h1
      by_cases e2 : z = y
      · subst e2
        rw [if_neg e1]
        exact h1
      · rw [if_neg e2] at h2
        have := of_decide_eq_false h2
        by_cases e3 : z = x
        · omega
        · rw [if_neg e3]; exact decide_eq_false (by omega)
theorem lexLt_total : ∀ {a b : List Int}, HT.lexLt b a = true → HT.lexLt a b = false
  | [], [], _ => rfl
  | [], _ :: _, h => by cases h
  | _ :: _, [], _ => rfl
  | x :: a, y :: b, h => by
    rw [HT.lexLt_cons] at h ⊢
    by_cases e : y = x
    · subst e
      rw [if_pos rfl] at h ⊢
      exact lexLt_total h
    · rw [if_neg e] at h
      rw [if_neg (Ne.symm e)]
      have := of_decide_eq_true h
      exact decide_eq_false (by omega)
theorem lexLt_anti : ∀ {a b : List Int}, HT.lexLt b a = false → HT.lexLt a b = false → a.length = b.length → a = b
  | [], [], _, _, _ => rfl
  | x :: a, y :: b, h1, h2, l => by
    rw [HT.lexLt_cons] at h1 h2
    by_cases e : y = x
    · subst e
      rw [if_pos rfl] at h1 h2
      rw [lexLt_anti h1 h2 (by simpa using l)]
    · rw [if_neg e] at h1
      rw [if_neg (Ne.symm e)] at h2
      have := of_decide_eq_false h1
      have := of_decide_eq_false h2
      omega
theorem insD_sorted {d : Nat} {x : D} (hx : (rowOf x).length = d) : ∀ {xs : List D}, (∀ y ∈ xs, (rowOf y).length = d) → xs.Pairwise (fun a b => ltD b a = false) → (insD x xs).Pairwise (fun a b => ltD b a = false)
  | [], _, _ => by unfold insD; exact List.pairwise_singleton _ _
  | y :: r, hl, p => by
    rw [List.pairwise_cons] at p
    unfold insD
    by_cases c : ltD y x = true
    · rw [if_pos c, List.pairwise_cons]
      refine ⟨fun z hz => ?_, insD_sorted hx (fun z hz => hl z (List.mem_cons_of_mem _ hz)) p.2⟩
      rcases List.mem_cons.mp ((insD_perm x r).mem_iff.mp hz) with rfl | hz
      · exact lexLt_total c
      · exact p.1 z hz
    · rw [if_neg c, List.pairwise_cons]
      have c' : ltD y x = false := by simpa using c
      refine ⟨fun z hz => ?_, List.pairwise_cons.mpr p⟩
      rcases List.mem_cons.mp hz with rfl | hz
      · exact c'
      · have hy := hl y List.mem_cons_self
        have hz' := hl z (List.mem_cons_of_mem _ hz)
        exact lexLt_trans c' (p.1 z hz) (by rw [hx, hy]) (by rw [hy, hz'])
theorem sortD_sorted {d : Nat} : ∀ {xs : List D}, (∀ y ∈ xs, (rowOf y).length = d) → (sortD xs).Pairwise (fun a b => ltD b a = false)
  | [], _ => .nil
  | x :: r, hl => insD_sorted (hl x List.mem_cons_self) (fun y hy => hl y (List.mem_cons_of_mem _ ((sortD_perm r).mem_iff.mp hy))) (sortD_sorted fun y hy => hl y (List.mem_cons_of_mem _ hy))
/-- a tuple of d ints, none below 0 -/
def okRow (d : Nat) : D → Bool
  | .tuple xs => match intsOf xs with
    | some ns => decide (ns.length = d) && ns.all fun n => decide (0 ≤ n)
    | none => false
  | _ => false
theorem okRow_eq {d : Nat} {x : D} (h : okRow d x = true) : ∃ ns, x = .tuple (ns.map PyData.int) ∧ rowOf x = ns ∧ ns.length = d ∧ ∀ n ∈ ns, 0 ≤ n := by
  unfold okRow at h
  split at h
  · rename_i xs
    split at h
    · rename_i ns e
      rw [Bool.and_eq_true, decide_eq_true_eq, List.all_eq_true] at h
      refine ⟨ns, by rw [intsOf_eq e], ?_, h.1, fun n hn => of_decide_eq_true (h.2 n hn)⟩
      show (intsOf xs).getD [] = ns
      rw [e]; rfl
    · cases h
  · cases h
def rowLen : List D → Nat
  | .tuple (x :: r) :: _ => r.length + 1
  | _ => 1
def gSort : List D → Option D
  | [.list xs] => if xs.length < 64 ∧ xs.all (okRow (rowLen xs)) = true then some (.list (sortD xs)) else none
  | _ => none
theorem rowLen_pos (xs : List D) : 1 ≤ rowLen xs := by
  unfold rowLen
  split <;> omega
theorem bound_of : ∀ rs : List (List Int), ∃ B : Int, ∀ r ∈ rs, ∀ n ∈ r, n < B
  | [] => ⟨0, fun r h => by cases h⟩
  | r :: rs => by
    obtain ⟨B, h⟩ := bound_of rs
    have : ∀ l : List Int, ∃ C : Int, B ≤ C ∧ ∀ n ∈ l, n < C := by
      intro l
      induction l with
      | nil => exact ⟨B, Int.le_refl _, fun n h => by cases h⟩
      | cons a t ih =>
        obtain ⟨C, h1, h2⟩ := ih
        refine ⟨max C (a + 1), by omega, fun n hn => ?_⟩
        rcases List.mem_cons.mp hn with rfl | hn
        · omega
        · have := h2 n hn; omega
    obtain ⟨C, h1, h2⟩ := this r
    refine ⟨C, fun q hq n hn => ?_⟩
    rcases List.mem_cons.mp hq with rfl | hq
    · exact h2 n hn
    · have := h q hq n hn; omega
def rSortA (K : PySem.W.Frag) : List V → Hp → VK → Prop := fun vs H Q => ∃ (d : Nat) (B : Int), 1 ≤ d ∧ rSortU K d B vs H Q
theorem cr_sortA {X : Cx} : CallR X (.builtin "sorted") (rSortA X.K) := by
  intro pins s σ H vs us Q I r h
  obtain ⟨d, B, hd, h⟩ := h
  exact cr_sortT hd pins s σ H vs us Q I r h
theorem dp_row {K : PySem.W.Frag} {M : Hp} {v : V} {ns : List Int} (h : Dp K M v (.tuple (ns.map PyData.int))) : TupI K M v ns := by
  cases h with
  | tup h a =>
    have := DpAll.ofInts a
    subst this
    exact ⟨_, rfl, h⟩
theorem pr_sort {K : PySem.W.Frag} : PrN K (rSortA K) gSort := fun O H us xs z Q al dd e k => by
  unfold gSort at e
  split at e
  · rename_i xs
    obtain ⟨⟨c1, c2⟩, rfl⟩ := ite_some e
    rw [List.all_eq_true] at c2
    cases dd with
    | cons d t =>
      cases t
      cases d with
      | @lst a vs _ h da =>
        obtain ⟨B, hB⟩ := bound_of (xs.map rowOf)
        have hB' : ∀ x ∈ xs, TS.Bd B (rowOf x) := fun x hx m hm => by
          obtain ⟨ns, _, e2, _, e4⟩ := okRow_eq (c2 x hx)
          exact ⟨e4 m (e2 ▸ hm), hB _ (List.mem_map.mpr ⟨x, hx, rfl⟩) m hm⟩
        have da' : DpAll K H vs xs := DpAll.same (fz_same H O) da
        refine ⟨rowLen xs, B, rowLen_pos xs, _, _, rfl, SqL.same (fz_same H O) h, by rw [da.length]; exact c1, fun x hx => ?_, fun ys p hp hs hf => ?_⟩
        · obtain ⟨d, hd, dp⟩ := da'.mem' hx
          obtain ⟨ns, e1, e2, e3, _⟩ := okRow_eq (c2 d hd)
          rw [e1] at dp
          exact ⟨ns, dp_row dp, e3, e2 ▸ hB' d hd⟩
        · obtain ⟨es, d1, d2⟩ := DpAll.perm hp da
          have d1' : DpAll K H ys es := DpAll.same (fz_same H O) d1
          have he : ∀ x ∈ es, okRow (rowLen xs) x = true := fun x hx => c2 x (d2.mem_iff.mp hx)
          have s1 : es.Pairwise fun a b => okRow (rowLen xs) a = true → okRow (rowLen xs) b = true → TS.Bd B (rowOf a) → TS.Bd B (rowOf b) → ltD b a = false := by
            refine DpAll.pair (fun u v d e h1 h2 hr o1 o2 b1 b2 => ?_) d1' hs
            obtain ⟨ns, e1, e2, e3, _⟩ := okRow_eq o1
            obtain ⟨ms, f1, f2, f3, _⟩ := okRow_eq o2
            rw [e1] at h1
            rw [f1] at h2
            have := hr ns ms (dp_row h1) (dp_row h2)
            rw [e2] at b1
            rw [f2] at b2
            have := (TS.code_le (by rw [e3, f3]) b1 b2).mp this
            unfold ltD
            rw [e2, f2]
            exact this
          have s2 : es.Pairwise fun a b => ltD b a = false := by
            refine List.Pairwise.imp_of_mem (fun {a b} ha hb h => ?_) s1
            exact h (he a ha) (he b hb) (hB' a (d2.mem_iff.mp ha)) (hB' b (d2.mem_iff.mp hb))
          have len : ∀ x ∈ xs, (rowOf x).length = rowLen xs := fun x hx => by
            obtain ⟨ns, _, e2, e3, _⟩ := okRow_eq (c2 x hx)
            rw [e2]; exact e3
          have s3 := sortD_sorted len
          have ee : es = sortD xs := by
            refine List.Perm.eq_of_pairwise (fun a b ha hb h1 h2 => ?_) s2 s3 (d2.trans (sortD_perm xs).symm)
            have ma := d2.mem_iff.mp ha
            have mb := (sortD_perm xs).mem_iff.mp hb
            obtain ⟨ns, e1, e2, e3, _⟩ := okRow_eq (c2 a ma)
            obtain ⟨ms, f1, f2, f3, _⟩ := okRow_eq (c2 b mb)
            have := lexLt_anti h1 h2 (by rw [len a ma, len b mb])
            rw [e2, f2] at this
            rw [e1, f1, this]
          rw [ee] at d1
          obtain ⟨s, dn⟩ := new_lst al d1 hf
          exact k _ _ s dn
  · cases e

/-! ### methods -/
section
variable {X : Cx} {W : WX} {o e : Expr} {es : List Expr} {fo fe : XT D} {fes : XT (List D)} {pos apos cpos : Pos} {name : Str}
def PrM (K : PySem.W.Frag) (r : V → List V → Hp → VK → Prop) (g : D → List D → Option D) : Prop := ∀ (O : List Addr) (H : Hp) (u : V) (us : List V) (x : D) (xs : List D) (z : D) (Q : VK), (∀ a ∈ O, H a ≠ none) → Dp K (fz H O) u x → DpAll K (fz H O) us xs → g x xs = some z →
  (∀ w H', Same H H' → Dp K (fz H' O) w z → Q w H') → r u us H Q
def vMeth (c : D → Bool) (g : D → List D → Option D) (fo : XT D) (fa : XT (List D)) : XT D := fun δ => (fo δ).bind fun p => if c p.1 then (fa p.2).bind fun q => (Rs.of (g p.1 q.1)).bind fun z => .ok (z, q.2) else .no
theorem de_meth {T id : String} {r : V → List V → Hp → VK → Prop} {g : D → List D → Option D} {c : D → Bool} (pa : PlainAttrs T) (slot : Slot T name id) (hty : typeOf (.builtin id) = pure (.type "method_descriptor")) (hm : MtR X id r) (hp : PrM X.K r g)
    (ht : ∀ (M : Hp) (v : V) (d : D), Dp X.K M v d → c d = true → tyV X.K T v M) (ho : DE X W o fo) (ha : DA X W (e :: es) fes)
    (hs : starEach (e :: es) X.env = (false, eval e X.env) :: starEach es X.env := by rfl)
    (hbase : attributeBase o name X.env (eval o X.env) = eval o X.env := by rfl)
    (hfew : ((backTo cpos (starEach (e :: es) X.env)).all (fun x => !x.1) && (backToKw cpos (keywordEach [] X.env)).all (fun x => x.1.isSome)
      && decide ((e :: es).length + ([] : List Keyword).length + (if ([] : List Keyword).isEmpty then 0 else 1) < 30)) = true := by rfl)
    (hline : (apos.endLine == cpos.line) = true := by rfl) (hpl : (backTo cpos (starEach es X.env)).any (·.1) = false := by rfl) :
    DE X W (.Call (.Attribute o name apos) (e :: es) [] cpos) (vMeth c g fo fes) := by
  obtain ⟨t1, p1, q1⟩ := ho
  obtain ⟨t2, p2, q2⟩ := ha
  refine ⟨_, pe_bm pa slot hty hm p1 p2 hbase hfew hline hs hpl, fun G O δ σ H Q sr an => ?_⟩
  refine q1 G O δ σ H _ sr (an.seq fun x δ1 v H1 O1 _ sr1 g1 d1 a1 => ?_)
  dsimp only at a1
  by_cases hc : c x = true
  · rw [if_pos hc] at a1
    refine ⟨ht H1 v x (Dp.same (fz_same H1 O1) d1) hc, q2 G O1 δ1 σ H1 _ sr1 (a1.seq fun xs δ2 vs H2 O2 _ sr2 g2 d2 a2 => ?_)⟩
    obtain ⟨z, ez, k⟩ := ans_of sr2 a2
    exact hp O2 H2 v vs x xs z Q sr2.alive (Dp.same g2 d1) d2 ez k
  · rw [if_neg hc] at a1; exact a1.elim
def isS : D → Bool
  | .str _ => true
  | _ => false
def isL : D → Bool
  | .list _ => true
  | _ => false
theorem ty_str {K : PySem.W.Frag} (M : Hp) (v : V) (d : D) (h : Dp K M v d) (c : isS d = true) : tyV K "str" v M := by
  cases h <;> first | rfl | cases c
theorem ty_lst {K : PySem.W.Frag} (M : Hp) (v : V) (d : D) (h : Dp K M v d) (c : isL d = true) : tyV K "list" v M := by
  cases h with
  | lst h a => exact .inl ⟨rfl, _, h⟩
  | _ => cases c
/-- the texts of a list -/
def strsOf : List D → Option (List Str)
  | [] => some []
  | .str i :: r => (strsOf r).map (i :: ·)
  | _ :: _ => none
theorem strsOf_eq : ∀ {ds : List D} {ns : List Str}, strsOf ds = some ns → ds = ns.map PyData.str
  | [], ns, h => by cases h; rfl
  | .str i :: r, ns, h => by
    unfold strsOf at h
    cases e : strsOf r with
    | none => rw [e] at h; cases h
    | some m => rw [e] at h; cases h; rw [strsOf_eq e]; rfl
  | .none :: _, _, h => by cases h
  | .bool _ :: _, _, h => by cases h
  | .int _ :: _, _, h => by cases h
  | .list _ :: _, _, h => by cases h
  | .tuple _ :: _, _, h => by cases h
  | .dict _ :: _, _, h => by cases h
theorem ofStrs {K : PySem.W.Frag} {H : Hp} : ∀ {vs : List V} {ns : List Str}, DpAll K H vs (ns.map PyData.str) → vs = ns.map V.str
  | _, [], h => by cases h; rfl
  | _, n :: ns, h => by
    cases h with
    | cons a b => cases a; rw [ofStrs b]; rfl
theorem dp_strs {K : PySem.W.Frag} {H : Hp} : ∀ {ns : List Str}, DpAll K H (ns.map V.str) (ns.map PyData.str)
  | [] => .nil
  | n :: ns => .cons (.str n) dp_strs
def gJoin : D → List D → Option D
  | .str a, [.list ys] => (strsOf ys).bind fun zs => if (zs.map (·.length)).sum + zs.length * a.length ≤ 16777216 then some (.str (Txt.join a zs)) else none
  | _, _ => none
def rJoin (K : PySem.W.Frag) : V → List V → Hp → VK → Prop := fun x xs H Q => ∃ a p, ∃ ys : List Str, x = .str a ∧ xs = [.ref p] ∧ (SqL K H p (ys.map V.str) ∨ SqT K H p (ys.map V.str)) ∧
    (ys.map (·.length)).sum + ys.length * a.length ≤ 16777216 ∧ Q (.str (Txt.join a ys)) H
theorem pr_join {K : PySem.W.Frag} : PrM K (rJoin K) gJoin := fun O H u us x xs z Q al d1 d2 e k => by
  unfold gJoin at e
  split at e
  · rename_i a ys
    cases es : strsOf ys with
    | none => rw [es] at e; cases e
    | some zs =>
      rw [es] at e
      obtain ⟨c, rfl⟩ := ite_some e
      have := strsOf_eq es
      subst this
      cases d1
      cases d2 with
      | cons d t =>
        cases t
        cases d with
        | lst h da =>
          have := ofStrs da
          subst this
          exact ⟨a, _, zs, rfl, rfl, .inl (SqL.same (fz_same H O) h), c, k _ H (Same.refl H) (.str _)⟩
  · cases e
def gSplit : D → List D → Option D
  | .str a, [.str b] => if (b.length == 0) = false ∧ a.length + 2 ≤ sizeLine then some (.list ((Txt.split a b).map .str)) else none
  | _, _ => none
theorem pr_split {K : PySem.W.Frag} : PrM K (fun x xs H Q => ∃ a b, x = .str a ∧ xs = [.str b] ∧ (b.length == 0) = false ∧ a.length + 2 ≤ sizeLine ∧ rNewStrs (Txt.split a b) H Q) gSplit := fun O H u us x xs z Q al d1 d2 e k => by
  unfold gSplit at e
  split at e
  · obtain ⟨c, rfl⟩ := ite_some e
    cases d1
    cases d2 with
    | cons d t =>
      cases t
      cases d
      refine ⟨_, _, rfl, rfl, c.1, c.2, fun p hp => ?_⟩
      obtain ⟨s, dn⟩ := new_lst al dp_strs hp
      exact k _ _ s dn
  · cases e
def gIndex : D → List D → Option D
  | .list ds, [d] => if SeqAt.shaped (.list ds) = true ∧ SeqAt.shaped d = true then (ds.findIdx? fun z => PyData.eqv z d).map fun j => .int (j : Nat) else none
  | _, _ => none
theorem pr_index {K : PySem.W.Frag} : PrM K (rIndexD K) gIndex := fun O H u us x xs z Q al d1 d2 e k => by
  unfold gIndex at e
  split at e
  · rename_i ds d
    by_cases c : SeqAt.shaped (.list ds) = true ∧ SeqAt.shaped d = true
    · rw [if_pos c] at e
      cases ej : ds.findIdx? fun z => PyData.eqv z d with
      | none => rw [ej] at e; cases e
      | some j =>
        rw [ej] at e
        cases e
        obtain ⟨hj, h1, h2⟩ := List.findIdx?_eq_some_iff_getElem.mp ej
        cases d2 with
        | cons dy t =>
          cases t
          cases d1 with
          | lst h da =>
            refine ⟨_, _, d, ds, j, ds[j], rfl, rfl, Dp.same (fz_same H O) (.lst h da), Dp.same (fz_same H O) dy, c.1, c.2, List.getElem?_eq_getElem hj, h1, fun m z' hm ez => ?_, k _ H (Same.refl H) (.int _)⟩
            have hm' : m < ds.length := by omega
            rw [List.getElem?_eq_getElem hm'] at ez
            cases ez
            simpa using h2 m hm
    · rw [if_neg c] at e; cases e
  · cases e
theorem de_join (ho : DE X W o fo) (ha : DA X W [e] fes) (hs : starEach [e] X.env = (false, eval e X.env) :: starEach [] X.env := by rfl)
    (hbase : attributeBase o "join" X.env (eval o X.env) = eval o X.env := by rfl)
    (hfew : ((backTo cpos (starEach [e] X.env)).all (fun x => !x.1) && (backToKw cpos (keywordEach [] X.env)).all (fun x => x.1.isSome)
      && decide (([e] : List Expr).length + ([] : List Keyword).length + (if ([] : List Keyword).isEmpty then 0 else 1) < 30)) = true := by rfl)
    (hline : (apos.endLine == cpos.line) = true := by rfl) (hpl : (backTo cpos (starEach [] X.env)).any (·.1) = false := by rfl) : DE X W (.Call (.Attribute o "join" apos) [e] [] cpos) (vMeth isS gJoin fo fes) :=
  de_meth PySem.F.plainAttrs_str PySem.F.slot_str_join PySem.F.type_str_join mt_join pr_join ty_str ho ha hs hbase hfew hline hpl
theorem de_split (ho : DE X W o fo) (ha : DA X W [e] fes) (hs : starEach [e] X.env = (false, eval e X.env) :: starEach [] X.env := by rfl)
    (hbase : attributeBase o "split" X.env (eval o X.env) = eval o X.env := by rfl)
    (hfew : ((backTo cpos (starEach [e] X.env)).all (fun x => !x.1) && (backToKw cpos (keywordEach [] X.env)).all (fun x => x.1.isSome)
      && decide (([e] : List Expr).length + ([] : List Keyword).length + (if ([] : List Keyword).isEmpty then 0 else 1) < 30)) = true := by rfl)
    (hline : (apos.endLine == cpos.line) = true := by rfl) (hpl : (backTo cpos (starEach [] X.env)).any (·.1) = false := by rfl) : DE X W (.Call (.Attribute o "split" apos) [e] [] cpos) (vMeth isS gSplit fo fes) :=
  de_meth PySem.F.plainAttrs_str PySem.F.slot_str_split PySem.F.type_str_split mt_split pr_split ty_str ho ha hs hbase hfew hline hpl
theorem de_index (hu : X.A.units + 65 < cLine) (ho : DE X W o fo) (ha : DA X W [e] fes) (hs : starEach [e] X.env = (false, eval e X.env) :: starEach [] X.env := by rfl)
    (hbase : attributeBase o "index" X.env (eval o X.env) = eval o X.env := by rfl)
    (hfew : ((backTo cpos (starEach [e] X.env)).all (fun x => !x.1) && (backToKw cpos (keywordEach [] X.env)).all (fun x => x.1.isSome)
      && decide (([e] : List Expr).length + ([] : List Keyword).length + (if ([] : List Keyword).isEmpty then 0 else 1) < 30)) = true := by rfl)
    (hline : (apos.endLine == cpos.line) = true := by rfl) (hpl : (backTo cpos (starEach [] X.env)).any (·.1) = false := by rfl) : DE X W (.Call (.Attribute o "index" apos) [e] [] cpos) (vMeth isL gIndex fo fes) :=
  de_meth PySem.F.plainAttrs_list PySem.F.slot_list_index PySem.F.type_list_index (mt_indexD hu) pr_index ty_lst ho ha hs hbase hfew hline hpl
/-! ### f-strings -/
def asS : D → Option Str
  | .str b => some b
  | _ => none
theorem asS_eq {d : D} {k : Str} (h : asS d = some k) : d = .str k := by
  cases d <;> first | (cases h; rfl) | cases h
def gFmt : D → Option D
  | .str y => if y.length ≤ sizeLine then some (.str y) else none
  | .int i => if i.natAbs.log2 < 1920 then some (.str (toString i)) else none
  | _ => none
theorem de_fmt (h : DE X W e fe) : DE X W (.FormattedValue e (-1) none pos) (vUn gFmt fe) := by
  obtain ⟨t, p, q⟩ := h
  refine ⟨_, pe_fmt p, fun G O δ σ H Q sr an => ?_⟩
  refine q G O δ σ H _ sr (an.seq fun x δ1 v H1 O1 _ sr1 g1 d1 a1 => ?_)
  obtain ⟨z, ez, k⟩ := ans_of sr1 a1
  dsimp only at ez
  have d1' : Dp X.K (fz H1 O1) v x := d1
  cases x with
  | str y =>
    obtain ⟨c, rfl⟩ := ite_some ez
    cases d1'
    exact .inl ⟨y, rfl, c, k _ H1 (Same.refl _) (.str _)⟩
  | int i =>
    obtain ⟨c, rfl⟩ := ite_some ez
    cases d1'
    exact .inr ⟨i, rfl, c, k _ H1 (Same.refl _) (.str _)⟩
  | _ => cases ez
def DJ (X : Cx) (W : WX) (es : List Expr) (f : Str → XT Str) : Prop :=
  ∃ ts, PJ X es ts ∧ ∀ G O δ σ H acc Q, SR (fr X G) O δ σ H → AnsG X W G O σ H OkE (f acc δ) Q → tJs ts acc σ H Q
theorem dj_nil : DJ X W [] (fun acc δ => .ok (acc, δ)) := ⟨_, .nil, fun G O δ σ H acc Q sr an => an acc H O sr (Same.refl _) rfl⟩
def vJ (fe : XT D) (f : Str → XT Str) : Str → XT Str := fun acc δ => (fe δ).bind fun p => (Rs.of (asS p.1)).bind fun y => if (acc ++ y).length ≤ sizeLine then f (acc ++ y) p.2 else .no
theorem dj_cons {f : Str → XT Str} (h : DE X W e fe) (r : DJ X W es f) : DJ X W (e :: es) (vJ fe f) := by
  obtain ⟨t, p, q⟩ := h
  obtain ⟨ts, ps, qs⟩ := r
  refine ⟨_, .cons p ps, fun G O δ σ H acc Q sr an => ?_⟩
  refine q G O δ σ H _ sr (an.seq fun x δ1 v H1 O1 _ sr1 g1 d1 a1 => ?_)
  obtain ⟨y, ey, a1⟩ := AnsG.ofO a1
  have := asS_eq ey
  subst this
  cases d1
  by_cases c : (acc ++ y).length ≤ sizeLine
  · rw [if_pos c] at a1
    exact ⟨y, rfl, c, qs G O1 δ1 σ H1 _ Q sr1 a1⟩
  · rw [if_neg c] at a1; exact a1.elim
theorem de_joined {v1 v2 : Expr} {rest : List Expr} {f : Str → XT Str} (h : DJ X W (v1 :: v2 :: rest) f) : DE X W (.JoinedStr (v1 :: v2 :: rest) pos) (fun δ => (f Str.empty δ).bind fun p => .ok (.str p.1, p.2)) := by
  obtain ⟨ts, p, q⟩ := h
  refine ⟨_, pe_joined p, fun G O δ σ H Q sr an => ?_⟩
  refine q G O δ σ H _ _ sr (an.seq fun x δ1 v H1 O1 _ sr1 g1 d1 a1 => ?_)
  obtain rfl : v = x := d1
  exact a1 _ H1 O1 sr1 (Same.refl _) (.str _)
theorem de_joined1 (h : DE X W e fe) : DE X W (.JoinedStr [e] pos) fe := by
  obtain ⟨t, p, q⟩ := h
  exact ⟨t, pe_joined1 p, q⟩
/-! ### slices of texts, their signs -/
theorem de_slS {lo hi : Option Expr} {fl fh : XT (Option Int)} {p2 : Pos} (ha : DE X W e fe) (hl : DO X W lo fl) (hh : DO X W hi fh) : DE X W (.Subscript e (.Slice lo hi none p2) pos) (vSl gSlS fe fl fh) := by
  obtain ⟨ta, pa, qa⟩ := ha
  obtain ⟨tl, pl, ql⟩ := hl
  obtain ⟨th, ph, qh⟩ := hh
  refine ⟨_, pe_slice sl_str pa pl ph, fun G O δ σ H Q sr an => ?_⟩
  refine qa G O δ σ H _ sr (an.seq fun x δ1 v H1 O1 _ sr1 g1 d1 a1 => ql G O1 δ1 σ H1 _ sr1 (a1.seq fun l δ2 l' H2 O2 _ sr2 g2 d2 a2 => qh G O2 δ2 σ H2 _ sr2 (a2.seq fun h δ3 h' H3 O3 _ sr3 g3 d3 a3 => ?_)))
  obtain rfl : l' = l := d2
  obtain rfl : h' = h := d3
  obtain ⟨z, ez, k⟩ := ans_of sr3 a3
  have d1' : Dp X.K (fz H1 O1) v x := d1
  dsimp only at ez
  cases x with
  | str y =>
    obtain ⟨c, rfl⟩ := ite_some ez
    cases d1'
    exact ⟨y, rfl, c, k _ H3 (Same.refl _) (.str _)⟩
  | _ => cases ez
def signs (z : Str) : List D := z.cps.toList.map fun c => PyData.str ⟨#[c]⟩
def vSigns (fl : XT D) : XT (List D) := fun δ => (fl δ).bind fun p => (Rs.of (asS p.1)).bind fun x => .ok (signs x, p.2)
theorem di_str {tg : Expr} (h : DE X W e fe) : DI X W tg e (vSigns fe) := by
  obtain ⟨t, p, q⟩ := h
  refine ⟨_, pi_str p, fun G O δ σ H R sr an => ?_⟩
  refine q G O δ σ H _ sr (an.seq fun x δ1 v H1 O1 _ sr1 g1 d1 a1 => ?_)
  obtain ⟨z, ez, a1⟩ := AnsG.ofO a1
  have := asS_eq ez
  subst this
  cases d1
  refine ⟨z, rfl, a1 _ H1 O1 sr1 (Same.refl _) fun H' O' s al i => ⟨fun d ed => ?_, fun hi => ?_⟩⟩
  · unfold signs at ed
    rw [List.getElem?_map] at ed
    cases ec : z.cps.toList[i]? with
    | none => rw [ec] at ed; cases ed
    | some c =>
      rw [ec] at ed
      cases ed
      have ec' : z.cps[i]? = some c := by rw [← Array.getElem?_toList]; exact ec
      refine ⟨?_, fun x H2 hy => ?_⟩
      · have := (Array.getElem?_eq_some_iff.mp ec').1
        exact this
      · obtain ⟨rfl, c', e', rfl⟩ := hy
        rw [ec'] at e'
        cases e'
        exact ⟨Same.refl _, .str _⟩
  · unfold signs at hi
    show z.cps.size ≤ i
    simpa using hi
end
end Ev
set_option maxHeartbeats 200000
/-! E13: assignments to several targets by data. Own work. -/
namespace Ev
open PySem PySem.Spec L2

/-! ### a list, unpacked -/
section
variable {prog : Program} {w : World} {A : Around} {E : Value → Shared → Prop} {s : Shared}
theorem draw_list {it t : Addr} {items : Array Value} (hne : t ≠ it) : ∀ (n i : Nat) (s : Shared) (Q : List Value → Shared → Prop), s.heap.IsListIter it t i → s.heap.IsList t items → i + n ≤ items.size →
    (∀ h', h'.IsListIter it t (i + n) → Heap.SameBut it s.heap h' → Q ((items.toList.drop i).take n) { s with heap := h' }) → wpAny (model prog w) A (draw (.ref it) n) Q E s
  | 0, i, s, Q, hit, _, _, hQ => by
    show wpAny _ _ (pure []) Q E s
    exact wpAny_pure (by simpa using hQ s.heap hit (Heap.SameBut.refl ..))
  | n + 1, i, s, Q, hit, ht, hle, hQ => by
    have hlt : i < items.size := by omega
    show wpAny _ _ (pyNext (.ref it) >>= _) Q E s
    refine wpAny_bind (wpAny_pyNext_list_item hit ht (x := items[i]) (by simp [hlt]) fun h₁ hit₁ hs₁ => ?_)
    have ht₁ : h₁.IsList t items := by
      obtain ⟨o, e, r⟩ := ht
      exact ⟨o, (hs₁.2 t hne).trans e, r⟩
    refine wpAny_bind (wpAny_holding (draw_list hne n (i + 1) _ _ hit₁ ht₁ (by omega) fun h₂ hit₂ hs₂ => wpAny_pure ?_))
    have hd : items.toList.drop i = items[i] :: items.toList.drop (i + 1) := by simp [List.drop_eq_getElem_cons, hlt]
    have := hQ h₂ (by rw [show i + (n + 1) = i + 1 + n by omega]; exact hit₂) (hs₁.trans hs₂)
    rw [hd, List.take_succ_cons] at this
    exact this
theorem unpackItems_list {t : Addr} {items : Array Value} {Q : List Value → Shared → Prop} (hh : A.handled = none) (ht : s.heap.IsList t items)
    (hQ : ∀ h', (∀ b o, s.heap.get? b = some o → h'.get? b = some o) → Q items.toList { s with heap := h' }) : wpAny (model prog w) A (unpackItems (.ref t) items.size none) Q E s := by
  have hlt : t ≠ s.heap.objs.size := by obtain ⟨o, ho, _⟩ := ht; exact Nat.ne_of_lt (Heap.lt_size ho)
  unfold unpackItems
  refine wpAny_bind ?_
  unfold notIterableAtAll
  refine wpAny_bind (wpAny_specialOf ht.typeIs slot_list_iter.lookup ?_)
  refine wpAny_pure ?_
  simp only [Bool.false_eq_true, if_false]
  refine wpAny_bind (wpAny_holding (wpAny_pyIter_list ht ?_))
  refine wpAny_bind (wpAny_holding (draw_list hlt items.size 0 _ _ ⟨_, Heap.get?_push_size _ rfl, rfl, rfl⟩ (ht.push _) (by omega) fun h₁ hit₁ hs₁ => ?_))
  have hall : List.take items.size (List.drop 0 items.toList) = items.toList := by
    rw [List.drop_zero]; exact List.take_of_length_le (by simp)
  rw [hall]
  rw [if_neg (by simp)]
  have ht₁ : h₁.IsList t items := by
    obtain ⟨o, e, r⟩ := (ht.push { cls := .type "list_iterator", data := .fields #[.ref t, .int 0 0] })
    exact ⟨o, (hs₁.2 t hlt).trans e, r⟩
  refine wpAny_bind (wpAny_holding (wpAny_pyNext_list_end hh hit₁ ht₁ (by simp) fun h₂ he₂ => ?_))
  simp only [Option.isSome_none, Bool.false_eq_true, if_false]
  refine wpAny_pure (hQ h₂ fun b o e => ?_)
  have hb : b ≠ s.heap.objs.size := Nat.ne_of_lt (Heap.lt_size e)
  exact he₂ b o hb ((hs₁.2 b hb).trans (Heap.get?_push_of_some _ e))
theorem assign_Tuple_list {env : Env} {elts : List Expr} {x1} {pos : Pos} {t : Addr} {items : Array Value} {Q : Unit → Shared → Prop} (hh : A.handled = none) (ht : s.heap.IsList t items)
    (hn : (assignEach elts env).length = items.size) (hstar : (assignEach elts env).findIdx? (·.1) = none)
    (h : ∀ h', (∀ b o, s.heap.get? b = some o → h'.get? b = some o) → wpAny (model prog w) A (assignInOrder ((assignEach elts env).map (·.2)) items.toList) Q E { s with heap := h' }) :
    wpAny (model prog w) A (assign (.Tuple elts x1 pos) env (.ref t)) Q E s := by
  rw [PyProof.Rows.assign_Tuple]
  refine wpAny_bind (wpAny_standAt ?_)
  unfold unpack
  rw [hn, hstar]
  exact wpAny_bind (wpAny_holding (unpackItems_list hh ht h))
end
def gLstT (K : PySem.W.Frag) (n : Nat) (t : TGs) : TG := fun v σ H Q => ∃ a xs, v = .ref a ∧ SqL K H a xs ∧ xs.length = n ∧ t xs σ H Q
theorem pg_lst {X : Cx} {es : List Expr} {k : Nat} {t : TGs} {n : Nat} {pos : Pos} (hc : X.calm = true) (h : PGs X es t)
    (hn : (assignEach es X.env).length = n := by rfl) (hst : (assignEach es X.env).findIdx? (·.1) = none := by rfl) : PG X (.Tuple es k pos) (gLstT X.K n t) := by
  refine ⟨fun pins s σ H v u Q I r hw => ?_⟩
  obtain ⟨a, xs, e1, hq, hl, hw⟩ := hw
  subst e1
  cases r
  obtain ⟨its, rv, ht, hz⟩ := I.list hq
  refine assign_Tuple_list (items := its.toArray) (I.ok.hd hc) ht.isList (by simp [hn, ← hl, rv.length]) hst fun h' hx => ?_
  have I1 : Inv X pins σ H { s with heap := h' } := I.kept (t' := s.toks) hx
  exact h.run pins _ σ H xs _ Q I1 (by simpa using rv) hw
def selLst (n : Nat) : D → Option (List D)
  | .list ds => if ds.length = n then some ds else none
  | _ => none
section
variable {X : Cx} {W : WX} {pos : Pos}
theorem dg_lst {es : List Expr} {kk : Nat} {is : List Nat} (hc : X.calm = true) (h : DGs X es is) (hn : (assignEach es X.env).length = is.length := by rfl) (hst : (assignEach es X.env).findIdx? (·.1) = none := by rfl) :
    DG X (.Tuple es kk pos) is (selLst is.length) := by
  obtain ⟨t, p, q⟩ := h
  refine ⟨_, pg_lst hc p hn hst, fun σ H O v d ds Q e hd k => ?_⟩
  cases d with
  | list xs =>
    obtain ⟨c, rfl⟩ := ite_some e
    cases hd with
    | lst hs ha => exact ⟨_, _, rfl, SqL.same (fz_same H O) hs, by rw [ha.length]; exact c, q σ H _ Q (by rw [ha.length]; exact c) (k _ ha)⟩
  | _ => cases e

/-! ### (a, b) = e -/
def sUnp (is : List Nat) (sel : D → Option (List D)) (fe : XT D) : SX := fun δ => (fe δ).bind fun p => (Rs.of (sel p.1)).bind fun ds => (Rs.of (putD is ds p.2)).bind fun δ' => .ok (.nx, δ')
theorem ds_unp {tg e : Expr} {fe : XT D} {is : List Nat} {sel : D → Option (List D)} (he : DE X W e fe) (hg : DG X tg is sel) (hs : swapsWithSole [tg] e pos.line X.env = pure false := by rfl) (hw : swappedStores [tg] e X.env = pure none := by rfl)
    (h1 : (assignEach [tg] X.env).map (·.2) = [assign tg X.env] := by rfl) : DS X W (.Assign [tg] e pos) (sUnp is sel fe) := by
  obtain ⟨t, p, q⟩ := he
  obtain ⟨t2, p2, q2⟩ := hg
  refine ⟨_, ps_asg p p2 hs hw h1, fun G O δ σ H Dn sr an => ?_⟩
  refine q G O δ σ H _ sr (an.ofE (fun _ _ _ h => h) fun y δ1 v H1 O1 _ sr1 g1 d1 a1 => ?_)
  dsimp only at a1
  obtain ⟨ds, e1, a1⟩ := AnsS.ofO a1
  obtain ⟨δ', e2, a1⟩ := AnsS.ofO a1
  exact q2 σ H1 O1 v y ds Dn.nx e1 d1 fun vs dv => a1 _ H1 O1 (SR.putD sr1 dv e2) (Same.refl _)
/-- x, y = a, b -/
def sPar (is : List Nat) (fe : XT (List D)) : SX := fun δ => (fe δ).bind fun p => (Rs.of (putD is p.1 p.2)).bind fun δ' => .ok (.nx, δ')
theorem ds_par (i j : Nat) {x y : Str} {a b : Expr} {fe : XT (List D)} {px py pt : Pos} {kt k2 pt2} (hc : X.calm = true) (hN : X.N.Nodup) (ha : DA X W [a, b] fe) (hij : i ≠ j := by decide) (hi : X.N[i]? = some x := by rfl) (hj : X.N[j]? = some y := by rfl)
    (hx : X.env.scope.names.lookup x = some .local := by rfl) (hy : X.env.scope.names.lookup y = some .local := by rfl)
    (hw : swappedStores [.Tuple [.Name x px, .Name y py] kt pt] (.Tuple [a, b] k2 pt2) X.env = pure (some [x, y]) := by rfl)
    (hs : swapsWithSole [.Tuple [.Name x px, .Name y py] kt pt] (.Tuple [a, b] k2 pt2) pos.line X.env = pure false := by rfl) :
    DS X W (.Assign [.Tuple [.Name x px, .Name y py] kt pt] (.Tuple [a, b] k2 pt2) pos) (sPar [i, j] fe) := by
  obtain ⟨t, p, q⟩ := ha
  refine ⟨_, ps_par hc hN hi hj hij hx hy p hw hs, fun G O δ σ H Dn sr an => ?_⟩
  refine q G O δ σ H _ sr (an.ofE (fun _ _ _ h => h) fun ds δ1 vs H1 O1 _ sr1 g1 d1 a1 => ?_)
  dsimp only at a1
  obtain ⟨δ', e2, a1⟩ := AnsS.ofO a1
  have d1' : DpAll X.K (fz H1 O1) vs ds := d1
  have hl : ds.length = 2 := by
    have : ∀ (ds : List D) δ δ', putD [i, j] ds δ = some δ' → ds.length = 2 := by
      intro ds δ δ' h
      match ds, h with
      | [], h => cases h
      | [_], h =>
        unfold putD at h
        split at h
        · cases h
        · cases h
      | [_, _], _ => rfl
      | _ :: _ :: _ :: _, h =>
        unfold putD at h
        split at h
        · unfold putD at h
          split at h
          · cases h
          · cases h
        · cases h
    exact this _ _ _ e2
  have hv : vs.length = 2 := by rw [d1'.length]; exact hl
  match vs, hv, d1' with
  | [v, w], _, d1' => exact ⟨v, w, rfl, a1 _ H1 O1 (SR.putD sr1 d1' e2) (Same.refl _)⟩
/-- code that is never come to -/
def sNo : SX := fun _ => .no
theorem ds_no {st : Stmt} : DS X W st sNo := ⟨_, ps_never, fun G O δ σ H Dn sr an => an.elim⟩
/-! ### x[e1], y[e2] = a, b -/
def st1 (i : Nat) (fi : XT D) (v : D) : XT Unit := fun δ => (Rs.of (lstAt i δ)).bind fun _ => (fi δ).bind fun q => (Rs.of (lstAt i q.2)).bind fun xs =>
  (Rs.of (asI q.1)).bind fun k => (Rs.of (ixN xs.length k)).bind fun j => .ok ((), putAt i (xs.set j v) q.2)
def sStore2 (i j : Nat) (f1 f2 : XT D) (fe : XT (List D)) : SX := fun δ => (fe δ).bind fun p => match p.1 with
  | [v, w] => (st1 i f1 v p.2).bind fun q => (st1 j f2 w q.2).bind fun r => .ok (.nx, r.2)
  | _ => .no
theorem st1_ans {i : Nat} {fi : XT D} {t2 : TE} (q2 : ∀ G O δ σ H Q, SR (fr X G) O δ σ H → AnsG X W G O σ H (OkV X.K) (fi δ) Q → t2 σ H Q) {G : G0} {O : List Addr} {δ : List Sl} {σ : St} {H : Hp} {Dn : Ends} {k : Unit × List Sl → Rs (Fl × List Sl)} {v : V} {y : D} {Q : Hp → Prop}
    (sr : SR (fr X G) O δ σ H) (d : Dp X.K (fz H O) v y) (a1 : AnsS X W G O H ((st1 i fi y δ).bind k) Dn)
    (h : ∀ δ1 H1 O1, SR (fr X G) O1 δ1 σ H1 → Gr H O H1 O1 → AnsS X W G O1 H1 (k ((), δ1)) Dn → Q H1) :
    tVar i σ H fun o H1 => t2 σ H1 fun iv H2 => (∃ (l : Addr) (xs : List V) (ki : Int) (j : Nat), o = .ref l ∧ iv = .int ki ∧ H2 l = some (.lst xs) ∧ ixN xs.length ki = some j ∧ Q (upd H2 l (.lst (xs.set j v)))) := by
  unfold st1 at a1
  obtain ⟨z0, e0, a1⟩ : ∃ z0, lstAt i δ = some z0 ∧ AnsS X W G O H (((fi δ).bind fun q => (Rs.of (lstAt i q.2)).bind fun xs => (Rs.of (asI q.1)).bind fun k => (Rs.of (ixN xs.length k)).bind fun j => .ok ((), putAt i (xs.set j y) q.2)).bind k) Dn := by
    cases e : lstAt i δ with
    | none => rw [e] at a1; exact a1.elim
    | some z => rw [e] at a1; exact ⟨z, rfl, a1⟩
  obtain ⟨s0, es0, eg0, _⟩ := lstAt_some e0
  obtain ⟨a, vs, eσ, m, pa, qa, mt, _⟩ := sr.mutAt es0 eg0
  refine ⟨_, eσ, ?_⟩
  refine q2 G O δ σ H _ sr ?_
  cases er : fi δ with
  | no => rw [er] at a1; exact a1.elim
  | exc n f => rw [er] at a1; exact fun cls dx H' kk xo => a1 cls dx σ H' kk xo
  | ok p =>
    obtain ⟨kd, δ2⟩ := p
    rw [er] at a1
    intro kv H2 O2 sr2 g2 d2
    have a2 := a1.shift g2
    dsimp only [Rs.bind] at a2
    cases e1 : lstAt i δ2 with
    | none => rw [e1] at a2; exact a2.elim
    | some xs =>
      rw [e1] at a2
      dsimp only [Rs.of, Rs.bind] at a2
      cases ek : asI kd with
      | none => rw [ek] at a2; exact a2.elim
      | some ki =>
        rw [ek] at a2
        dsimp only [Rs.of, Rs.bind] at a2
        cases ej : ixN xs.length ki with
        | none => rw [ej] at a2; exact a2.elim
        | some j =>
          rw [ej] at a2
          dsimp only [Rs.of, Rs.bind] at a2
          obtain ⟨s, es, eg, ep⟩ := lstAt_some e1
          have d2' : Dp X.K (fz H2 O2) kv kd := d2
          have ek' := asI_eq ek
          subst ek'
          obtain rfl := dp_int d2'
          obtain ⟨b, ws, e1', m2, pb, qb, mt2, _⟩ := sr2.mutAt es eg
          rw [eσ] at e1'; cases e1'
          have hlen : ws.length = xs.length := DpAll.length qb
          have dd : Dp X.K (fz H2 O2) v y := Dp.same g2 d
          obtain ⟨sr3, g3⟩ := sr2.mutate (H' := upd H2 a (.lst (ws.set j v))) (ys := xs.set j y) es eg eσ (fun b o eb nb => by rw [upd_ne nb]; exact eb) upd_same (by rw [fz_upd m2]; exact DpAll.set dd j qb)
          rw [ep] at a2
          exact ⟨a, ws, ki, j, rfl, rfl, pb, by rw [hlen]; exact ej, h _ _ O2 sr3 (g2.trans g3) (a2.shift g3)⟩
end
end Ev
namespace Ev
open PySem PySem.Spec L2
section
variable {X : Cx} {W : WX} {pos : Pos}
/-- x[e1], y[e2] = e -/
def sSt2 (i j : Nat) (f1 f2 : XT D) (fe : XT D) : SX := fun δ => (fe δ).bind fun p => match p.1 with
  | .tuple [v, w] => (st1 i f1 v p.2).bind fun q => (st1 j f2 w q.2).bind fun r => .ok (.nx, r.2)
  | _ => .no
theorem st2_go {i j : Nat} {f1 f2 : XT D} {t1 t2 : TE} (q1 : ∀ G O δ σ H Q, SR (fr X G) O δ σ H → AnsG X W G O σ H (OkV X.K) (f1 δ) Q → t1 σ H Q) (q2 : ∀ G O δ σ H Q, SR (fr X G) O δ σ H → AnsG X W G O σ H (OkV X.K) (f2 δ) Q → t2 σ H Q)
    {G : G0} {O : List Addr} {δ : List Sl} {σ : St} {H : Hp} {Dn : Ends} {v1 v2 : V} {y1 y2 : D} (sr : SR (fr X G) O δ σ H) (b1 : Dp X.K (fz H O) v1 y1) (b2 : Dp X.K (fz H O) v2 y2)
    (a1 : AnsS X W G O H ((st1 i f1 y1 δ).bind fun q => (st1 j f2 y2 q.2).bind fun r => .ok (.nx, r.2)) Dn) :
    L2.gSub (tVar i) t1 rSetL v1 σ H fun σ1 H1 => gCons (L2.gSub (tVar j) t2 rSetL) gNil [v2] σ1 H1 Dn.nx := by
  obtain ⟨o, eo, rest⟩ := st1_ans (W := W) q1 sr b1 a1 (Q := fun H3 => gCons (L2.gSub (tVar j) t2 rSetL) gNil [v2] σ H3 Dn.nx) fun δ2 H2 O2 sr2 g2 a2 => by
    obtain ⟨o, eo, rest⟩ := st1_ans (W := W) q2 sr2 (Dp.same g2 b2) a2 (Q := fun H3 => gNil [] σ H3 Dn.nx) fun δ3 H3 O3 sr3 g3 a3 => ⟨rfl, a3 σ H3 O3 sr3 (Same.refl _)⟩
    exact ⟨v2, [], rfl, o, eo, rest⟩
  exact ⟨o, eo, rest⟩
theorem ds_st2 (i j : Nat) {x y : Str} {p1 p2 ppos ppos2 tpos : Pos} {e1 e2 e : Expr} {kk : Nat} {f1 f2 fe : XT D} (hc : X.calm = true) (he : DE X W e fe) (h1 : DE X W e1 f1) (h2 : DE X W e2 f2)
    (hN : X.N[i]? = some x := by rfl) (hv : Vis X.env.scope x := by first | exact Or.inl rfl | exact Or.inr (Or.inl rfl) | exact Or.inr (Or.inr rfl))
    (hN2 : X.N[j]? = some y := by rfl) (hv2 : Vis X.env.scope y := by first | exact Or.inl rfl | exact Or.inr (Or.inl rfl) | exact Or.inr (Or.inr rfl))
    (hd : (x == ("__debug__" : Str)) = false := by decide) (hcd : (x == ("__classdict__" : Str)) = false := by decide)
    (hd2 : (y == ("__debug__" : Str)) = false := by decide) (hcd2 : (y == ("__classdict__" : Str)) = false := by decide)
    (ha : ∀ v, assign (.Subscript (.Name x p1) e1 ppos) X.env v = (do
      let ov ← holding [v] (eval (.Name x p1) X.env)
      let iv ← holding [v, ov] (eval e1 X.env)
      standAt ppos
      holding [v, ov, iv] (setItem ov iv v)
      release [v, ov, iv] []) := by intro _; rfl)
    (ha2 : ∀ v, assign (.Subscript (.Name y p2) e2 ppos2) X.env v = (do
      let ov ← holding [v] (eval (.Name y p2) X.env)
      let iv ← holding [v, ov] (eval e2 X.env)
      standAt ppos2
      holding [v, ov, iv] (setItem ov iv v)
      release [v, ov, iv] []) := by intro _; rfl)
    (hs1 : (assignEach [.Subscript (.Name x p1) e1 ppos, .Subscript (.Name y p2) e2 ppos2] X.env).map (·.2) = assign (.Subscript (.Name x p1) e1 ppos) X.env :: (assignEach [.Subscript (.Name y p2) e2 ppos2] X.env).map (·.2) := by rfl)
    (hs2 : (assignEach [.Subscript (.Name y p2) e2 ppos2] X.env).map (·.2) = assign (.Subscript (.Name y p2) e2 ppos2) X.env :: (assignEach [] X.env).map (·.2) := by rfl)
    (hn : (assignEach [.Subscript (.Name x p1) e1 ppos, .Subscript (.Name y p2) e2 ppos2] X.env).length = 2 := by rfl) (hst : (assignEach [.Subscript (.Name x p1) e1 ppos, .Subscript (.Name y p2) e2 ppos2] X.env).findIdx? (·.1) = none := by rfl)
    (hs : swapsWithSole [.Tuple [.Subscript (.Name x p1) e1 ppos, .Subscript (.Name y p2) e2 ppos2] kk tpos] e pos.line X.env = pure false := by rfl)
    (hw : swappedStores [.Tuple [.Subscript (.Name x p1) e1 ppos, .Subscript (.Name y p2) e2 ppos2] kk tpos] e X.env = pure none := by rfl)
    (h0 : (assignEach [.Tuple [.Subscript (.Name x p1) e1 ppos, .Subscript (.Name y p2) e2 ppos2] kk tpos] X.env).map (·.2) = [assign (.Tuple [.Subscript (.Name x p1) e1 ppos, .Subscript (.Name y p2) e2 ppos2] kk tpos) X.env] := by rfl) :
    DS X W (.Assign [.Tuple [.Subscript (.Name x p1) e1 ppos, .Subscript (.Name y p2) e2 ppos2] kk tpos] e pos) (sSt2 i j f1 f2 fe) := by
  obtain ⟨t, p, q⟩ := he
  obtain ⟨t1, pp1, q1⟩ := h1
  obtain ⟨t2, pp2, q2⟩ := h2
  refine ⟨_, ps_asg p (pg_tup hc (pgs_cons (pg_sub (pe_var hN hv hd hcd) pp1 set_list ha) (pgs_cons (pg_sub (pe_var hN2 hv2 hd2 hcd2) pp2 set_list ha2) pgs_nil hs2) hs1) hn hst) hs hw h0, fun G O δ σ H Dn sr an => ?_⟩
  refine q G O δ σ H _ sr (an.ofE (fun _ _ _ h => h) fun z δ1 v H1 O1 _ sr1 g1 d1 a1 => ?_)
  dsimp only at a1
  have d1' : Dp X.K (fz H1 O1) v z := d1
  split at a1
  · rename_i z' y1 y2
    cases d1' with
    | tup hs da =>
      cases da with
      | cons b1 da =>
        cases da with
        | cons b2 da =>
          cases da
          refine ⟨_, _, rfl, SqT.same (fz_same H1 O1) hs, rfl, _, _, rfl, ?_⟩
          exact st2_go q1 q2 sr1 b1 b2 a1
  · exact a1.elim
end
end Ev
set_option maxHeartbeats 200000
/-! E14: a def's entry and promise, bundled. Own work. -/
namespace Ev
open PySem PySem.Spec L2
open PyProof.Rows (envOfC)

/-- the def that the global gn holds -/
def En (K : PySem.W.Frag) (mg : Str → Option Value) (gn x qual : Str) (st : Stmt) (ps : List Str) : Prop :=
  ∃ f fd, Fun K x qual st f fd ∧ mg gn = some (.ref f) ∧ PySem.W.keepIn K (.ref f) = true ∧ Binds K fd ps []
def ClP (P : Program) (w : World) (K : PySem.W.Frag) (mg : Str → Option Value) (base : Heap) (k : Nat) (gn : Str) (ps : List Str) (g : FX) : Prop :=
  ∃ f fd, FnOk P w K mg base (L2.CX P w) k f fd ps (spP K mg g) ∧ mg gn = some (.ref f) ∧ PySem.W.keepIn K (.ref f) = true ∧ Binds K fd ps []
def ClF (P : Program) (w : World) (K : PySem.W.Frag) (mg : Str → Option Value) (base : Heap) (k : Nat) (gn : Str) (ps : List Str) (g : FL) : Prop :=
  ∃ f fd, FnOk P w K mg base (L2.CX P w) k f fd ps (spF K mg g) ∧ mg gn = some (.ref f) ∧ PySem.W.keepIn K (.ref f) = true ∧ Binds K fd ps []
def ClU (P : Program) (w : World) (K : PySem.W.Frag) (mg : Str → Option Value) (base : Heap) (k : Nat) (gn : Str) (ps : List Str) (g : FU) : Prop :=
  ∃ f fd, FnOk P w K mg base (L2.CX P w) k f fd ps (spU K mg g) ∧ mg gn = some (.ref f) ∧ PySem.W.keepIn K (.ref f) = true ∧ Binds K fd ps []
section
variable {P : Program} {w : World} {K : PySem.W.Frag} {mg : Str → Option Value} {base : Heap} {gn x qual : Str} {st : Stmt} {N ps : List Str} {k : Nat} {g : SX}
theorem cl_P (e : En K mg gn x qual st ps) (S : FnScope N ps (defScope st)) (hps : ps.length ≤ N.length)
    (body : ∀ (f : Addr) (cdv : Value) (A : Around) (outer : List Env) (s : Shared) (H : Hp) (E : XK), Room k (A.deeper (envOfC qual (defScope st) s.heap.objs.size f cdv)) →
      DSs (cxOf (L2.CX P w) P w K mg base N qual (defScope st) f cdv A outer s H E) (WD E) (defBody st) g) : ClP P w K mg base (k + 1) gn ps (fnP ps.length N.length g) := by
  obtain ⟨f, fd, F, h1, h2, h3⟩ := e
  exact ⟨f, fd, fn_P F S hps (body f), h1, h2, h3⟩
theorem cl_F (e : En K mg gn x qual st ps) (S : FnScope N ps (defScope st)) (hps : ps.length ≤ N.length)
    (body : ∀ (f : Addr) (cdv : Value) (A : Around) (outer : List Env) (s : Shared) (H : Hp) (E : XK), Room k (A.deeper (envOfC qual (defScope st) s.heap.objs.size f cdv)) →
      DSs (cxOf (L2.CX P w) P w K mg base N qual (defScope st) f cdv A outer s H E) (WD E) (defBody st) g) : ClF P w K mg base (k + 1) gn ps (fnF ps.length N.length g) := by
  obtain ⟨f, fd, F, h1, h2, h3⟩ := e
  exact ⟨f, fd, fn_F F S hps (body f), h1, h2, h3⟩
theorem cl_U (e : En K mg gn x qual st ps) (S : FnScope N ps (defScope st)) (hps : ps.length ≤ N.length)
    (body : ∀ (f : Addr) (cdv : Value) (A : Around) (outer : List Env) (s : Shared) (H : Hp) (E : XK), Room k (A.deeper (envOfC qual (defScope st) s.heap.objs.size f cdv)) →
      DSs (cxOf (L2.CX P w) P w K mg base N qual (defScope st) f cdv A outer s H E) (WD E) (defBody st) g) : ClU P w K mg base (k + 1) gn ps (fnU ps.length N.length g) := by
  obtain ⟨f, fd, F, h1, h2, h3⟩ := e
  exact ⟨f, fd, fn_U F S hps (body f), h1, h2, h3⟩
end
section
variable {X : Cx} {W : WX} {k : Nat} {ps : List Str} {x : Str} {p pos : Pos} {e : Expr} {es : List Expr}
theorem dcP {g : FX} {fe : XT (List D)} {k' : Nat} (c : ClP X.prog X.w X.K X.mg X.base k x ps g) (hr : Room k' X.A) (hk : k ≤ k') (tk : Takes X W) (ha : DA X W (e :: es) fe) (hg : Gl X x := by rfl)
    (hdb : (x == ("__debug__" : Str)) = false := by decide) (he : starEach (e :: es) X.env = (false, eval e X.env) :: starEach es X.env := by rfl) (hpl : (backTo pos (starEach es X.env)).any (·.1) = false := by rfl) :
    DE X W (.Call (.Name x p) (e :: es) [] pos) (vCall g fe) := by
  obtain ⟨f, fd, F, h1, h2, h3⟩ := c
  exact de_call F (hr.mono hk) tk hg h1 h2 h3 ha hdb he hpl
theorem dcF {g : FL} {fe : XT (List D)} {k' : Nat} (c : ClF X.prog X.w X.K X.mg X.base k x ps g) (hr : Room k' X.A) (hk : k ≤ k') (tk : Takes X W) (ha : DA X W (e :: es) fe) (hg : Gl X x := by rfl)
    (hdb : (x == ("__debug__" : Str)) = false := by decide) (he : starEach (e :: es) X.env = (false, eval e X.env) :: starEach es X.env := by rfl) (hpl : (backTo pos (starEach es X.env)).any (·.1) = false := by rfl) :
    DF X W (.Call (.Name x p) (e :: es) [] pos) (fun δ => (fe δ).bind fun p => (g p.1).bind fun d => .ok (d, p.2)) := by
  obtain ⟨f, fd, F, h1, h2, h3⟩ := c
  exact df_call F (hr.mono hk) tk hg h1 h2 h3 ha hdb he hpl
theorem dcU {i : Nat} {g : FU} {y : Str} {p1 : Pos} {fe : XT (List D)} {k' : Nat} (c : ClU X.prog X.w X.K X.mg X.base k x ps g) (hr : Room k' X.A) (hk : k ≤ k') (tk : Takes X W)
    (ha : DA X W es fe) (hg : Gl X x := by rfl) (hN : X.N[i]? = some y := by rfl) (hv : Vis X.env.scope y := by first | exact Or.inl rfl | exact Or.inr (Or.inl rfl) | exact Or.inr (Or.inr rfl))
    (hd : (y == ("__debug__" : Str)) = false := by decide) (hcd : (y == ("__classdict__" : Str)) = false := by decide)
    (hdb : (x == ("__debug__" : Str)) = false := by decide) (he : starEach (.Name y p1 :: es) X.env = (false, eval (.Name y p1) X.env) :: starEach es X.env := by rfl) (hpl : (backTo pos (starEach es X.env)).any (·.1) = false := by rfl) :
    DE X W (.Call (.Name x p) (.Name y p1 :: es) [] pos) (vCallU i g fe) := by
  obtain ⟨f, fd, F, h1, h2, h3⟩ := c
  exact de_callU F (hr.mono hk) tk hg h1 h2 h3 ha hN hv hd hcd hdb he hpl
/-- a global int, a global text -/
theorem dgI {i : Int} (hm : ∃ t, X.mg x = some (.int i t)) (hg : Gl X x := by rfl) (hd : (x == ("__debug__" : Str)) = false := by decide) : DE X W (.Name x pos) (vC (.int i)) := by
  obtain ⟨t, h⟩ := hm
  exact de_globI hg h hd
theorem dgS {s : Str} (hm : ∃ t, X.mg x = some (.str s t)) (hg : Gl X x := by rfl) (hd : (x == ("__debug__" : Str)) = false := by decide) : DE X W (.Name x pos) (vC (.str s)) := by
  obtain ⟨t, h⟩ := hm
  exact de_globS hg h hd
theorem units1 {A : Around} (r : Room k A) : A.units + 65 < cLine := by have := r.un; omega
variable {fe : XT (List D)}
/-- built-ins -/
theorem bLen (ha : DA X W (e :: es) fe) (hm : X.mg "len" = none) (hg : Gl X "len" := by rfl) (he : starEach (e :: es) X.env = (false, eval e X.env) :: starEach es X.env := by rfl) (hpl : (backTo pos (starEach es X.env)).any (·.1) = false := by rfl) :
    DE X W (.Call (.Name "len" p) (e :: es) [] pos) (vArg gLen fe) := de_callB (call_len_seq.or call_len_str) pr_len hg hm PySem.boot_len ha (by decide) (by decide) he hpl
theorem bAbs (ha : DA X W (e :: es) fe) (hm : X.mg "abs" = none) (hg : Gl X "abs" := by rfl) (he : starEach (e :: es) X.env = (false, eval e X.env) :: starEach es X.env := by rfl) (hpl : (backTo pos (starEach es X.env)).any (·.1) = false := by rfl) :
    DE X W (.Call (.Name "abs" p) (e :: es) [] pos) (vArg gAbs fe) := de_callB call_abs pr_abs hg hm PyProof.Rows.boot_abs ha (by decide) (by decide) he hpl
theorem bInt (ha : DA X W (e :: es) fe) (hm : X.mg "int" = none) (hg : Gl X "int" := by rfl) (he : starEach (e :: es) X.env = (false, eval e X.env) :: starEach es X.env := by rfl) (hpl : (backTo pos (starEach es X.env)).any (·.1) = false := by rfl) :
    DE X W (.Call (.Name "int" p) (e :: es) [] pos) (vArg gInt fe) := de_callTy (call_int1.or call_int_str) pr_int hg hm PySem.Pv.boot_int ha (by decide) (by decide) he hpl
theorem bStr (ha : DA X W (e :: es) fe) (hm : X.mg "str" = none) (hg : Gl X "str" := by rfl) (he : starEach (e :: es) X.env = (false, eval e X.env) :: starEach es X.env := by rfl) (hpl : (backTo pos (starEach es X.env)).any (·.1) = false := by rfl) :
    DE X W (.Call (.Name "str" p) (e :: es) [] pos) (vArg gStr fe) := de_callTy call_str_int pr_str hg hm PySem.Pv.boot_str ha (by decide) (by decide) he hpl
theorem bTup (ha : DA X W (e :: es) fe) (hm : X.mg "tuple" = none) (hg : Gl X "tuple" := by rfl) (he : starEach (e :: es) X.env = (false, eval e X.env) :: starEach es X.env := by rfl) (hpl : (backTo pos (starEach es X.env)).any (·.1) = false := by rfl) :
    DE X W (.Call (.Name "tuple" p) (e :: es) [] pos) (vArg gTup1 fe) := de_callTy call_tuple_of pr_tup1 hg hm PySem.Pv.boot_tuple ha (by decide) (by decide) he hpl
theorem boot_all : bootBuiltins "all" = some (.builtin "all") := by decide +kernel
theorem boot_any : bootBuiltins "any" = some (.builtin "any") := by decide +kernel
theorem boot_sum : bootBuiltins "sum" = some (.builtin "sum") := by decide +kernel
theorem boot_min : bootBuiltins "min" = some (.builtin "min") := by decide +kernel
theorem boot_max : bootBuiltins "max" = some (.builtin "max") := by decide +kernel
theorem boot_sorted : bootBuiltins "sorted" = some (.builtin "sorted") := by decide +kernel
theorem bAll (hc : X.calm = true) (ha : DA X W (e :: es) fe) (hm : X.mg "all" = none) (hg : Gl X "all" := by rfl) (he : starEach (e :: es) X.env = (false, eval e X.env) :: starEach es X.env := by rfl) (hpl : (backTo pos (starEach es X.env)).any (·.1) = false := by rfl) :
    DE X W (.Call (.Name "all" p) (e :: es) [] pos) (vArg gAll fe) := de_callB (cr_all hc) pr_all hg hm boot_all ha (by decide) (by decide) he hpl
theorem bAny (hc : X.calm = true) (ha : DA X W (e :: es) fe) (hm : X.mg "any" = none) (hg : Gl X "any" := by rfl) (he : starEach (e :: es) X.env = (false, eval e X.env) :: starEach es X.env := by rfl) (hpl : (backTo pos (starEach es X.env)).any (·.1) = false := by rfl) :
    DE X W (.Call (.Name "any" p) (e :: es) [] pos) (vArg gAny fe) := de_callB (cr_any hc) pr_any hg hm boot_any ha (by decide) (by decide) he hpl
theorem bSum (hc : X.calm = true) (ha : DA X W (e :: es) fe) (hm : X.mg "sum" = none) (hg : Gl X "sum" := by rfl) (he : starEach (e :: es) X.env = (false, eval e X.env) :: starEach es X.env := by rfl) (hpl : (backTo pos (starEach es X.env)).any (·.1) = false := by rfl) :
    DE X W (.Call (.Name "sum" p) (e :: es) [] pos) (vArg gSum fe) := de_callB ((cr_sum hc).or (cr_sumT hc)) pr_sum hg hm boot_sum ha (by decide) (by decide) he hpl
/-- min, max: of two, of three, of one sequence -/
theorem bMin2 (hc : X.calm = true) (ha : DA X W (e :: es) fe) (hm : X.mg "min" = none) (hg : Gl X "min" := by rfl) (he : starEach (e :: es) X.env = (false, eval e X.env) :: starEach es X.env := by rfl) (hpl : (backTo pos (starEach es X.env)).any (·.1) = false := by rfl) :
    DE X W (.Call (.Name "min" p) (e :: es) [] pos) (vArg gMin2 fe) := de_callB (call_min2 hc) pr_min2 hg hm boot_min ha (by decide) (by decide) he hpl
theorem bMax2 (hc : X.calm = true) (ha : DA X W (e :: es) fe) (hm : X.mg "max" = none) (hg : Gl X "max" := by rfl) (he : starEach (e :: es) X.env = (false, eval e X.env) :: starEach es X.env := by rfl) (hpl : (backTo pos (starEach es X.env)).any (·.1) = false := by rfl) :
    DE X W (.Call (.Name "max" p) (e :: es) [] pos) (vArg gMax2 fe) := de_callB (call_max2 hc) pr_max2 hg hm boot_max ha (by decide) (by decide) he hpl
theorem bMin3 (hc : X.calm = true) (ha : DA X W (e :: es) fe) (hm : X.mg "min" = none) (hg : Gl X "min" := by rfl) (he : starEach (e :: es) X.env = (false, eval e X.env) :: starEach es X.env := by rfl) (hpl : (backTo pos (starEach es X.env)).any (·.1) = false := by rfl) :
    DE X W (.Call (.Name "min" p) (e :: es) [] pos) (vArg gMin3 fe) := de_callB (call_min3Nu hc) pr_min3 hg hm boot_min ha (by decide) (by decide) he hpl
theorem bMinS (hc : X.calm = true) (ha : DA X W (e :: es) fe) (hm : X.mg "min" = none) (hg : Gl X "min" := by rfl) (he : starEach (e :: es) X.env = (false, eval e X.env) :: starEach es X.env := by rfl) (hpl : (backTo pos (starEach es X.env)).any (·.1) = false := by rfl) :
    DE X W (.Call (.Name "min" p) (e :: es) [] pos) (vArg gMinI fe) := de_callB ((cr_min hc).or (cr_minT hc)) pr_minI hg hm boot_min ha (by decide) (by decide) he hpl
theorem bMaxS (hc : X.calm = true) (ha : DA X W (e :: es) fe) (hm : X.mg "max" = none) (hg : Gl X "max" := by rfl) (he : starEach (e :: es) X.env = (false, eval e X.env) :: starEach es X.env := by rfl) (hpl : (backTo pos (starEach es X.env)).any (·.1) = false := by rfl) :
    DE X W (.Call (.Name "max" p) (e :: es) [] pos) (vArg gMaxI fe) := de_callB ((cr_max hc).or (cr_maxT hc)) pr_maxI hg hm boot_max ha (by decide) (by decide) he hpl
theorem bSort (ha : DA X W (e :: es) fe) (hm : X.mg "sorted" = none) (hg : Gl X "sorted" := by rfl) (he : starEach (e :: es) X.env = (false, eval e X.env) :: starEach es X.env := by rfl) (hpl : (backTo pos (starEach es X.env)).any (·.1) = false := by rfl) :
    DE X W (.Call (.Name "sorted" p) (e :: es) [] pos) (vArg gSort fe) := de_callB cr_sortA pr_sort hg hm boot_sorted ha (by decide) (by decide) he hpl
/-- isinstance of the types -/
theorem bIsi (T : Ty) {y : Str} {p2 : Pos} {fe : XT D} (hv : bootBuiltins y = some (.type T.nm)) (he : DE X W e fe) (hm : X.mg "isinstance" = none) (hmT : X.mg y = none) (hg : Gl X "isinstance" := by rfl) (hgT : Gl X y := by rfl)
    (hn : y ≠ "__name__" := by decide) (hdb : (y == ("__debug__" : Str)) = false := by decide)
    (hs1 : starEach [e, .Name y p2] X.env = (false, eval e X.env) :: starEach [.Name y p2] X.env := by rfl) (hs2 : starEach [.Name y p2] X.env = (false, eval (.Name y p2) X.env) :: starEach [] X.env := by rfl)
    (hpl : (backTo pos (starEach [.Name y p2] X.env)).any (·.1) = false := by rfl) : DE X W (.Call (.Name "isinstance" p) [e, .Name y p2] [] pos) (vIsi T fe) :=
  de_isi T he hg hm hgT hmT hv hn hdb hs1 hs2 hpl
/-! other comparisons -/
variable {a b : Expr} {fa fb : XT D}
theorem de_pow (ha : DE X W a fa) (hb : DE X W b fb) : DE X W (.BinOp a .Pow b pos) (vBin gPow fa fb) := de_bin op_pow (pr_iI (C := cPow) fun i j h => of_decide_eq_true (p := 0 ≤ j ∧ j ≤ 1000000 ∧ i.natAbs < 2 ^ 64) h) ha hb
theorem dcInS (ha : DE X W a fa) (hb : DE X W b fb) (hm : behindInMarks .In b = false := by rfl) : DE X W (.Compare a [.In] [b] pos) (vBin (gInS false) fa fb) := de_cmp op_in_str pr_inS ha hb hm
theorem dcLtT (hu : X.A.units + 64 < cLine) (ha : DE X W a fa) (hb : DE X W b fb) (hm : behindInMarks .Lt b = false := by rfl) : DE X W (.Compare a [.Lt] [b] pos) (vBin gLtT fa fb) := de_cmp (op_ltT (by omega)) pr_ltT ha hb hm
end
end Ev
namespace Ev
open PySem PySem.Spec L2
theorem takes0 {X : Cx} : Takes X W0 := fun _ _ ⟨_, _, _, _, _, _, _, _, _, _, _, _, _, _, _, _, w⟩ => w.elim
theorem bt_int : bootBuiltins "int" = some (.type Ty.int.nm) := PySem.Pv.boot_int
theorem bt_bool : bootBuiltins "bool" = some (.type Ty.bool.nm) := PySem.Pv.boot_bool
theorem bt_tuple : bootBuiltins "tuple" = some (.type Ty.tuple.nm) := PySem.Pv.boot_tuple
theorem bt_str : bootBuiltins "str" = some (.type Ty.str.nm) := PySem.Pv.boot_str
theorem bt_list : bootBuiltins "list" = some (.type Ty.list.nm) := PySem.Pv.boot_list
/-! names of the readings, for printed terms -/
abbrev vRepL (fe : XT (List D)) (fb : XT D) : XT D := fun δ => (fe δ).bind fun p => if p.1.length ≤ 1000 then (fb p.2).bind fun q => (Rs.of (gRepL p.1 q.1)).bind fun z => .ok (z, q.2) else .no
abbrev vCallF (g : FL) (fe : XT (List D)) : XT (List D) := fun δ => (fe δ).bind fun p => (g p.1).bind fun d => .ok (d, p.2)
abbrev jNil : Str → XT Str := fun acc δ => .ok (acc, δ)
abbrev vJoined (f : Str → XT Str) : XT D := fun δ => (f Str.empty δ).bind fun p => .ok (.str p.1, p.2)
abbrev oNone : XT (Option Int) := fun δ => .ok (none, δ)
abbrev oSome (fa : XT D) : XT (Option Int) := fun δ => (fa δ).bind fun p => (Rs.of (asI p.1)).bind fun i => .ok (some i, p.2)
abbrev tTrue : XT Bool := fun δ => .ok (true, δ)
abbrev sRetN : SX := fun δ => .ok (.rt .none, δ)
abbrev sRetF (f : XT (List D)) : SX := fun δ => (f δ).bind fun p => .ok (.ro p.1, p.2)
end Ev
namespace Ev
open PySem PySem.Spec L2
section
variable {X : Cx} {W : WX} {k : Nat} {ps : List Str} {x : Str} {p pos : Pos} {f : Addr} {fd : FuncData} {sp : Sp}
theorem pe_callSD0 {E : St → XK} (F : FnOk X.prog X.w X.K X.mg X.base (L2.CX X.prog X.w) k f fd ps sp) (hr : Room k X.A) (hg : Gl X x) (hm : X.mg x = some (.ref f)) (hk : PySem.W.keepIn X.K (.ref f) = true) (hb : Binds X.K fd ps []) (hx : ∀ σ, PassesAt (L2.CX X.prog X.w) X σ (E σ))
    (hdb : (x == ("__debug__" : Str)) = false := by decide) : PE X (.Call (.Name x p) [] [] pos) (tCallSD sp [] E tNil) := by
  refine ⟨fun pins s σ H Q I h => ?_⟩
  refine wpAny_Call_Name_kw (ld_glob I hg hm ?_ hdb)
  exact PySem.W.callWith_K0 I.kIn hk (run_fnSD (us := []) F hr hb .nil (hx σ) I .nil h)
theorem dcP0 {g : FX} {k' : Nat} (c : ClP X.prog X.w X.K X.mg X.base k x ps g) (hr : Room k' X.A) (hk : k ≤ k') (tk : Takes X W) (hg : Gl X x := by rfl) (hdb : (x == ("__debug__" : Str)) = false := by decide) :
    DE X W (.Call (.Name x p) [] [] pos) (vCall g vNil) := by
  obtain ⟨f, fd, F, h1, h2, h3⟩ := c
  refine ⟨_, pe_callSD0 F (hr.mono hk) hg h1 h2 h3 (fun σ => passAt tk σ) hdb, fun G O δ σ H Q sr an => ?_⟩
  exact call_ans (vs := []) (ds := []) sr .nil an
theorem dss_no {st : List Stmt} : DSs X W st sNo := ⟨_, pss_never, fun G O δ σ H Dn sr an => an.elim⟩
end
end Ev
set_option maxHeartbeats 200000
/-! M1: what moves_by answers. Own work. -/
namespace Ev
open PySem PySem.Spec L2
/-- ints and nones -/
def optsOf : List D → Option (List (Option Int))
  | [] => some []
  | .int i :: r => (optsOf r).map (some i :: ·)
  | .none :: r => (optsOf r).map (none :: ·)
  | _ :: _ => none
/-- the houses with too little, with too much: sign s -/
def rowsM (s : Int) : Nat → List (Option Int) → List (Int × Int)
  | _, [] => []
  | i, some x :: r => if 0 < s * x then ((i : Int), s * x) :: rowsM s (i + 1) r else rowsM s (i + 1) r
  | i, none :: r => rowsM s (i + 1) r
def sumM (l : List (Int × Int)) : Int := (l.map (·.2)).sum
def posM (l : List (Int × Int)) : List (Int × Int) := l.filter fun p => decide (0 < p.2)
def loopM : Nat → List (Int × Int) → List (Int × Int) → List D → Option (List D)
  | 0, _, _, _ => none
  | _ + 1, [], _, acc => some acc
  | n + 1, (h, a) :: gs, (t, b) :: ts, acc => loopM n (posM ((h, a - (if b < a then b else a)) :: gs)) (posM ((t, b - (if b < a then b else a)) :: ts)) (acc ++ [.tuple [.int h, .int t, .int (if b < a then b else a)]])
  | _ + 1, _ :: _, [], _ => none
def noneAt (xs : List D) : Option Int := (gIndex (.list xs) [.none]).bind asI
/-- over, under: what sums_of said -/
def movesM (xs : List D) (l : List (Option Int)) (over under : Int) : Option (List D) :=
  (if over < under then (noneAt xs).map fun j => rowsM (-1) 0 l ++ [(j, under - over)] else some (rowsM (-1) 0 l)).bind fun gs =>
  (if under < over then (noneAt xs).map fun j => rowsM 1 0 l ++ [(j, over - under)] else some (rowsM 1 0 l)).bind fun ts => if l.length ≤ 100 then loopM 300 gs ts [] else none
def movesBy (sums : FX) : FX := fun ds => match ds with
  | [.list xs] => match sums [.list xs] with
    | .ok (.tuple [.int over, .int under]) => (Rs.of ((optsOf xs).bind fun l => movesM xs l over under)).bind fun ms => .ok (.list ms)
    | _ => .no
  | _ => .no
end Ev
set_option maxHeartbeats 200000
/-! M2: lists of rows that are changed in place: the readings. Own work. -/
namespace Ev
open PySem PySem.Spec L2
def vO : Option Int → V
  | none => .non
  | some i => .int i
theorem optsOf_eq : ∀ {xs : List D} {ls : List (Option Int)}, optsOf xs = some ls → ∀ {K : PySem.W.Frag} {H : Hp} {vs : List V}, DpAll K H vs xs → vs = ls.map vO
  | [], _, h, _, _, _, d => by cases h; cases d; rfl
  | .int i :: r, ls, h, _, _, _, d => by
    unfold optsOf at h
    cases e : optsOf r with
    | none => rw [e] at h; cases h
    | some m =>
      rw [e] at h; cases h
      cases d with
      | cons a b => cases a; rw [optsOf_eq e b]; rfl
  | .none :: r, ls, h, _, _, _, d => by
    unfold optsOf at h
    cases e : optsOf r with
    | none => rw [e] at h; cases h
    | some m =>
      rw [e] at h; cases h
      cases d with
      | cons a b => cases a; rw [optsOf_eq e b]; rfl
  | .bool _ :: _, _, h, _, _, _, _ => by cases h
  | .str _ :: _, _, h, _, _, _, _ => by cases h
  | .list _ :: _, _, h, _, _, _, _ => by cases h
  | .tuple _ :: _, _, h, _, _, _, _ => by cases h
  | .dict _ :: _, _, h, _, _, _, _ => by cases h
/-- a row's place and what it holds -/
abbrev Row := Addr × Int × Int
def RwP (H : Hp) (ps : List Row) : Prop := ∀ p ∈ ps, H p.1 = some (.lst [.int p.2.1, .int p.2.2])
abbrev ads (ps : List Row) : List Addr := ps.map (·.1)
abbrev refs (ps : List Row) : List V := ps.map fun p => V.ref p.1
theorem rowsM_snoc (s : Int) (x : Option Int) : ∀ (l : List (Option Int)) (k : Nat), rowsM s k (l ++ [x]) = rowsM s k l ++ rowsM s (k + l.length) [x]
  | [], k => by simp [rowsM]
  | some y :: r, k => by
    rw [List.cons_append]
    show (if 0 < s * y then ((k : Int), s * y) :: rowsM s (k + 1) (r ++ [x]) else rowsM s (k + 1) (r ++ [x])) = (if 0 < s * y then ((k : Int), s * y) :: rowsM s (k + 1) r else rowsM s (k + 1) r) ++ _
    rw [rowsM_snoc s x r (k + 1), show k + (some y :: r).length = k + 1 + r.length by simp; omega]
    split <;> simp
  | none :: r, k => by
    rw [List.cons_append]
    show rowsM s (k + 1) (r ++ [x]) = rowsM s (k + 1) r ++ _
    rw [rowsM_snoc s x r (k + 1), show k + (none :: r : List (Option Int)).length = k + 1 + r.length by simp; omega]
section
variable {K : PySem.W.Frag} {la : Addr} {ls : List (Option Int)} {σ : St} {H : Hp} {Q : VK}
theorem wipe2 {σ : St} {v w : V} : wipe (((wipe σ [7, 8]).set 7 (some v)).set 8 (some w)) [7, 8] = wipe σ [7, 8] := by
  have := wipe_setV (own := [7, 8]) (is := [7, 8]) (vs := [v, w]) (σ := σ) (fun i hi => hi)
  exact this
def posO (s : Int) : Option Int → Bool
  | none => false
  | some z => decide (0 < s * z)
theorem rows_ans {s : Int} {tt : TT} {te : TE} (h0 : σ[0]? = some (some (.ref la))) (hn : 9 ≤ σ.length) (hl : SqL K H la (ls.map vO)) (hz : ls.length ≤ 100)
    (ht : ∀ (σ : St) (H : Hp) (o : Option Int) (Q : Bool → Hp → Prop), σ[8]? = some (some (vO o)) → Q (posO s o) H → tt σ H Q)
    (he : ∀ (σ : St) (H : Hp) (i z : Int) (Q : VK), σ[7]? = some (some (.int i)) → σ[8]? = some (some (.int z)) → (∀ p, H p = none → Q (.ref p) (upd H p (.lst [.int i, .int (s * z)]))) → te σ H Q)
    (k : ∀ D ps H', Same H H' → H D = none → (∀ a ∈ ads ps, H a = none) → (D :: ads ps).Nodup → H' D = some (.lst (refs ps)) → RwP H' ps → ps.map (·.2) = rowsM s 0 ls → Q (.ref D) H') :
    tLc (iEnum K (tCons (tVar 0) tNil)) (gTup K 2 (gCons (gName 7) (gCons (gName 8) gNil))) tt te [7, 8] σ H Q := by
  refine ⟨.ref la, h0, la, ls.map vO, rfl, hl, fun D hD => ?_⟩
  let P : Nat → Hp → Prop := fun i H' => i ≤ ls.length ∧ ∃ ps : List Row, Same H H' ∧ (∀ a ∈ ads ps, H a = none) ∧ (D :: ads ps).Nodup ∧ H' D = some (.lst (refs ps)) ∧ RwP H' ps ∧ ps.map (·.2) = rowsM s 0 (ls.take i) ∧ ps.length ≤ i
  refine ⟨fun i m H' => m = ls.length - i ∧ P i H', ⟨ls.length, rfl, Nat.zero_le _, [], same_upd hD, (fun a h => by cases h), (by simp), upd_same, (fun p h => by cases h), rfl, Nat.le_refl _⟩, ?_⟩
  rintro i m H' ⟨rfl, hi, ps, sm, fr, nd, hD', rw', em, lenp⟩
  have hl' := SqL.same sm hl
  by_cases hlt : i < ls.length
  · right
    refine ⟨⟨ls.map vO, vO ls[i], hl', by simp [hlt]⟩, P (i + 1), fun H2 p2 => ⟨ls.length - (i + 1), by omega, rfl, p2⟩, ?_⟩
    rintro x H2 ⟨T, y, rfl, hT, rfl, hy⟩
    have ey : y = vO ls[i] := by
      have := hy _ hl'
      rw [List.getElem?_map, List.getElem?_eq_getElem hlt] at this
      exact (Option.some.inj this).symm
    subst ey
    refine ⟨T, [.int (i : Nat), vO ls[i]], rfl, .inl (.inl upd_same), rfl, .int (i : Nat), [vO ls[i]], rfl, vO ls[i], [], rfl, rfl, wipe2, ?_⟩
    have l7 : 7 < (wipe σ [7, 8]).length := by rw [wipe_length]; omega
    have l8 : 8 < (wipe σ [7, 8]).length := by rw [wipe_length]; omega
    have e8 : (((wipe σ [7, 8]).set 7 (some (.int (i : Nat)))).set 8 (some (vO ls[i])))[8]? = some (some (vO ls[i])) := List.getElem?_set_self (by rw [List.length_set]; exact l8)
    have e7 : (((wipe σ [7, 8]).set 7 (some (.int (i : Nat)))).set 8 (some (vO ls[i])))[7]? = some (some (.int (i : Nat))) := by
      rw [List.getElem?_set_ne (by decide)]
      exact List.getElem?_set_self l7
    have take1 : ls.take (i + 1) = ls.take i ++ [ls[i]] := by rw [List.take_succ_eq_append_getElem hlt]
    have ltk : (ls.take i).length = i := by rw [List.length_take]; omega
    have Tn : ∀ b o, H' b = some o → b ≠ T := fun b o e => ne_of_none e hT
    have smT : Same H' (upd H' T (.tup [.int (i : Nat), vO ls[i]])) := same_upd hT
    refine ht _ _ ls[i] _ e8 ?_
    cases eo : ls[i] with
    | none =>
      rw [if_neg (show ¬ posO s none = true from Bool.false_ne_true)]
      rw [eo] at smT
      refine ⟨hlt, ps, sm.trans smT, fr, nd, smT _ _ hD', fun p hp => smT _ _ (rw' p hp), ?_, by omega⟩
      rw [take1, rowsM_snoc, em, eo]
      simp [rowsM]
    | some z =>
      by_cases hpos : 0 < s * z
      · rw [if_pos (show posO s (some z) = true from decide_eq_true hpos)]
        refine he _ _ (i : Nat) z _ (by rw [eo] at e7; exact e7) (by rw [eo] at e8; exact e8) fun p hp => ?_
        have hp0 : H' p = none := by
          cases e : H' p with
          | none => rfl
          | some o => rw [eo] at smT; rw [smT _ _ e] at hp; cases hp
        have npD : D ≠ p := fun q => by rw [q, hp0] at hD'; cases hD'
        have sm2 : Same H' (upd (upd H' T (.tup [.int (i : Nat), vO (some z)])) p (.lst [.int (i : Nat), .int (s * z)])) := by
          rw [eo] at smT
          exact smT.trans (same_upd hp)
        refine ⟨refs ps, by rw [upd_ne npD, upd_ne (Tn _ _ hD')]; exact hD', ?_, ?_⟩
        · show ((ps.map fun p => V.ref p.1)).length < sizeLine
          rw [List.length_map, sizeLine_eq]; omega
        · have keep : ∀ b o, b ≠ D → H' b = some o → upd (upd (upd H' T (.tup [.int (i : Nat), vO (some z)])) p (.lst [.int (i : Nat), .int (s * z)])) D (.lst (refs ps ++ [.ref p])) b = some o := fun b o nb e => by
            rw [upd_ne nb]; exact sm2 _ _ e
          have npm : p ∉ ads ps := fun m => by
            obtain ⟨q, hq, e⟩ := List.mem_map.mp m
            have := rw' q hq
            rw [e, hp0] at this; cases this
          refine ⟨hlt, ps ++ [(p, ((i : Nat) : Int), s * z)], fun b o e => keep b o (fun q => by rw [q, hD] at e; cases e) (sm _ _ e), fun a ha => ?_, ?_, ?_, fun q hq => ?_, ?_, by rw [List.length_append]; simp; omega⟩
          · rw [show ads (ps ++ [(p, ((i : Nat) : Int), s * z)]) = ads ps ++ [p] by simp [ads]] at ha
            rcases List.mem_append.mp ha with ha | ha
            · exact fr a ha
            · rw [List.mem_singleton.mp ha]
              cases e : H p with
              | none => rfl
              | some o => rw [sm _ _ e] at hp0; cases hp0
          · rw [show ads (ps ++ [(p, ((i : Nat) : Int), s * z)]) = ads ps ++ [p] by simp [ads], ← List.cons_append, List.nodup_append]
            refine ⟨nd, by simp, fun a ha b hb => ?_⟩
            rw [List.mem_singleton.mp hb]
            rcases List.mem_cons.mp ha with rfl | ha
            · exact npD
            · exact fun q => npm (q ▸ ha)
          · rw [upd_same]; simp [refs, List.map_append]
          · rcases List.mem_append.mp hq with hq | hq
            · have nq : q.1 ≠ D := fun e => by
                have := (List.nodup_cons.mp nd).1
                exact this (e ▸ List.mem_map.mpr ⟨q, hq, rfl⟩)
              exact keep _ _ nq (rw' q hq)
            · rw [List.mem_singleton.mp hq, upd_ne npD.symm]
              exact upd_same
          · rw [take1, rowsM_snoc, List.map_append, em, eo, ltk]
            simp [rowsM, hpos]
      · rw [if_neg (show ¬ posO s (some z) = true from by simp [posO, hpos])]
        rw [eo] at smT
        refine ⟨hlt, ps, sm.trans smT, fr, nd, smT _ _ hD', fun p hp => smT _ _ (rw' p hp), ?_, by omega⟩
        rw [take1, rowsM_snoc, em, eo, ltk]
        simp [rowsM, hpos]
  · left
    have e : i = ls.length := by omega
    subst e
    refine ⟨⟨ls.map vO, hl', by simp⟩, k D ps H' sm hD fr nd hD' rw' ?_⟩
    rw [em, List.take_of_length_le (Nat.le_refl _)]
theorem wipe1 {σ : St} {v : V} : wipe ((wipe σ [9]).set 9 (some v)) [9] = wipe σ [9] := by
  have := wipe_setV (own := [9]) (is := [9]) (vs := [v]) (σ := σ) (fun i hi => hi)
  exact this
def posP (ps : List Row) : List Row := ps.filter fun p => decide (0 < p.2.2)
theorem posP_map (ps : List Row) : (posP ps).map (·.2) = posM (ps.map (·.2)) := by
  unfold posP posM
  rw [List.filter_map]
  rfl
theorem filt_ans {gp : Addr} {ps : List Row} {j : Nat} {tt : TT} {te : TE} (h0 : σ[j]? = some (some (.ref gp))) (hn : 9 < σ.length) (hg : H gp = some (.lst (refs ps))) (hr : RwP H ps) (hz : ps.length ≤ 200)
    (ht : ∀ (σ : St) (H : Hp) (a : Addr) (h z : Int) (Q : Bool → Hp → Prop), σ[9]? = some (some (.ref a)) → H a = some (.lst [.int h, .int z]) → Q (decide (0 < z)) H → tt σ H Q)
    (he : ∀ (σ : St) (H : Hp) (v : V) (Q : VK), σ[9]? = some (some v) → Q v H → te σ H Q)
    (k : ∀ D, H D = none → Q (.ref D) (upd H D (.lst (refs (posP ps))))) :
    tLc (iList K (tVar j)) (gName 9) tt te [9] σ H Q := by
  refine ⟨.ref gp, h0, gp, rfl, ⟨_, .inl (.inl hg)⟩, fun D hD => ?_⟩
  have ngD : gp ≠ D := fun q => by rw [q, hD] at hg; cases hg
  have ext : ∀ (x y : HO), upd (upd H D x) D y = upd H D y := fun x y => by
    funext b
    by_cases hb : b = D
    · subst hb; rw [upd_same, upd_same]
    · rw [upd_ne hb, upd_ne hb, upd_ne hb]
  refine lc_list (K := K) (a := gp) (xs := refs ps) (fun i H' => H' = upd H D (.lst (refs (posP (ps.take i))))) rfl (fun i H' _ e => by rw [e]; exact .inl (.inl (by rw [upd_ne ngD]; exact hg))) ?_ ?_
  · rintro i x H' hx rfl
    have hi : i < ps.length := by
      have := (List.getElem?_eq_some_iff.mp hx).1
      simpa [refs] using this
    have ex : x = .ref ps[i].1 := by
      rw [List.getElem?_map, List.getElem?_eq_getElem hi] at hx
      exact (Option.some.inj hx).symm
    subst ex
    have hp := hr ps[i] (List.getElem_mem hi)
    have npD : ps[i].1 ≠ D := fun q => by rw [q, hD] at hp; cases hp
    have l9 : 9 < (wipe σ [9]).length := by rw [wipe_length]; exact hn
    have e9 : ((wipe σ [9]).set 9 (some (.ref ps[i].1)))[9]? = some (some (.ref ps[i].1)) := List.getElem?_set_self l9
    refine ⟨wipe1, ht _ _ ps[i].1 ps[i].2.1 ps[i].2.2 _ e9 (by rw [upd_ne npD]; exact hp) ?_⟩
    have take1 : ps.take (i + 1) = ps.take i ++ [ps[i]] := by rw [List.take_succ_eq_append_getElem hi]
    by_cases hpos : 0 < ps[i].2.2
    · rw [if_pos (decide_eq_true hpos)]
      refine he _ _ _ _ e9 ⟨_, upd_same, ?_, ?_⟩
      · show (refs (posP (ps.take i))).length < sizeLine
        have h1 : (posP (ps.take i)).length ≤ (ps.take i).length := List.length_filter_le _ _
        have h2 : (ps.take i).length ≤ ps.length := List.length_take_le' _ _
        rw [sizeLine_eq]
        unfold refs
        rw [List.length_map]
        omega
      · rw [ext, take1]
        unfold posP refs
        rw [List.filter_append]
        simp [hpos]
    · rw [if_neg (by simp [hpos]), take1]
      unfold posP refs
      rw [List.filter_append]
      simp [hpos]
  · rintro H' rfl
    have := k D hD
    rw [show (refs ps).length = ps.length by simp [refs], List.take_of_length_le (Nat.le_refl _)]
    exact this
end
end Ev
set_option maxHeartbeats 200000
/-! M3: the loop of moves_by. Own work. -/
namespace Ev
open PySem PySem.Spec L2
theorem up_none {H : Hp} {p x : Addr} {o : HO} (h : upd H p o x = none) : x ≠ p ∧ H x = none := by
  by_cases c : x = p
  · subst c; rw [upd_same] at h; cases h
  · rw [upd_ne c] at h; exact ⟨c, h⟩
/-- the data of rows -/
def rowD (p : Row) : D := .list [.int p.2.1, .int p.2.2]
theorem rows_dp {K : PySem.W.Frag} {H : Hp} : ∀ {ps : List Row}, RwP H ps → DpAll K H (refs ps) (ps.map rowD)
  | [], _ => .nil
  | p :: r, h => .cons (.lst (.inl (.inl (h p List.mem_cons_self))) (.cons (.int _) (.cons (.int _) .nil))) (rows_dp fun q hq => h q (List.mem_cons_of_mem _ hq))
theorem rows_lay : ∀ ps : List Row, PyData.canLayAll0 (ps.map rowD) = true ∧ PyData.depthAll (ps.map rowD) ≤ 1
  | [] => by constructor <;> simp [PyData.canLayAll0, PyData.depthAll]
  | p :: r => by
    obtain ⟨h1, h2⟩ := rows_lay r
    constructor
    · simp [PyData.canLayAll0, PyData.canLay0, rowD, h1]
    · simp only [List.map_cons, PyData.depthAll, rowD, PyData.depth]
      omega
theorem rows_shaped (ps : List Row) : SeqAt.shaped (.list (ps.map rowD)) = true := by
  obtain ⟨h1, h2⟩ := rows_lay ps
  unfold SeqAt.shaped
  rw [Bool.and_eq_true, decide_eq_true_eq]
  constructor
  · simp [PyData.canLay0, h1]
  · simp only [PyData.depth]
    omega
abbrev tG (K : PySem.W.Frag) (j : Nat) (k : Int) : TE := tOp (rIx K) (tOp (rIx K) (tVar j) (tC (.int 0))) (tC (.int k))
abbrev tMin : List V → Hp → VK → Prop := fun xs H Q => ∃ i j, xs = [.int i, .int j] ∧ Q (.int (if j < i then j else i)) H
abbrev tSub (ta tb : TE) : TE := tOp (rI0 fun i j => .int (i - j)) ta tb
section
variable {K : PySem.W.Frag} {σ : St} {H : Hp} {Q : VK}
theorem at0 {v : V} {r : List V} : atI (v :: r) 0 = some v := by
  have h : (0 : Int) < (r.length : Int) + 1 := by omega
  simp [atI, ixN, h]
theorem ix2 {j : Nat} {gp : Addr} {p : Row} {r : List Row} (h0 : σ[j]? = some (some (.ref gp))) (hg : H gp = some (.lst (refs (p :: r)))) (hr : RwP H (p :: r)) :
    (Q (.int p.2.1) H → tG K j 0 σ H Q) ∧ (Q (.int p.2.2) H → tG K j 1 σ H Q) := by
  have hp := hr p List.mem_cons_self
  exact ⟨fun q => ⟨.ref gp, h0, .inl ⟨gp, _, 0, .ref p.1, rfl, rfl, .inl (.inl hg), at0, .inl ⟨p.1, _, 0, .int p.2.1, rfl, rfl, .inl (.inl hp), rfl, q⟩⟩⟩,
    fun q => ⟨.ref gp, h0, .inl ⟨gp, _, 0, .ref p.1, rfl, rfl, .inl (.inl hg), at0, .inl ⟨p.1, _, 1, .int p.2.2, rfl, rfl, .inl (.inl hp), rfl, q⟩⟩⟩⟩
/-- row[1] > 0 -/
abbrev tRow (K : PySem.W.Frag) : TT := tTest (tOp (rI0 fun i j => .bl (decide (j < i))) (tOp (rIx K) (tVar 9) (tC (.int 1))) (tC (.int 0)))
theorem row_ht (σ : St) (H : Hp) (a : Addr) (h z : Int) (Q : Bool → Hp → Prop) (e9 : σ[9]? = some (some (.ref a))) (e : H a = some (.lst [.int h, .int z])) (q : Q (decide (0 < z)) H) : tRow K σ H Q :=
  ⟨.ref a, e9, .inl ⟨a, _, 1, .int z, rfl, rfl, .inl (.inl e), rfl, z, 0, rfl, rfl, _, rfl, q⟩⟩
end
/-- the loop's state -/
def Lp (K : PySem.W.Frag) (H0 : Hp) (Ob : List Addr) (la : Addr) (res : List D) (m : Nat) (σ : St) (H : Hp) : Prop :=
  ∃ (gp tp fp : Addr) (gs ts : List Row) (fvs : List V) (acc : List D) (O : List Addr) (ov un vm : Option V),
    σ = [some (.ref la), some (.ref gp), some (.ref tp), ov, un, some (.ref fp), vm, none, none, none] ∧ Same H0 H ∧ H gp = some (.lst (refs gs)) ∧ H tp = some (.lst (refs ts)) ∧ H fp = some (.lst fvs) ∧
    RwP H gs ∧ RwP H ts ∧ (gp :: tp :: fp :: (ads gs ++ ads ts)).Nodup ∧ (∀ a ∈ gp :: tp :: fp :: (ads gs ++ ads ts), H0 a = none ∧ a ∈ O) ∧ (∀ a ∈ Ob, a ∈ O) ∧ (∀ a ∈ O, H a ≠ none) ∧ DpAll K (fz H O) fvs acc ∧
    loopM m (gs.map (·.2)) (ts.map (·.2)) acc = some res ∧ gs.length ≤ 200 ∧ ts.length ≤ 200 ∧ acc.length + m ≤ 1000
abbrev tB (K : PySem.W.Frag) : TS :=
  tSeq (tAsg (tCB tMin (tCons (tG K 1 1) (tCons (tG K 2 1) tNil))) (gName 6))
  (tSeq (tDrop (tBM K "list" rAppend (tVar 5) (tCons (tTup (tCons (tG K 1 0) (tCons (tG K 2 0) (tCons (tVar 6) tNil)))) tNil)))
  (tSeq (tAsg (tTup (tCons (tSub (tG K 1 1) (tVar 6)) (tCons (tSub (tG K 2 1) (tVar 6)) tNil))) (gTup K 2 (gCons (L2.gSub (tOp (rIx K) (tVar 1) (tC (.int 0))) (tC (.int 1)) rSetL) (gCons (L2.gSub (tOp (rIx K) (tVar 2) (tC (.int 0))) (tC (.int 1)) rSetL) gNil))))
  (tSeq (tAsg (tLc (iList K (tVar 1)) (gName 9) (tRow K) (tVar 9) [9]) (gName 1))
  (tAsg (tLc (iList K (tVar 2)) (gName 9) (tRow K) (tVar 9) [9]) (gName 2)))))
theorem body_ans {K : PySem.W.Frag} {H0 : Hp} {Ob : List Addr} {la : Addr} {res : List D} {m : Nat} {Dn : Ends} {gp tp fp : Addr} {g t : Row} {gs ts : List Row} {fvs : List V} {acc : List D} {O : List Addr} {ov un vm : Option V} {H : Hp}
    (sm : Same H0 H) (hg : H gp = some (.lst (refs (g :: gs)))) (ht : H tp = some (.lst (refs (t :: ts)))) (hf : H fp = some (.lst fvs)) (rg : RwP H (g :: gs)) (rt : RwP H (t :: ts))
    (nd : (gp :: tp :: fp :: (ads (g :: gs) ++ ads (t :: ts))).Nodup) (fr : ∀ a ∈ gp :: tp :: fp :: (ads (g :: gs) ++ ads (t :: ts)), H0 a = none ∧ a ∈ O) (hO : ∀ a ∈ Ob, a ∈ O) (al : ∀ a ∈ O, H a ≠ none) (da : DpAll K (fz H O) fvs acc)
    (lp : loopM (m + 1) ((g :: gs).map (·.2)) ((t :: ts).map (·.2)) acc = some res) (lg : (g :: gs).length ≤ 200) (lt : (t :: ts).length ≤ 200) (lm : acc.length + (m + 1) ≤ 1000)
    (k : ∀ σ' H', Lp K H0 Ob la res m σ' H' → Dn.nx σ' H') :
    tB K Dn [some (.ref la), some (.ref gp), some (.ref tp), ov, un, some (.ref fp), vm, none, none, none] H := by
  obtain ⟨ga, gh, gz⟩ := g
  obtain ⟨ta, th, tz⟩ := t
  generalize hmn : (if tz < gz then tz else gz) = mn at *
  have hga := rg _ List.mem_cons_self
  have hta := rt _ List.mem_cons_self
  dsimp only at hga hta
  -- the distinct places
  have frA := fr
  simp only [ads, List.map_cons, List.cons_append, List.nodup_cons, List.mem_cons, List.mem_append, not_or] at nd fr
  obtain ⟨⟨a1, a2, a3, a4, a5, a6⟩, ⟨b2, b3, b4, b5, b6⟩, ⟨c3, c4, c5, c6⟩, ⟨d4, d5, d6⟩, nd2⟩ := nd
  obtain ⟨e1, e2, e3⟩ := List.nodup_append.mp nd2
  obtain ⟨e4, e5⟩ := List.nodup_cons.mp e2
  have e6 : ta ∉ gs.map (·.1) := fun z => e3 _ z _ List.mem_cons_self rfl
  have f1 := fr gp (.inl rfl)
  have f2 := fr tp (.inr (.inl rfl))
  have f3 := fr fp (.inr (.inr (.inl rfl)))
  have f4 := fr ga (.inr (.inr (.inr (.inl rfl))))
  have f5 := fr ta (.inr (.inr (.inr (.inr (.inr (.inl rfl))))))
  -- 1. many = min(..)
  refine (ix2 (K := K) rfl hg rg).2 ((ix2 (K := K) rfl ht rt).2 ⟨gz, tz, rfl, ?_⟩)
  dsimp only
  rw [hmn]
  -- 2. found.append(..)
  refine ⟨.ref fp, rfl, .inl ⟨rfl, fvs, .inl (.inl hf)⟩, (ix2 (K := K) rfl hg rg).1 ((ix2 (K := K) rfl ht rt).1 ⟨.int mn, rfl, (by show 3 ≤ sizeLine; decide), fun q hq => ?_⟩)⟩
  have nq : ∀ b o, H b = some o → b ≠ q := fun b o e => ne_of_none e hq
  have lf : fvs.length = acc.length := da.length
  refine ⟨fp, fvs, .ref q, rfl, rfl, by rw [upd_ne (nq _ _ hf)]; exact hf, by rw [lf, sizeLine_eq]; omega, ?_⟩
  generalize hH2 : upd (upd H q (.tup [.int gh, .int th, .int mn])) fp (.lst (fvs ++ [.ref q])) = H2
  have k2 : ∀ b o, H b = some o → b ≠ fp → H2 b = some o := fun b o e nb => by rw [← hH2, upd_ne nb, upd_ne (nq _ _ e)]; exact e
  have q2 : H2 q = some (.tup [.int gh, .int th, .int mn]) := by rw [← hH2, upd_ne (nq _ _ hf).symm]; exact upd_same
  have fp2 : H2 fp = some (.lst (fvs ++ [.ref q])) := by rw [← hH2]; exact upd_same
  have n2' : ∀ b, H2 b = none → H b = none ∧ b ≠ q ∧ b ≠ fp := fun b e => by
    rw [← hH2] at e
    obtain ⟨e1, e2⟩ := up_none e
    obtain ⟨e3, e4⟩ := up_none e2
    exact ⟨e4, e3, e1⟩
  have hg2 := k2 _ _ hg a2
  have ht2 := k2 _ _ ht b2
  have rg2 : RwP H2 ((ga, gh, gz) :: gs) := fun p hp => k2 _ _ (rg p hp) fun z => by
    rcases List.mem_cons.mp hp with rfl | hp
    · exact c3 z.symm
    · exact c4 (List.mem_map.mpr ⟨p, hp, z⟩)
  have rt2 : RwP H2 ((ta, th, tz) :: ts) := fun p hp => k2 _ _ (rt p hp) fun z => by
    rcases List.mem_cons.mp hp with rfl | hp
    · exact c5 z.symm
    · exact c6 (List.mem_map.mpr ⟨p, hp, z⟩)
  have ga2 := rg2 _ List.mem_cons_self
  have ta2 := rt2 _ List.mem_cons_self
  dsimp only at ga2 ta2
  -- 3. the two stores
  refine (ix2 (K := K) rfl hg2 rg2).2 ⟨.int mn, rfl, gz, mn, rfl, rfl, (ix2 (K := K) rfl ht2 rt2).2 ⟨.int mn, rfl, tz, mn, rfl, rfl, (by show 2 ≤ sizeLine; decide), fun q' hq' => ?_⟩⟩
  obtain ⟨z1, z2, z3⟩ := n2' _ hq'
  have nq' : ∀ b o, H2 b = some o → b ≠ q' := fun b o e => ne_of_none e hq'
  have gT : upd H2 q' (.tup [.int (gz - mn), .int (tz - mn)]) ga = some (.lst [.int gh, .int gz]) := by rw [upd_ne (nq' _ _ ga2)]; exact ga2
  refine ⟨q', [.int (gz - mn), .int (tz - mn)], rfl, .inl (.inl upd_same), rfl, .int (gz - mn), [.int (tz - mn)], rfl, .ref gp, rfl, .inl ⟨gp, _, 0, .ref ga, rfl, rfl, .inl (.inl (by rw [upd_ne (nq' _ _ hg2)]; exact hg2)), at0, ga, [.int gh, .int gz], 1, 1, rfl, rfl, gT, rfl, ?_⟩⟩
  have nT : ta ≠ ga := fun z => d5 z.symm
  have gT2 : upd (upd H2 q' (.tup [.int (gz - mn), .int (tz - mn)])) ga (.lst [.int gh, .int (gz - mn)]) tp = some (.lst (refs ((ta, th, tz) :: ts))) := by
    rw [upd_ne b3, upd_ne (nq' _ _ ht2)]; exact ht2
  have gT3 : upd (upd H2 q' (.tup [.int (gz - mn), .int (tz - mn)])) ga (.lst [.int gh, .int (gz - mn)]) ta = some (.lst [.int th, .int tz]) := by
    rw [upd_ne nT, upd_ne (nq' _ _ ta2)]; exact ta2
  refine ⟨.int (tz - mn), [], rfl, .ref tp, rfl, .inl ⟨tp, _, 0, .ref ta, rfl, rfl, .inl (.inl gT2), at0, ta, [.int th, .int tz], 1, 1, rfl, rfl, gT3, rfl, rfl, ?_⟩⟩
  generalize hH5 : upd (upd (upd H2 q' (.tup [.int (gz - mn), .int (tz - mn)])) ga (.lst ([V.int gh, .int gz].set 1 (.int (gz - mn))))) ta (.lst ([V.int th, .int tz].set 1 (.int (tz - mn)))) = H5
  have k5 : ∀ b o, H2 b = some o → b ≠ ga → b ≠ ta → H5 b = some o := fun b o e nb nb' => by rw [← hH5, upd_ne nb', upd_ne nb, upd_ne (nq' _ _ e)]; exact e
  have ga5 : H5 ga = some (.lst [.int gh, .int (gz - mn)]) := by rw [← hH5, upd_ne d5]; exact upd_same
  have ta5 : H5 ta = some (.lst [.int th, .int (tz - mn)]) := by rw [← hH5]; exact upd_same
  have n5' : ∀ b, H5 b = none → H2 b = none := fun b e => by
    rw [← hH5] at e
    exact (up_none (up_none (up_none e).2).2).2
  have hg5 := k5 _ _ hg2 a3 a5
  have ht5 := k5 _ _ ht2 b3 b5
  have rg5 : RwP H5 ((ga, gh, gz - mn) :: gs) := fun p hp => by
    rcases List.mem_cons.mp hp with rfl | hp
    · exact ga5
    · exact k5 _ _ (rg2 p (List.mem_cons_of_mem _ hp)) (fun z => d4 (List.mem_map.mpr ⟨p, hp, z⟩)) (fun z => e6 (List.mem_map.mpr ⟨p, hp, z⟩))
  have rt5 : RwP H5 ((ta, th, tz - mn) :: ts) := fun p hp => by
    rcases List.mem_cons.mp hp with rfl | hp
    · exact ta5
    · exact k5 _ _ (rt2 p (List.mem_cons_of_mem _ hp)) (fun z => d6 (List.mem_map.mpr ⟨p, hp, z⟩)) (fun z => e4 (List.mem_map.mpr ⟨p, hp, z⟩))
  -- 4., 5. the rows that are left
  show tLc (iList K (tVar 1)) (gName 9) (tRow K) (tVar 9) [9] [some (.ref la), some (.ref gp), some (.ref tp), ov, un, some (.ref fp), some (.int mn), none, none, none] H5 (fun x H1 => tAsg (tLc (iList K (tVar 2)) (gName 9) (tRow K) (tVar 9) [9]) (gName 2) Dn [some (.ref la), some x, some (.ref tp), ov, un, some (.ref fp), some (.int mn), none, none, none] H1)
  refine filt_ans (K := K) (tt := tRow K) (te := tVar 9) (j := 1) (σ := [some (.ref la), some (.ref gp), some (.ref tp), ov, un, some (.ref fp), some (.int mn), none, none, none]) (gp := gp) (ps := (ga, gh, gz - mn) :: gs) rfl (by show 9 < 10; decide) hg5 rg5 lg row_ht (fun σ H v Q e q => ⟨v, e, q⟩) fun D1 hD1 => ?_
  have hD1' := n5' _ hD1
  obtain ⟨y1, y2, y3⟩ := n2' _ hD1'
  have nD1 : ∀ b o, H5 b = some o → b ≠ D1 := fun b o e => ne_of_none e hD1
  have rt6 : RwP (upd H5 D1 (.lst (refs (posP ((ga, gh, gz - mn) :: gs))))) ((ta, th, tz - mn) :: ts) := fun p hp => by rw [upd_ne (nD1 _ _ (rt5 p hp))]; exact rt5 p hp
  show tLc (iList K (tVar 2)) (gName 9) (tRow K) (tVar 9) [9] [some (.ref la), some (.ref D1), some (.ref tp), ov, un, some (.ref fp), some (.int mn), none, none, none] _ (fun x H1 => Dn.nx [some (.ref la), some (.ref D1), some x, ov, un, some (.ref fp), some (.int mn), none, none, none] H1)
  refine filt_ans (K := K) (tt := tRow K) (te := tVar 9) (j := 2) (σ := [some (.ref la), some (.ref D1), some (.ref tp), ov, un, some (.ref fp), some (.int mn), none, none, none]) (gp := tp) (ps := (ta, th, tz - mn) :: ts) rfl (by show 9 < 10; decide) (by rw [upd_ne (nD1 _ _ ht5)]; exact ht5) rt6 lt row_ht (fun σ H v Q e q => ⟨v, e, q⟩) fun D2 hD2 => ?_
  obtain ⟨w1, w2⟩ := up_none hD2
  have w2' := n5' _ w2
  obtain ⟨w3, w4, w5⟩ := n2' _ w2'
  -- the new state
  have nD2 : ∀ b o, H5 b = some o → b ≠ D2 := fun b o e => ne_of_none e w2
  refine k _ _ ?_
  generalize hH7 : upd (upd H5 D1 (.lst (refs (posP ((ga, gh, gz - mn) :: gs))))) D2 (.lst (refs (posP ((ta, th, tz - mn) :: ts)))) = H7
  have k7 : ∀ b o, H5 b = some o → H7 b = some o := fun b o e => by rw [← hH7, upd_ne (nD2 _ _ e), upd_ne (nD1 _ _ e)]; exact e
  have kk : ∀ b o, H b = some o → b ≠ fp → b ≠ ga → b ≠ ta → H7 b = some o := fun b o e x1 x2 x3 => k7 _ _ (k5 _ _ (k2 _ _ e x1) x2 x3)
  have h0n : ∀ b o, H0 b = some o → b ≠ fp ∧ b ≠ ga ∧ b ≠ ta := fun b o e => ⟨ne_of_none e f3.1, ne_of_none e f4.1, ne_of_none e f5.1⟩
  have H0n : ∀ b, H b = none → H0 b = none := fun b e => by
    cases e' : H0 b with
    | none => rfl
    | some o => rw [sm _ _ e'] at e; cases e
  have sub1 : ∀ a ∈ ads (posP ((ga, gh, gz - mn) :: gs)), a = ga ∨ a ∈ gs.map (·.1) := fun a ha => by
    obtain ⟨p, hp, rfl⟩ := List.mem_map.mp ha
    rcases List.mem_cons.mp (List.mem_filter.mp hp).1 with rfl | hp
    · exact .inl rfl
    · exact .inr (List.mem_map.mpr ⟨p, hp, rfl⟩)
  have sub2 : ∀ a ∈ ads (posP ((ta, th, tz - mn) :: ts)), a = ta ∨ a ∈ ts.map (·.1) := fun a ha => by
    obtain ⟨p, hp, rfl⟩ := List.mem_map.mp ha
    rcases List.mem_cons.mp (List.mem_filter.mp hp).1 with rfl | hp
    · exact .inl rfl
    · exact .inr (List.mem_map.mpr ⟨p, hp, rfl⟩)
  have old1 : ∀ a, a = ga ∨ a ∈ gs.map (·.1) → H0 a = none ∧ a ∈ O ∧ a ≠ fp ∧ H a ≠ none := fun a ha => by
    have z : H0 a = none ∧ a ∈ O := fr a (by rcases ha with rfl | ha; exact .inr (.inr (.inr (.inl rfl))); exact .inr (.inr (.inr (.inr (.inl ha)))))
    refine ⟨z.1, z.2, ?_, al a z.2⟩
    rcases ha with rfl | ha
    · exact fun q => c3 q.symm
    · exact fun q => c4 (q ▸ ha)
  have old2 : ∀ a, a = ta ∨ a ∈ ts.map (·.1) → H0 a = none ∧ a ∈ O ∧ a ≠ fp ∧ H a ≠ none := fun a ha => by
    have z : H0 a = none ∧ a ∈ O := fr a (by rcases ha with rfl | ha; exact .inr (.inr (.inr (.inr (.inr (.inl rfl))))); exact .inr (.inr (.inr (.inr (.inr (.inr ha))))))
    refine ⟨z.1, z.2, ?_, al a z.2⟩
    rcases ha with rfl | ha
    · exact fun q => c5 q.symm
    · exact fun q => c6 (q ▸ ha)
  have nd12 : ∀ a, (a = ga ∨ a ∈ gs.map (·.1)) → ∀ b, (b = ta ∨ b ∈ ts.map (·.1)) → a ≠ b := fun a ha b hb q => by
    subst q
    rcases ha with rfl | ha <;> rcases hb with hb | hb
    · exact d5 hb
    · exact d6 hb
    · rw [hb] at ha; exact e6 ha
    · exact e3 _ ha _ (List.mem_cons_of_mem _ hb) rfl
  have nf1 : ads (posP ((ga, gh, gz - mn) :: gs)) |>.Nodup := by
    have : (ads ((ga, gh, gz - mn) :: gs)).Nodup := List.nodup_cons.mpr ⟨d4, e1⟩
    exact this.sublist (List.filter_sublist.map _)
  have nf2 : ads (posP ((ta, th, tz - mn) :: ts)) |>.Nodup := by
    have : (ads ((ta, th, tz - mn) :: ts)).Nodup := List.nodup_cons.mpr ⟨e4, e5⟩
    exact this.sublist (List.filter_sublist.map _)
  have len1 : (posP ((ga, gh, gz - mn) :: gs)).length ≤ 200 := Nat.le_trans (List.length_filter_le _ _) lg
  have len2 : (posP ((ta, th, tz - mn) :: ts)).length ≤ 200 := Nat.le_trans (List.length_filter_le _ _) lt
  have nfD1 : fp ≠ D1 := fun q => y3 q.symm
  have nfD2 : fp ≠ D2 := fun q => w5 q.symm
  have hD12 : D1 ≠ D2 := fun q => w1 q.symm
  refine ⟨D1, D2, fp, posP ((ga, gh, gz - mn) :: gs), posP ((ta, th, tz - mn) :: ts), fvs ++ [.ref q], acc ++ [.tuple [.int gh, .int th, .int mn]], D2 :: D1 :: O, ov, un, some (.int mn), rfl, fun b o e => ?_, ?_, ?_, ?_, ?_, ?_, ?_, ?_, fun a ha => List.mem_cons_of_mem _ (List.mem_cons_of_mem _ (hO a ha)), ?_, ?_, ?_, len1, len2, by rw [List.length_append]; simp; omega⟩
  · obtain ⟨x1, x2, x3⟩ := h0n _ _ e
    exact kk _ _ (sm _ _ e) x1 x2 x3
  · rw [← hH7, upd_ne hD12]; exact upd_same
  · rw [← hH7]; exact upd_same
  · exact k7 _ _ (k5 _ _ fp2 c3 c5)
  · exact fun p hp => k7 _ _ (rg5 p (List.mem_filter.mp hp).1)
  · exact fun p hp => k7 _ _ (rt5 p (List.mem_filter.mp hp).1)
  · simp only [List.nodup_cons, List.mem_cons, List.mem_append, not_or]
    refine ⟨⟨hD12, fun q => nfD1 q.symm, fun m => (old1 _ (sub1 _ m)).2.2.2 y1, fun m => (old2 _ (sub2 _ m)).2.2.2 y1⟩, ⟨fun q => nfD2 q.symm, fun m => (old1 _ (sub1 _ m)).2.2.2 w3, fun m => (old2 _ (sub2 _ m)).2.2.2 w3⟩,
      ⟨fun m => (old1 _ (sub1 _ m)).2.2.1 rfl, fun m => (old2 _ (sub2 _ m)).2.2.1 rfl⟩, List.nodup_append.mpr ⟨nf1, nf2, fun a ha b hb => nd12 a (sub1 a ha) b (sub2 b hb)⟩⟩
  · intro a ha
    simp only [List.mem_cons, List.mem_append] at ha ⊢
    rcases ha with rfl | rfl | rfl | ha | ha
    · exact ⟨H0n _ y1, .inr (.inl rfl)⟩
    · exact ⟨H0n _ w3, .inl rfl⟩
    · exact ⟨f3.1, .inr (.inr f3.2)⟩
    · exact ⟨(old1 _ (sub1 _ ha)).1, .inr (.inr (old1 _ (sub1 _ ha)).2.1)⟩
    · exact ⟨(old2 _ (sub2 _ ha)).1, .inr (.inr (old2 _ (sub2 _ ha)).2.1)⟩
  · intro a ha
    rcases List.mem_cons.mp ha with rfl | ha
    · rw [← hH7, upd_same]; intro z; cases z
    rcases List.mem_cons.mp ha with rfl | ha
    · rw [← hH7, upd_ne hD12, upd_same]; intro z; cases z
    · cases e : H a with
      | none => exact absurd e (al a ha)
      | some o =>
        by_cases x1 : a = fp
        · rw [x1, k7 _ _ (k5 _ _ fp2 c3 c5)]; intro z; cases z
        by_cases x2 : a = ga
        · rw [x2, k7 _ _ ga5]; intro z; cases z
        by_cases x3 : a = ta
        · rw [x3, k7 _ _ ta5]; intro z; cases z
        rw [kk _ _ e x1 x2 x3]; intro z; cases z
  · have same : Same (fz H O) (fz H7 (D2 :: D1 :: O)) := fun b o e => by
      obtain ⟨nb, e⟩ := fz_some e
      refine fz_mk (fun m => ?_) (kk _ _ e (fun q => nb (q ▸ f3.2)) (fun q => nb (q ▸ f4.2)) (fun q => nb (q ▸ f5.2)))
      rcases List.mem_cons.mp m with rfl | m
      · rw [w3] at e; cases e
      rcases List.mem_cons.mp m with rfl | m
      · rw [y1] at e; cases e
      · exact nb m
    refine (DpAll.same same da).snoc (.tup (.inl (.inl (fz_mk (fun m => ?_) (k7 _ _ (k5 _ _ q2 ?_ ?_))))) (.cons (.int _) (.cons (.int _) (.cons (.int _) .nil))))
    · rcases List.mem_cons.mp m with rfl | m
      · exact w4 rfl
      rcases List.mem_cons.mp m with rfl | m
      · exact y2 rfl
      · exact al _ m hq
    · rintro rfl; rw [hga] at hq; cases hq
    · rintro rfl; rw [hta] at hq; cases hq
  · have lp' : loopM m (posM ((gh, gz - (if tz < gz then tz else gz)) :: gs.map (·.2))) (posM ((th, tz - (if tz < gz then tz else gz)) :: ts.map (·.2))) (acc ++ [.tuple [.int gh, .int th, .int (if tz < gz then tz else gz)]]) = some res := lp
    rw [hmn] at lp'
    rw [posP_map, posP_map]
    exact lp'
end Ev
set_option maxHeartbeats 200000
/-! M4: moves_by ahead of its loop. Own work. -/
namespace Ev
open PySem PySem.Spec L2
/-- two lists of rows -/
def S2 (H0 H : Hp) (gp tp : Addr) (gs ts : List Row) : Prop :=
  Same H0 H ∧ H gp = some (.lst (refs gs)) ∧ H tp = some (.lst (refs ts)) ∧ RwP H gs ∧ RwP H ts ∧ (gp :: tp :: (ads gs ++ ads ts)).Nodup ∧ ∀ a ∈ gp :: tp :: (ads gs ++ ads ts), H0 a = none
theorem S2.grow {H0 H H' : Hp} {gp tp : Addr} {gs ts : List Row} (s : S2 H0 H gp tp gs ts) (k : Same H H') : S2 H0 H' gp tp gs ts := by
  obtain ⟨s1, s2, s3, s4, s5, s6, s7⟩ := s
  exact ⟨fun b o e => k _ _ (s1 b o e), k _ _ s2, k _ _ s3, fun p hp => k _ _ (s4 p hp), fun p hp => k _ _ (s5 p hp), s6, s7⟩
theorem S2.swap {H0 H : Hp} {gp tp : Addr} {gs ts : List Row} (s : S2 H0 H gp tp gs ts) : S2 H0 H tp gp ts gs := by
  obtain ⟨s1, s2, s3, s4, s5, s6, s7⟩ := s
  have pm : (tp :: gp :: (ads ts ++ ads gs)).Perm (gp :: tp :: (ads gs ++ ads ts)) := (List.Perm.swap _ _ _).trans ((List.perm_append_comm.cons _).cons _)
  exact ⟨s1, s3, s2, s5, s4, pm.nodup_iff.mpr s6, fun a ha => s7 a (pm.mem_iff.mp ha)⟩
theorem S2.app {H0 H : Hp} {gp tp p : Addr} {gs ts : List Row} {h z : Int} (s : S2 H0 H gp tp gs ts) (hp : H p = none) : S2 H0 (upd (upd H p (.lst [.int h, .int z])) gp (.lst (refs gs ++ [.ref p]))) gp tp (gs ++ [(p, h, z)]) ts := by
  obtain ⟨s1, s2, s3, s4, s5, s6, s7⟩ := s
  have nP : ∀ b o, H b = some o → b ≠ p := fun b o e => ne_of_none e hp
  have k : ∀ b o, H b = some o → b ≠ gp → upd (upd H p (.lst [.int h, .int z])) gp (.lst (refs gs ++ [.ref p])) b = some o := fun b o e n => by rw [upd_ne n, upd_ne (nP _ _ e)]; exact e
  obtain ⟨n1, n2⟩ := List.nodup_cons.mp s6
  obtain ⟨n3, n4⟩ := List.nodup_cons.mp n2
  obtain ⟨n5, n6, n7⟩ := List.nodup_append.mp n4
  have ea : ads (gs ++ [(p, h, z)]) = ads gs ++ [p] := by simp [ads]
  have npg : p ∉ ads gs := fun m => by
    obtain ⟨q, hq, e⟩ := List.mem_map.mp m
    have := s4 q hq
    rw [e, hp] at this; cases this
  have npt : p ∉ ads ts := fun m => by
    obtain ⟨q, hq, e⟩ := List.mem_map.mp m
    have := s5 q hq
    rw [e, hp] at this; cases this
  have h0 : H0 p = none := by
    cases e : H0 p with
    | none => rfl
    | some o => rw [s1 _ _ e] at hp; cases hp
  refine ⟨fun b o e => k _ _ (s1 _ _ e) (ne_of_none e (s7 gp List.mem_cons_self)), ?_, k _ _ s3 (fun q => n1 (q ▸ List.mem_cons_self)), fun q hq => ?_, fun q hq => k _ _ (s5 q hq) (fun e => n1 (e ▸ List.mem_cons_of_mem _ (List.mem_append_right _ (List.mem_map.mpr ⟨q, hq, rfl⟩)))), ?_, fun a ha => ?_⟩
  · rw [upd_same]; simp [refs, List.map_append]
  · rcases List.mem_append.mp hq with hq | hq
    · exact k _ _ (s4 q hq) (fun e => n1 (e ▸ List.mem_cons_of_mem _ (List.mem_append_left _ (List.mem_map.mpr ⟨q, hq, rfl⟩))))
    · rw [List.mem_singleton.mp hq, upd_ne (nP _ _ s2).symm]; exact upd_same
  · rw [ea]
    refine List.nodup_cons.mpr ⟨fun m => ?_, List.nodup_cons.mpr ⟨fun m => ?_, List.nodup_append.mpr ⟨List.nodup_append.mpr ⟨n5, by simp, fun a ha b hb q => ?_⟩, n6, fun a ha b hb q => ?_⟩⟩⟩
    · rcases List.mem_cons.mp m with m | m
      · exact n1 (m ▸ List.mem_cons_self)
      · rcases List.mem_append.mp m with m | m
        · rcases List.mem_append.mp m with m | m
          · exact n1 (List.mem_cons_of_mem _ (List.mem_append_left _ m))
          · exact nP _ _ s2 (List.mem_singleton.mp m)
        · exact n1 (List.mem_cons_of_mem _ (List.mem_append_right _ m))
    · rcases List.mem_append.mp m with m | m
      · rcases List.mem_append.mp m with m | m
        · exact n3 (List.mem_append_left _ m)
        · exact nP _ _ s3 (List.mem_singleton.mp m)
      · exact n3 (List.mem_append_right _ m)
    · rw [List.mem_singleton.mp hb] at q; exact npg (q ▸ ha)
    · subst q
      rcases List.mem_append.mp ha with ha | ha
      · exact n7 _ ha _ hb rfl
      · rw [List.mem_singleton.mp ha] at hb; exact npt hb
  · rw [ea] at ha
    rcases List.mem_cons.mp ha with rfl | ha
    · exact s7 _ List.mem_cons_self
    rcases List.mem_cons.mp ha with rfl | ha
    · exact s7 _ (List.mem_cons_of_mem _ List.mem_cons_self)
    rcases List.mem_append.mp ha with ha | ha
    · rcases List.mem_append.mp ha with ha | ha
      · exact s7 _ (List.mem_cons_of_mem _ (List.mem_cons_of_mem _ (List.mem_append_left _ ha)))
      · rw [List.mem_singleton.mp ha]; exact h0
    · exact s7 _ (List.mem_cons_of_mem _ (List.mem_cons_of_mem _ (List.mem_append_right _ ha)))
/-- x.append([lacks.index(None), d]) -/
abbrev tApp (K : PySem.W.Frag) (j : Nat) (te : TE) : TE := tBM K "list" rAppend (tVar j) (tCons (tLst (tCons (tBM K "list" (rIndexD K) (tVar 0) (tCons (tC .non) tNil)) (tCons te tNil))) tNil)
theorem app_ans {K : PySem.W.Frag} {σ : St} {H0 H : Hp} {Q : VK} {la gp tp : Addr} {gs ts : List Row} {vs : List V} {xs : List D} {j : Nat} {te : TE} {i d : Int} (h0 : σ[0]? = some (some (.ref la))) (hj : σ[j]? = some (some (.ref gp)))
    (hl : SqL K H0 la vs) (hd : DpAll K H0 vs xs) (en : noneAt xs = some i) (s : S2 H0 H gp tp gs ts) (lg : gs.length ≤ 150) (he : ∀ (H : Hp) (Q : VK), Q (.int d) H → te σ H Q)
    (k : ∀ p H', S2 H0 H' gp tp (gs ++ [(p, i, d)]) ts → Q .non H') : tApp K j te σ H Q := by
  have dl : Dp K H (.ref la) (.list xs) := Dp.same s.1 (.lst hl hd)
  unfold noneAt at en
  cases eg : gIndex (.list xs) [.none] with
  | none => rw [eg] at en; cases en
  | some w =>
    rw [eg] at en
    have := asI_eq (show asI w = some i from en)
    subst this
    refine ⟨.ref gp, hj, .inl ⟨rfl, _, .inl (.inl s.2.1)⟩, .ref la, h0, .inl ⟨rfl, _, SqL.same s.1 hl⟩, ?_⟩
    have fz0 : fz H [] = H := by funext b; exact fz_out (by simp)
    dsimp only [tCons, tC, tNil]
    refine pr_index [] H (.ref la) [.non] (.list xs) [.none] (.int i) _ (fun a ha => by cases ha) (by rw [fz0]; exact dl) (.cons .non .nil) eg fun w H1 sm dw => ?_
    obtain rfl := dp_int dw
    refine he _ _ ⟨(by show 2 ≤ sizeLine; decide), fun p hp => ?_⟩
    have s1 := s.grow sm
    have npg : gp ≠ p := ne_of_none s1.2.1 hp
    exact ⟨gp, refs gs, .ref p, rfl, rfl, by rw [upd_ne npg]; exact s1.2.1, by show (refs gs).length < sizeLine; unfold refs; rw [List.length_map, sizeLine_eq]; omega, k p _ (s1.app hp)⟩
end Ev
set_option maxHeartbeats 200000
/-! M5: moves_by read from its start. Own work. -/
namespace Ev
open PySem PySem.Spec L2
/-- lack is not None and lack < 0, > 0 -/
abbrev tSgn (r : R2) : TT := tAnd (tTest (tOp (fun x y H Q => y = .non ∧ Q (.bl (!decide (x = .non))) H) (tVar 8) (tC .non))) (tTest (tOp r (tVar 8) (tC (.int 0))))
theorem sgn_ht {r : R2} {s : Int} (hr : ∀ (z : Int) (H : Hp) (Q : VK), Q (.bl (decide (0 < s * z))) H → r (.int z) (.int 0) H Q) (σ : St) (H : Hp) (o : Option Int) (Q : Bool → Hp → Prop) (e8 : σ[8]? = some (some (vO o)))
    (q : Q (posO s o) H) : tSgn r σ H Q := by
  cases o with
  | none =>
    refine ⟨.non, e8, rfl, false, ?_, ?_⟩
    · simp
    · show if false = true then _ else _
      rw [if_neg Bool.false_ne_true]; exact q
  | some z =>
    refine ⟨.int z, e8, rfl, true, ?_, ?_⟩
    · simp
    · show if true = true then _ else _
      rw [if_pos rfl]
      exact ⟨.int z, e8, hr z H _ ⟨_, rfl, q⟩⟩
theorem movesBy_len {sums : FX} {ds : List D} {α : D → Prop} {β : Str → Option (Str × Int) → Prop} (m : match movesBy sums ds with | .ok d => α d | .exc m f => β m f | .no => False) : ds.length = 1 := by
  unfold movesBy at m
  split at m
  · rename_i e
    split at e
    · rfl
    · cases e
  · rename_i e
    split at e
    · rfl
    · cases e
  · exact m.elim
abbrev tLt : R2 := rI0 fun i j => .bl (decide (i < j))
abbrev tGt : R2 := rI0 fun i j => .bl (decide (j < i))
abbrev tR3 (K : PySem.W.Frag) (mg : Str → Option Value) (W : WX) (sums : FX) : TS :=
  tSeq (tAsg (tCallSD (spP K mg sums) [] (fun σ => WE W σ) (tCons (tVar 0) tNil)) (gTup K 2 (gCons (gName 3) (gCons (gName 4) gNil))))
  (tSeq (tIfS (tTest (tOp tLt (tVar 3) (tVar 4))) (tDrop (tApp K 1 (tSub (tVar 4) (tVar 3)))) tNext)
  (tSeq (tIfS (tTest (tOp tLt (tVar 4) (tVar 3))) (tDrop (tApp K 2 (tSub (tVar 3) (tVar 4)))) tNext)
  (tSeq (tAsg (tLst tNil) (gName 5))
  (tSeq (tWhile (tTest (tOp (rNeD K) (tVar 1) (tLst tNil))) (tB K))
  (tRet (tVar 5))))))
abbrev tRows (K : PySem.W.Frag) (r : R2) (te : TE) : TE := tLc (iEnum K (tCons (tVar 0) tNil)) (gTup K 2 (gCons (gName 7) (gCons (gName 8) gNil))) (tSgn r) (tLst (tCons (tVar 7) (tCons te tNil))) [7, 8]
abbrev tMv (K : PySem.W.Frag) (mg : Str → Option Value) (W : WX) (sums : FX) : TS :=
  tSeq (tAsg (tRows K tLt (tUn (rU fun i => .int (-i)) (tVar 8))) (gName 1))
  (tSeq (tAsg (tRows K tGt (tVar 8)) (gName 2)) (tR3 K mg W sums))
theorem movesBy_inv {sums : FX} {ds : List D} {α : D → Prop} {β : Str → Option (Str × Int) → Prop} (m : match movesBy sums ds with | .ok d => α d | .exc m f => β m f | .no => False) :
    ∃ xs ls over under gs ts ms, ds = [.list xs] ∧ sums [.list xs] = .ok (.tuple [.int over, .int under]) ∧ optsOf xs = some ls ∧ ls.length ≤ 100 ∧
      (if over < under then (noneAt xs).map fun j => rowsM (-1) 0 ls ++ [(j, under - over)] else some (rowsM (-1) 0 ls)) = some gs ∧ (if under < over then (noneAt xs).map fun j => rowsM 1 0 ls ++ [(j, over - under)] else some (rowsM 1 0 ls)) = some ts ∧
      loopM 300 gs ts [] = some ms ∧ α (.list ms) := by
  unfold movesBy at m
  split at m
  · rename_i d e
    split at e
    · rename_i xs
      split at e
      · rename_i over under es
        cases eo : optsOf xs with
        | none => rw [eo] at e; cases e
        | some ls =>
          rw [eo] at e
          cases em : movesM xs ls over under with
          | none => rw [show (some ls).bind (fun l => movesM xs l over under) = none from em] at e; cases e
          | some ms =>
            rw [show (some ls).bind (fun l => movesM xs l over under) = some ms from em] at e
            cases e
            unfold movesM at em
            cases e1 : (if over < under then (noneAt xs).map fun j => rowsM (-1) 0 ls ++ [(j, under - over)] else some (rowsM (-1) 0 ls)) with
            | none => rw [e1] at em; cases em
            | some gs =>
              rw [e1] at em
              cases e2 : (if under < over then (noneAt xs).map fun j => rowsM 1 0 ls ++ [(j, over - under)] else some (rowsM 1 0 ls)) with
              | none => rw [e2] at em; cases em
              | some ts =>
                rw [e2] at em
                have em : (if ls.length ≤ 100 then loopM 300 gs ts [] else none) = some ms := em
                by_cases hz : ls.length ≤ 100
                · rw [if_pos hz] at em
                  exact ⟨xs, ls, over, under, gs, ts, ms, rfl, es, eo, hz, e1, e2, em, m⟩
                · rw [if_neg hz] at em; cases em
      · cases e
    · cases e
  · rename_i e
    split at e
    · split at e
      · rename_i xs _ over under es
        cases eo : (optsOf xs).bind fun l => movesM xs l over under with
        | none => rw [eo] at e; cases e
        | some ms => rw [eo] at e; cases e
      · cases e
    · cases e
  · exact m.elim
theorem rowsM_len (s : Int) : ∀ (l : List (Option Int)) (k : Nat), (rowsM s k l).length ≤ l.length
  | [], k => Nat.le_refl _
  | some x :: r, k => by
    have := rowsM_len s r (k + 1)
    unfold rowsM
    split
    · rw [List.length_cons, List.length_cons]; omega
    · rw [List.length_cons]; omega
  | none :: r, k => by
    have := rowsM_len s r (k + 1)
    unfold rowsM
    rw [List.length_cons]; omega
theorem tup2 {K : PySem.W.Frag} {M : Hp} {v : V} {i j : Int} (h : Dp K M v (.tuple [.int i, .int j])) : ∃ t, v = .ref t ∧ SqT K M t [.int i, .int j] := by
  cases h with
  | tup h a =>
    have := DpAll.ofInts (ns := [i, j]) a
    subst this
    exact ⟨_, rfl, h⟩
theorem loop_ans {K : PySem.W.Frag} {H0 : Hp} {Ob : List Addr} {la : Addr} {ms : List D} {σ : St} {H : Hp} {Dn : Ends} {m : Nat} (lp : Lp K H0 Ob la ms m σ H) (alb : ∀ a ∈ Ob, H0 a ≠ none)
    (k : ∀ v H', Same H0 H' → Dp K (fz H' Ob) v (.list ms) → Dn.rt v H') :
    tSeq (tWhile (tTest (tOp (rNeD K) (tVar 1) (tLst tNil))) (tB K)) (tRet (tVar 5)) Dn σ H := by
  refine ⟨fun m σ H => Lp K H0 Ob la ms m σ H, ⟨m, lp⟩, ?_⟩
  rintro m σ H ⟨gp, tp, fp, gs, ts, fvs, acc, O, ov, un, vm, rfl, sm, hg, ht, hf, rg, rt, nd, fr, hO, al, da, lo, lg, lt, lm⟩
  refine ⟨.ref gp, rfl, Nat.zero_le _, fun p hp => ?_⟩
  have np : ∀ b o, H b = some o → b ≠ p := fun b o e => ne_of_none e hp
  have s1 : Same H (upd H p (.lst [])) := same_upd hp
  have rg1 : RwP (upd H p (.lst [])) gs := fun q hq => s1 _ _ (rg q hq)
  have rt1 : RwP (upd H p (.lst [])) ts := fun q hq => s1 _ _ (rt q hq)
  refine ⟨.list (gs.map rowD), .list [], .lst (.inl (.inl (s1 _ _ hg))) (rows_dp rg1), .lst (.inl (.inl upd_same)) .nil, rows_shaped gs, by decide, _, rfl, ?_⟩
  have al1 : ∀ a ∈ O, upd H p (.lst []) a ≠ none := fun a ha => by
    cases e : H a with
    | none => exact absurd e (al a ha)
    | some o => rw [s1 _ _ e]; intro z; cases z
  have da1 : DpAll K (fz (upd H p (.lst [])) O) fvs acc := DpAll.same (fz_grow s1) da
  cases m with
  | zero => cases lo
  | succ m =>
    cases gs with
    | nil =>
      dsimp only
      rw [if_neg (by simp [PyData.eqv, PyData.eqvAll])]
      have ea : acc = ms := Option.some.inj lo
      subst ea
      refine ⟨.ref fp, rfl, k _ _ (fun b o e => s1 _ _ (sm _ _ e)) (.lst (.inl (.inl (fz_mk (fun mb => ?_) (s1 _ _ hf)))) (DpAll.same (fz_less hO) da1))⟩
      exact alb fp mb (fr fp (List.mem_cons_of_mem _ (List.mem_cons_of_mem _ List.mem_cons_self))).1
    | cons g gs =>
      dsimp only
      rw [if_pos (by simp [PyData.eqv, PyData.eqvAll])]
      cases ts with
      | nil => cases lo
      | cons t ts =>
        refine ⟨fun σ' H' => Lp K H0 Ob la ms m σ' H', fun σ' H' l => ⟨m, Nat.lt_succ_self _, l⟩, ?_⟩
        exact body_ans (fun b o e => s1 _ _ (sm _ _ e)) (s1 _ _ hg) (s1 _ _ ht) (s1 _ _ hf) rg1 rt1 nd fr hO al1 da1 lo lg lt lm fun σ' H' l => l
theorem found_ans {K : PySem.W.Frag} {H0 : Hp} {Ob : List Addr} {la : Addr} {ms : List D} {H : Hp} {Dn : Ends} {gp tp : Addr} {gs ts : List Row} {ov un : Option V} (s : S2 H0 H gp tp gs ts) (alb : ∀ a ∈ Ob, H0 a ≠ none)
    (lo : loopM 300 (gs.map (·.2)) (ts.map (·.2)) [] = some ms) (lg : gs.length ≤ 200) (lt : ts.length ≤ 200)
    (k : ∀ v H', Same H0 H' → Dp K (fz H' Ob) v (.list ms) → Dn.rt v H') :
    tSeq (tAsg (tLst tNil) (gName 5)) (tSeq (tWhile (tTest (tOp (rNeD K) (tVar 1) (tLst tNil))) (tB K)) (tRet (tVar 5))) Dn [some (.ref la), some (.ref gp), some (.ref tp), ov, un, none, none, none, none, none] H := by
  refine ⟨Nat.zero_le _, fun p hp => ?_⟩
  have s1 : Same H (upd H p (.lst [])) := same_upd hp
  obtain ⟨x1, x2, x3, x4, x5, x6, x7⟩ := s
  have h0p : H0 p = none := by
    cases e : H0 p with
    | none => rfl
    | some o => rw [x1 _ _ e] at hp; cases hp
  have npa : ∀ a ∈ gp :: tp :: (ads gs ++ ads ts), a ≠ p := fun a ha q => by
    subst q
    rcases List.mem_cons.mp ha with rfl | ha
    · rw [hp] at x2; cases x2
    rcases List.mem_cons.mp ha with rfl | ha
    · rw [hp] at x3; cases x3
    rcases List.mem_append.mp ha with ha | ha
    · obtain ⟨q, hq, rfl⟩ := List.mem_map.mp ha
      have := x4 q hq
      rw [hp] at this; cases this
    · obtain ⟨q, hq, rfl⟩ := List.mem_map.mp ha
      have := x5 q hq
      rw [hp] at this; cases this
  have pm : (gp :: tp :: p :: (ads gs ++ ads ts)).Perm (p :: gp :: tp :: (ads gs ++ ads ts)) := ((List.Perm.swap _ _ _).cons _).trans (List.Perm.swap _ _ _)
  refine loop_ans (la := la) (m := 300) ⟨gp, tp, p, gs, ts, [], [], gp :: tp :: p :: (ads gs ++ ads ts) ++ Ob, ov, un, none, rfl, fun b o e => s1 _ _ (x1 _ _ e), s1 _ _ x2, s1 _ _ x3, upd_same, fun q hq => s1 _ _ (x4 q hq), fun q hq => s1 _ _ (x5 q hq),
    pm.nodup_iff.mpr (List.nodup_cons.mpr ⟨fun m => npa p m rfl, x6⟩), fun a ha => ⟨?_, List.mem_append_left _ ha⟩, fun a ha => List.mem_append_right _ ha, fun a ha => ?_, .nil, lo, lg, lt, by decide⟩ alb k
  · rcases List.mem_cons.mp (pm.mem_iff.mp ha) with rfl | ha
    · exact h0p
    · exact x7 a ha
  · rcases List.mem_append.mp ha with ha | ha
    · rcases List.mem_cons.mp (pm.mem_iff.mp ha) with rfl | ha
      · rw [upd_same]; intro z; cases z
      · rw [upd_ne (npa a ha)]
        rcases List.mem_cons.mp ha with rfl | ha
        · rw [x2]; intro z; cases z
        rcases List.mem_cons.mp ha with rfl | ha
        · rw [x3]; intro z; cases z
        rcases List.mem_append.mp ha with ha | ha
        · obtain ⟨q, hq, rfl⟩ := List.mem_map.mp ha
          rw [x4 q hq]; intro z; cases z
        · obtain ⟨q, hq, rfl⟩ := List.mem_map.mp ha
          rw [x5 q hq]; intro z; cases z
    · cases e : H0 a with
      | none => exact absurd e (alb a ha)
      | some o => rw [s1 _ _ (x1 _ _ e)]; intro z; cases z
theorem moves_read {K : PySem.W.Frag} {mg : Str → Option Value} {W : WX} {sums : FX} {N : List Str} {H : Hp} {vs : List V} {Q : VK} {E : XK} {Dn : Ends} (hN : N.length = 10) (h : spP K mg (movesBy sums) vs H Q E) (hrt : ∀ v H', Q v H' → Dn.rt v H') : tMv K mg W sums Dn (L2.start N vs) H := by
  obtain ⟨Ob, ds, al, d, m⟩ := h
  obtain ⟨xs, ls, over, under, gs', ts', ms, rfl, es, eo, hz, eg, et, lo, kQ⟩ := movesBy_inv m
  cases d with
  | cons d t =>
    cases t
    cases d with
    | @lst la us _ hl da =>
      have := optsOf_eq eo da
      subst this
      have eσ : L2.start N [V.ref la] = [some (.ref la), none, none, none, none, none, none, none, none, none] := by
        unfold L2.start
        rw [hN]
        rfl
      rw [eσ]
      have hl0 : SqL K H la (ls.map vO) := SqL.same (fz_same H Ob) hl
      have da0 : DpAll K H (ls.map vO) xs := DpAll.same (fz_same H Ob) da
      -- givers
      show tRows K tLt (tUn (rU fun i => .int (-i)) (tVar 8)) [some (.ref la), none, none, none, none, none, none, none, none, none] H (fun x H1 => tSeq (tAsg (tRows K tGt (tVar 8)) (gName 2)) (tR3 K mg W sums) Dn [some (.ref la), some x, none, none, none, none, none, none, none, none] H1)
      refine rows_ans (K := K) (σ := [some (.ref la), none, none, none, none, none, none, none, none, none]) (s := -1) (tt := tSgn tLt) (te := tLst (tCons (tVar 7) (tCons (tUn (rU fun i => .int (-i)) (tVar 8)) tNil))) (la := la) (ls := ls) rfl (by show 9 ≤ 10; decide) hl0 hz
        (sgn_ht fun z H Q q => ⟨z, 0, rfl, rfl, by show Q (.bl (decide (z < 0))) H; rw [show decide (z < 0) = decide (0 < -1 * z) from decide_eq_decide.mpr (by omega)]; exact q⟩)
        (fun σ H i z Q e7 e8 k => ⟨.int i, e7, .int z, e8, z, rfl, (by show 2 ≤ sizeLine; decide), fun p hp => by show Q (.ref p) (upd H p (.lst [.int i, .int (-z)])); rw [show (-z) = -1 * z by omega]; exact k p hp⟩) fun D1 ps1 H1 sm1 n1 f1 nd1 h1 r1 e1 => ?_
      show tRows K tGt (tVar 8) [some (.ref la), some (.ref D1), none, none, none, none, none, none, none, none] H1 (fun x H1 => tR3 K mg W sums Dn [some (.ref la), some (.ref D1), some x, none, none, none, none, none, none, none] H1)
      -- takers
      refine rows_ans (K := K) (σ := [some (.ref la), some (.ref D1), none, none, none, none, none, none, none, none]) (s := 1) (tt := tSgn tGt) (te := tLst (tCons (tVar 7) (tCons (tVar 8) tNil))) (la := la) (ls := ls) rfl (by show 9 ≤ 10; decide) (SqL.same sm1 hl0) hz
        (sgn_ht fun z H Q q => ⟨z, 0, rfl, rfl, by show Q (.bl (decide (0 < z))) H; rw [show decide (0 < z) = decide (0 < 1 * z) from decide_eq_decide.mpr (by omega)]; exact q⟩)
        (fun σ H i z Q e7 e8 k => ⟨.int i, e7, .int z, e8, (by show 2 ≤ sizeLine; decide), fun p hp => by have := k p hp; rw [show (1 * z) = z by omega] at this; exact this⟩) fun D2 ps2 H2 sm2 n2 f2 nd2 h2 r2 e2 => ?_
      have in1 : ∀ a ∈ D1 :: ads ps1, H1 a ≠ none := fun a ha => by
        rcases List.mem_cons.mp ha with rfl | ha
        · rw [h1]; intro z; cases z
        · obtain ⟨q, hq, rfl⟩ := List.mem_map.mp ha
          rw [r1 q hq]; intro z; cases z
      have out2 : ∀ a ∈ D2 :: ads ps2, H1 a = none := fun a ha => by
        rcases List.mem_cons.mp ha with rfl | ha
        · exact n2
        · exact f2 a ha
      have h0none : ∀ a, H1 a = none → H a = none := fun a e => by
        cases e' : H a with
        | none => rfl
        | some o => rw [sm1 _ _ e'] at e; cases e
      obtain ⟨m1, m2⟩ := List.nodup_cons.mp nd1
      obtain ⟨m3, m4⟩ := List.nodup_cons.mp nd2
      have st : S2 H H2 D1 D2 ps1 ps2 := by
        refine ⟨fun b o e => sm2 _ _ (sm1 _ _ e), sm2 _ _ h1, h2, fun q hq => sm2 _ _ (r1 q hq), r2, List.nodup_cons.mpr ⟨fun mm => ?_, List.nodup_cons.mpr ⟨fun mm => ?_, List.nodup_append.mpr ⟨m2, m4, fun a ha b hb q => ?_⟩⟩⟩, fun a ha => ?_⟩
        · rcases List.mem_cons.mp mm with mm | mm
          · exact in1 D1 List.mem_cons_self (out2 D1 (mm ▸ List.mem_cons_self))
          rcases List.mem_append.mp mm with mm | mm
          · exact m1 mm
          · exact in1 D1 List.mem_cons_self (out2 D1 (List.mem_cons_of_mem _ mm))
        · rcases List.mem_append.mp mm with mm | mm
          · exact in1 D2 (List.mem_cons_of_mem _ mm) (out2 D2 List.mem_cons_self)
          · exact m3 mm
        · exact in1 a (List.mem_cons_of_mem _ ha) (out2 a (q ▸ List.mem_cons_of_mem _ hb))
        · rcases List.mem_cons.mp ha with rfl | ha
          · exact n1
          rcases List.mem_cons.mp ha with rfl | ha
          · exact h0none _ n2
          rcases List.mem_append.mp ha with ha | ha
          · exact f1 a ha
          · exact h0none _ (f2 a ha)
      have lp1 : ps1.length ≤ 100 := by have := congrArg List.length e1; rw [List.length_map] at this; have := rowsM_len (-1) ls 0; omega
      have lp2 : ps2.length ≤ 100 := by have := congrArg List.length e2; rw [List.length_map] at this; have := rowsM_len 1 ls 0; omega
      -- over, under = sums_of(lacks)
      have smA : Same H H2 := st.1
      have alH2 : ∀ a ∈ Ob, H2 a ≠ none := fun a ha => by
        cases e : H a with
        | none => exact absurd e (al a ha)
        | some o => rw [smA _ _ e]; intro z; cases z
      refine ⟨.ref la, rfl, Ob, [.list xs], alH2, .cons (Dp.same (fz_grow smA) (.lst hl da)) .nil, ?_⟩
      rw [es]
      dsimp only
      intro v H3 sm3 dv
      obtain ⟨tt, rfl, ht⟩ := tup2 dv
      refine ⟨tt, _, rfl, SqT.same (fz_same H3 Ob) ht, rfl, .int over, [.int under], rfl, .int under, [], rfl, rfl, ?_⟩
      have st3 := st.grow sm3
      have fin : ∀ v H', Same H H' → Dp K (fz H' Ob) v (.list ms) → Dn.rt v H' := fun v H' s' d' => hrt _ _ (kQ v H' s' d')
      -- the two ifs
      have stepB : ∀ (ps1' : List Row) (H4 : Hp), S2 H H4 D1 D2 ps1' ps2 → ps1'.map (·.2) = gs' → ps1'.length ≤ 150 →
          tSeq (tIfS (tTest (tOp tLt (tVar 4) (tVar 3))) (tDrop (tApp K 2 (tSub (tVar 3) (tVar 4)))) tNext) (tSeq (tAsg (tLst tNil) (gName 5)) (tSeq (tWhile (tTest (tOp (rNeD K) (tVar 1) (tLst tNil))) (tB K)) (tRet (tVar 5)))) Dn
            [some (.ref la), some (.ref D1), some (.ref D2), some (.int over), some (.int under), none, none, none, none, none] H4 := by
        intro ps1' H4 st4 eg' lp1'
        refine ⟨.int under, rfl, .int over, rfl, under, over, rfl, rfl, _, rfl, ?_⟩
        by_cases c : under < over
        · dsimp only
          rw [if_pos (decide_eq_true c)]
          rw [if_pos c] at et
          cases en : noneAt xs with
          | none => rw [en] at et; cases et
          | some j =>
            rw [en] at et
            have et : rowsM 1 0 ls ++ [(j, over - under)] = ts' := Option.some.inj et
            refine app_ans (K := K) (vs := ls.map vO) (xs := xs) (i := j) (d := over - under) rfl rfl hl0 da0 en st4.swap (by omega) (fun H Q q => ⟨.int over, rfl, .int under, rfl, over, under, rfl, rfl, q⟩) fun p H5 st5 => ?_
            exact found_ans st5.swap al (by rw [eg', List.map_append, e2]; show loopM 300 gs' (rowsM 1 0 ls ++ [(j, over - under)]) [] = some ms; rw [et]; exact lo) (by omega) (by rw [List.length_append]; simp; omega) fin
        · dsimp only
          rw [if_neg (by simp [c])]
          rw [if_neg c] at et
          have et := Option.some.inj et
          exact found_ans st4 al (by rw [eg', e2]; exact et ▸ lo) (by omega) (by omega) fin
      refine ⟨.int over, rfl, .int under, rfl, over, under, rfl, rfl, _, rfl, ?_⟩
      by_cases c : over < under
      · dsimp only
        rw [if_pos (decide_eq_true c)]
        rw [if_pos c] at eg
        cases en : noneAt xs with
        | none => rw [en] at eg; cases eg
        | some j =>
          rw [en] at eg
          have eg : rowsM (-1) 0 ls ++ [(j, under - over)] = gs' := Option.some.inj eg
          refine app_ans (K := K) (vs := ls.map vO) (xs := xs) (i := j) (d := under - over) rfl rfl hl0 da0 en st3 (by omega) (fun H Q q => ⟨.int under, rfl, .int over, rfl, under, over, rfl, rfl, q⟩) fun p H5 st5 => ?_
          exact stepB _ _ st5 (by rw [List.map_append, e1]; exact eg) (by rw [List.length_append]; simp; omega)
      · dsimp only
        rw [if_neg (by simp [c])]
        rw [if_neg c] at eg
        have eg := Option.some.inj eg
        exact stepB _ _ st3 (by rw [e1]; exact eg) (by omega)
end Ev
set_option maxHeartbeats 200000
/-! E15: a law's end over a head by facts. Own work. -/
namespace Ev
open PySem PySem.Spec L2
theorem walk_end {l : PySem.W.OpenLaw} {n k : Nat} {q : Program} {loose : List Str} {XP : (Str → Option Value) → Heap → Prop} {YP : World → Heap → Prop} {d : DefRec} {CX : World → CXT} {x : Str}
    (hn : l.most = some n) (hn2 : n ≤ sizeLine) (hdf : d.params.defaults = []) (hr : Room k callerA)
    (F : ∀ (w : World) (mg : Str → Option Value) (fa : Addr) (h : Heap), YP w h → h.Ns mainGlobals mg → mg d.name = some (.ref fa) →
      ∃ (K : PySem.W.Frag) (fd : FuncData) (sp : Sp), K.In h ∧ (∀ (s : Shared) (u : Value), BindsTo s fd ⟨[u], []⟩ [(x, u)]) ∧
        (∀ (H : Hp) (a : Addr) (ns : List Int), ns.length ≤ n → (∀ z ∈ ns, Builtin.Int.intBits z ≤ 1048576) → Only H → SqL K H a (ns.map V.int) → sp [.ref a] H (fun v _ => v = .bl true) fun _ _ _ => False) ∧
        ∀ base : Heap, K.In base → base.Ns mainGlobals mg → FnOk l.prog w K mg base (CX w) k fa fd [x] sp)
    (hCX : ∀ (w : World) (H : Hp) (s : Shared) (e : Value) (s' : Shared), CX w [] H s (fun _ _ _ => False) e s' → False) :
    PySem.W.WalkO q loose XP YP l.row.toRowW d [] (fun f vs => PySem.call f vs) := by
  refine Att.attach_callB hn hdf fun w s₀ s₁ mg mb fa o pm cd doc a vs ns G Y ho hd hcd hmg hobj hints hlen hbits hg => ?_
  obtain ⟨K, fd, sp, KX, hb, hsp, hF⟩ := F w mg fa _ Y G.T.g hmg
  exact law_call KX G.T.g G.T.b G.T.builtins G.T.nolimit hg hobj hints (Nat.le_trans hlen hn2) hr hF hb (fun H hO hS => hsp H a ns hlen hbits hO hS) fun H e s' => hCX w H s₁ e s'
theorem cx_false {P : Program} {w : World} {o : List Env} {H : Hp} {s : Shared} {e : Value} {s' : Shared} (h : L2.CX P w o H s (fun _ _ _ => False) e s') : False := by
  obtain ⟨_, _, _, _, _, _, _, _, _, _, _, _, z⟩ := h
  exact z
theorem fun_of_D {K : PySem.W.Frag} {x qual : Str} {st : Stmt} {f : Addr} {fd : FuncData} {kws : List (Str × V)} (F : FunD K x qual (defArgs st) (defBody st) (defScope st) [] kws f fd) : Fun K x qual st f fd := by
  obtain ⟨oc, od, dV, kV, doc, pm, an, cdv, ct, osl, h1, h2, h3, h4, h5⟩ := F.ex
  rcases h4 with ⟨_, e2⟩ | ⟨e2, _⟩
  · subst e2
    exact ⟨⟨oc, od, kV, doc, pm, an, cdv, ct, osl, h1, h2, h3⟩, F.kp⟩
  · exact absurd rfl e2
theorem law_sp {K : PySem.W.Frag} {mg : Str → Option Value} {g : FX} {H : Hp} {a : Addr} {ns : List Int} (h : g [.list (ns.map PyData.int)] = .ok (.bool true)) (s : SqL K H a (ns.map V.int)) : spP K mg g [.ref a] H (fun v _ => v = .bl true) fun _ _ _ => False := by
  have fz0 : fz H [] = H := by funext b; exact fz_out (by simp)
  refine ⟨[], [.list (ns.map PyData.int)], (fun b hb => by cases hb), .cons (.lst (by rw [fz0]; exact s) DpAll.ints) .nil, ?_⟩
  rw [h]
  exact fun v H' _ d => by cases d; rfl
end Ev
set_option maxHeartbeats 200000
/-! The defs read by data; printed by gen13.py. Own work. -/
namespace Ev
open PySem PySem.Spec L2
def x_is_integer : SX := (sRet (vAndV (vIsi .int (vVar 0)) (vAndV (vNotV (vIsi .bool (vVar 0))) (vChain (gCmp .LtE) (gCmp .LtE) (vVar 1) (vVar 0) (vVar 2)))))
def g_is_integer : FX := fnP 3 3 (x_is_integer)
def x_is_note : SX := (sSeq (sIf (vOr (vNot (vTest (vIsi .tuple (vVar 1)))) (vOr (vTest (vBin (gCmp .NotEq) (vArg gLen (vCons (vVar 1) vNil)) (vC (.int 3)))) (vNot (vTest (vCall g_is_integer (vCons (vBin gIx (vVar 1) (vC (.int 2))) (vCons (vC (.int 1)) (vCons (vC (.int 1000000000000000000000000000000)) vNil)))))))) (sRet (vC (.bool false))) sNil)
  (sSeq (sIf (vOr (vNot (vTest (vCall g_is_integer (vCons (vBin gIx (vVar 1) (vC (.int 0))) (vCons (vC (.int 0)) (vCons (vBin gSub (vVar 0) (vC (.int 1))) vNil)))))) (vNot (vTest (vCall g_is_integer (vCons (vBin gIx (vVar 1) (vC (.int 1))) (vCons (vC (.int 0)) (vCons (vBin gSub (vVar 0) (vC (.int 1))) vNil))))))) (sRet (vC (.bool false))) sNil)
  (sRet (vBin (gCmp .NotEq) (vBin gIx (vVar 1) (vC (.int 0))) (vBin gIx (vVar 1) (vC (.int 1)))))))
def g_is_note : FX := fnP 2 2 (x_is_note)
def x_is_count : SX := (sRet (vOrV (vBin (gCmp .Is) (vVar 0) (vC .none)) (vCall g_is_integer (vCons (vVar 0) (vCons (vUn (iU fun i => -i) (vC (.int 1000000000000000000000000000000))) (vCons (vC (.int 1000000000000000000000000000000)) vNil))))))
def g_is_count : FX := fnP 1 1 (x_is_count)
def x_is_book : SX := (sSeq (sIf (vOr (vNot (vTest (vIsi .tuple (vVar 0)))) (vOr (vTest (vBin (gCmp .NotEq) (vArg gLen (vCons (vVar 0) vNil)) (vC (.int 3)))) (vNot (vTest (vCall g_is_integer (vCons (vBin gIx (vVar 0) (vC (.int 0))) (vCons (vC (.int 2)) (vCons (vC (.int 5)) vNil)))))))) (sRet (vC (.bool false))) sNil)
  (sSeq (sUnp [1, 2, 3] (selTup 3) (vVar 0))
  (sSeq (sIf (vOr (vNot (vTest (vIsi .tuple (vVar 2)))) (vOr (vTest (vBin (gCmp .Gt) (vArg gLen (vCons (vVar 2) vNil)) (vC (.int 12)))) (vNot (vTest (vArg gAll (vCons (vList (vLc [5] [5] selOne (vItems (vVar 2)) tTrue (vCall g_is_note (vCons (vVar 1) (vCons (vVar 5) vNil))))) vNil)))))) (sRet (vC (.bool false))) sNil)
  (sRet (vAndV (vIsi .tuple (vVar 3)) (vAndV (vBin (gCmp .Eq) (vArg gLen (vCons (vVar 3) vNil)) (vVar 1)) (vArg gAll (vCons (vList (vLc [4] [4] selOne (vItems (vVar 3)) tTrue (vCall g_is_count (vCons (vVar 4) vNil)))) vNil))))))))
def g_is_book : FX := fnP 1 6 (x_is_book)
def x_need_book : SX := (sIf (vNot (vTest (vCall g_is_book (vCons (vVar 0) vNil)))) sNo sNil)
def g_need_book : FX := fnP 1 1 (x_need_book)
def x_need_houses : SX := (sSeq (sIf (vNot (vTest (vCall g_is_integer (vCons (vVar 1) (vCons (vC (.int 0)) (vCons (vBin gSub (vVar 0) (vC (.int 1))) vNil)))))) sNo sNil)
  (sIf (vOr (vNot (vTest (vCall g_is_integer (vCons (vVar 2) (vCons (vC (.int 0)) (vCons (vBin gSub (vVar 0) (vC (.int 1))) vNil)))))) (vTest (vBin (gCmp .Eq) (vVar 2) (vVar 1)))) sNo sNil))
def g_need_houses : FX := fnP 3 3 (x_need_houses)
def x_need_slack : SX := (sIf (vNot (vTest (vCall g_is_integer (vCons (vVar 0) (vCons (vC (.int 0)) (vCons (vC (.int 100000000000000000000000000000000)) vNil)))))) sNo sNil)
def g_need_slack : FX := fnP 1 1 (x_need_slack)
def x_pairs_of : SX := (sSeq (sSet 1 (vArg mkLst vNil))
  (sSeq (sFor [2] selOne (vIt rng1 (vCons (vVar 0) vNil)) (sSet 1 (vBin gAdd (vVar 1) (vList (vLc [3] [3] selOne (vIt rng2 (vCons (vBin gAdd (vVar 2) (vC (.int 1))) (vCons (vVar 0) vNil))) tTrue (vArg mkTup (vCons (vVar 2) (vCons (vVar 3) vNil))))))))
  (sRet (vVar 1))))
def g_pairs_of : FX := fnP 1 4 (x_pairs_of)
def x_gone : SX := (sRet (vArg gSum (vCons (vList (vLc [3, 4, 5] [3, 4, 5] (selTup 3) (vItems (vVar 0)) (vTest (vBin (gCmp .Eq) (vArg mkTup (vCons (vVar 3) (vCons (vVar 4) vNil))) (vArg mkTup (vCons (vVar 1) (vCons (vVar 2) vNil))))) (vVar 5))) vNil)))
def g_gone : FX := fnP 3 6 (x_gone)
def x_nets_of : SX := (sRet (vList (vLc [2, 3] [2, 3] (selTup 2) (vItems (vCall g_pairs_of (vCons (vVar 0) vNil))) tTrue (vBin gSub (vCall g_gone (vCons (vVar 1) (vCons (vVar 2) (vCons (vVar 3) vNil)))) (vCall g_gone (vCons (vVar 1) (vCons (vVar 3) (vCons (vVar 2) vNil))))))))
def g_nets_of : FX := fnP 2 4 (x_nets_of)
def x_gain_of : SX := (sSeq (sSet 3 (vArg gSum (vCons (vList (vLc [4, 5] [4, 5] (selTup 2) (vIt zip2 (vCons (vVar 0) (vCons (vVar 1) vNil))) (vTest (vBin (gCmp .Eq) (vBin gIx (vVar 4) (vC (.int 1))) (vVar 2))) (vVar 5))) vNil)))
  (sRet (vBin gSub (vVar 3) (vArg gSum (vCons (vList (vLc [4, 5] [4, 5] (selTup 2) (vIt zip2 (vCons (vVar 0) (vCons (vVar 1) vNil))) (vTest (vBin (gCmp .Eq) (vBin gIx (vVar 4) (vC (.int 0))) (vVar 2))) (vVar 5))) vNil)))))
def g_gain_of : FX := fnP 3 6 (x_gain_of)
def x_gains_of : SX := (sRet (vList (vLc [2] [2] selOne (vIt rng1 (vCons (vVar 0) vNil)) tTrue (vCall g_gain_of (vCons (vCall g_pairs_of (vCons (vVar 0) vNil)) (vCons (vVar 1) (vCons (vVar 2) vNil)))))))
def g_gains_of : FX := fnP 2 3 (x_gains_of)
def x_lacks_of : SX := (sSeq (sSet 1 (vCall g_gains_of (vCons (vBin gIx (vVar 0) (vC (.int 0))) (vCons (vCall g_nets_of (vCons (vBin gIx (vVar 0) (vC (.int 0))) (vCons (vBin gIx (vVar 0) (vC (.int 1))) vNil))) vNil))))
  (sRet (vList (vLc [2, 3] [2, 3] (selTup 2) (vIt zip2 (vCons (vBin gIx (vVar 0) (vC (.int 2))) (vCons (vVar 1) vNil))) tTrue (vIf (vTest (vBin (gCmp .Is) (vVar 2) (vC .none))) (vC .none) (vBin gSub (vVar 2) (vVar 3)))))))
def g_lacks_of : FX := fnP 1 4 (x_lacks_of)
def x_nets : SX := (sSeq (sDrop (vCall g_need_book (vCons (vVar 0) vNil)))
  (sRet (vArg gTup1 (vCons (vCall g_nets_of (vCons (vBin gIx (vVar 0) (vC (.int 0))) (vCons (vBin gIx (vVar 0) (vC (.int 1))) vNil))) vNil))))
def g_nets : FX := fnP 1 1 (x_nets)
def x_lacks : SX := (sSeq (sDrop (vCall g_need_book (vCons (vVar 0) vNil)))
  (sRet (vArg gTup1 (vCons (vCall g_lacks_of (vCons (vVar 0) vNil)) vNil))))
def g_lacks : FX := fnP 1 1 (x_lacks)
def x_sums_of : SX := (sSeq (sSet 1 (vList (vLc [2] [2] selOne (vItems (vVar 0)) (vTest (vBin (gCmp .IsNot) (vVar 2) (vC .none))) (vVar 2))))
  (sRet (vArg mkTup (vCons (vUn (iU fun i => -i) (vArg gSum (vCons (vList (vLc [2] [2] selOne (vItems (vVar 1)) (vTest (vBin (gCmp .Lt) (vVar 2) (vC (.int 0)))) (vVar 2))) vNil))) (vCons (vArg gSum (vCons (vList (vLc [2] [2] selOne (vItems (vVar 1)) (vTest (vBin (gCmp .Gt) (vVar 2) (vC (.int 0)))) (vVar 2))) vNil)) vNil)))))
def g_sums_of : FX := fnP 1 3 (x_sums_of)
def x_least_by : SX := (sSeq (sUnp [1, 2] (selTup 2) (vCall g_sums_of (vCons (vVar 0) vNil)))
  (sRet (vIf (vAnd (vTest (vBin (gCmp .NotIn) (vC .none) (vVar 0))) (vTest (vBin (gCmp .NotEq) (vVar 1) (vVar 2)))) (vC .none) (vArg gMax2 (vCons (vVar 1) (vCons (vVar 2) vNil))))))
def g_least_by : FX := fnP 1 3 (x_least_by)
def g_moves_by : FX := movesBy g_sums_of
def x_truth_by : SX := (sSeq (sSet 2 (vCall g_nets_of (vCons (vBin gIx (vVar 0) (vC (.int 0))) (vCons (vVar 1) vNil))))
  (sRet (vArg gTup1 (vCons (vList (vLc [3, 4] [3, 4] (selTup 2) (vIt zip2 (vCons (vCall g_nets_of (vCons (vBin gIx (vVar 0) (vC (.int 0))) (vCons (vBin gIx (vVar 0) (vC (.int 1))) vNil))) (vCons (vVar 2) vNil))) tTrue (vBin gAdd (vVar 3) (vVar 4)))) vNil))))
def g_truth_by : FX := fnP 2 5 (x_truth_by)
def x_is_truth : SX := (sSeq (sIf (vOr (vNot (vTest (vIsi .tuple (vVar 1)))) (vTest (vBin (gCmp .NotEq) (vArg gLen (vCons (vVar 1) vNil)) (vArg gLen (vCons (vCall g_pairs_of (vCons (vBin gIx (vVar 0) (vC (.int 0))) vNil)) vNil))))) (sRet (vC (.bool false))) sNil)
  (sSeq (sIf (vNot (vTest (vArg gAll (vCons (vList (vLc [4] [4] selOne (vItems (vVar 1)) tTrue (vAndV (vIsi .int (vVar 4)) (vNotV (vIsi .bool (vVar 4)))))) vNil)))) (sRet (vC (.bool false))) sNil)
  (sRet (vArg gAll (vCons (vList (vLc [2, 3] [2, 3] (selTup 2) (vIt zip2 (vCons (vBin gIx (vVar 0) (vC (.int 2))) (vCons (vCall g_gains_of (vCons (vBin gIx (vVar 0) (vC (.int 0))) (vCons (vVar 1) vNil))) vNil))) tTrue (vOrV (vBin (gCmp .Is) (vVar 2) (vC .none)) (vBin (gCmp .Eq) (vVar 2) (vVar 3))))) vNil)))))
def g_is_truth : FX := fnP 2 5 (x_is_truth)
def x_least_error : SX := (sSeq (sDrop (vCall g_need_book (vCons (vVar 0) vNil)))
  (sRet (vCall g_least_by (vCons (vCall g_lacks_of (vCons (vVar 0) vNil)) vNil))))
def g_least_error : FX := fnP 1 1 (x_least_error)
def x_truth : SX := (sSeq (sDrop (vCall g_need_book (vCons (vVar 0) vNil)))
  (sSeq (sSet 1 (vCall g_lacks_of (vCons (vVar 0) vNil)))
  (sRet (vIf (vTest (vBin (gCmp .Is) (vCall g_least_by (vCons (vVar 1) vNil)) (vC .none))) (vC .none) (vCall g_truth_by (vCons (vVar 0) (vCons (vCall g_moves_by (vCons (vVar 1) vNil)) vNil)))))))
def g_truth : FX := fnP 1 2 (x_truth)
def x_error_of : SX := (sSeq (sDrop (vCall g_need_book (vCons (vVar 0) vNil)))
  (sSeq (sIf (vNot (vTest (vCall g_is_truth (vCons (vVar 0) (vCons (vVar 1) vNil))))) sNo sNil)
  (sRet (vArg gSum (vCons (vList (vLc [2, 3] [2, 3] (selTup 2) (vIt zip2 (vCons (vVar 1) (vCons (vCall g_nets_of (vCons (vBin gIx (vVar 0) (vC (.int 0))) (vCons (vBin gIx (vVar 0) (vC (.int 1))) vNil))) vNil))) tTrue (vArg gAbs (vCons (vBin gSub (vVar 2) (vVar 3)) vNil)))) vNil)))))
def g_error_of : FX := fnP 2 4 (x_error_of)
def x_are_prices : SX := (sSeq (sIf (vOr (vNot (vTest (vIsi .tuple (vVar 1)))) (vTest (vBin (gCmp .NotEq) (vArg gLen (vCons (vVar 1) vNil)) (vBin gIx (vVar 0) (vC (.int 0)))))) (sRet (vC (.bool false))) sNil)
  (sSeq (sIf (vNot (vTest (vArg gAll (vCons (vList (vLc [3] [3] selOne (vItems (vVar 1)) tTrue (vAndV (vIsi .int (vVar 3)) (vNotV (vIsi .bool (vVar 3)))))) vNil)))) (sRet (vC (.bool false))) sNil)
  (sSeq (sIf (vTest (vBin (gCmp .Gt) (vBin gSub (vArg gMaxI (vCons (vVar 1) vNil)) (vArg gMinI (vCons (vVar 1) vNil))) (vC (.int 1)))) (sRet (vC (.bool false))) sNil)
  (sRet (vArg gAll (vCons (vList (vLc [2, 3] [2, 3] (selTup 2) (vIt zip2 (vCons (vBin gIx (vVar 0) (vC (.int 2))) (vCons (vVar 1) vNil))) tTrue (vOrV (vBin (gCmp .IsNot) (vVar 2) (vC .none)) (vBin (gCmp .Eq) (vVar 3) (vC (.int 0)))))) vNil))))))
def g_are_prices : FX := fnP 2 4 (x_are_prices)
def x_shown : SX := (sSeq (sDrop (vCall g_need_book (vCons (vVar 0) vNil)))
  (sSeq (sIf (vNot (vTest (vCall g_are_prices (vCons (vVar 0) (vCons (vVar 1) vNil))))) sNo sNil)
  (sRet (vArg gSum (vCons (vList (vLc [2, 3] [2, 3] (selTup 2) (vIt zip2 (vCons (vVar 1) (vCons (vCall g_lacks_of (vCons (vVar 0) vNil)) vNil))) (vTest (vBin (gCmp .IsNot) (vVar 3) (vC .none))) (vBin (iI cMul fun i j => i * j) (vVar 2) (vVar 3)))) vNil)))))
def g_shown : FX := fnP 2 4 (x_shown)
def x_prices : SX := (sSeq (sDrop (vCall g_need_book (vCons (vVar 0) vNil)))
  (sSeq (sSet 1 (vCall g_lacks_of (vCons (vVar 0) vNil)))
  (sSeq (sIf (vTest (vBin (gCmp .Is) (vCall g_least_by (vCons (vVar 1) vNil)) (vC .none))) (sRet (vC .none)) sNil)
  (sSeq (sUnp [2, 3] (selTup 2) (vCall g_sums_of (vCons (vVar 1) vNil)))
  (sSeq (sIf (vTest (vBin (gCmp .GtE) (vVar 3) (vVar 2))) (sRet (vArg gTup1 (vCons (vList (vLc [4] [4] selOne (vItems (vVar 1)) tTrue (vArg gInt (vCons (vAndV (vBin (gCmp .IsNot) (vVar 4) (vC .none)) (vBin (gCmp .Gt) (vVar 4) (vC (.int 0)))) vNil)))) vNil))) sNil)
  (sRet (vArg gTup1 (vCons (vList (vLc [4] [4] selOne (vItems (vVar 1)) tTrue (vUn (iU fun i => -i) (vArg gInt (vCons (vAndV (vBin (gCmp .IsNot) (vVar 4) (vC .none)) (vBin (gCmp .Lt) (vVar 4) (vC (.int 0)))) vNil))))) vNil))))))))
def g_prices : FX := fnP 1 5 (x_prices)
def x_detour_of : SX := (sSeq (sUnp [3, 4] (selTup 2) (vCall g_sums_of (vCons (vVar 0) vNil)))
  (sSeq (sSet 5 (vList (vLc [9, 10] [9, 10] (selTup 2) (vIt enum1 (vCons (vVar 0) vNil)) (vAnd (vTest (vBin (gCmp .Is) (vVar 10) (vC .none))) (vTest (vBin (gCmp .NotIn) (vVar 9) (vArg mkTup (vCons (vVar 1) (vCons (vVar 2) vNil)))))) (vVar 9))))
  (sSeq (sPar [6, 7] (vCons (vBin gIx (vVar 0) (vVar 1)) (vCons (vBin gIx (vVar 0) (vVar 2)) vNil)))
  (sSeq (sIf (vAnd (vTest (vBin (gCmp .IsNot) (vVar 6) (vC .none))) (vTest (vBin (gCmp .IsNot) (vVar 7) (vC .none)))) (sSeq (sIf (vTest (vBin (gCmp .GtE) (vBin (iI cMul fun i j => i * j) (vVar 6) (vVar 7)) (vC (.int 0)))) (sRet (vC (.int 0))) sNil)
  (sRet (vBin gSub (vArg gMin2 (vCons (vVar 3) (vCons (vVar 4) vNil))) (vArg gMin3 (vCons (vVar 3) (vCons (vVar 4) (vCons (vBin gSub (vBin gSub (vBin gAdd (vVar 3) (vVar 4)) (vArg gAbs (vCons (vVar 6) vNil))) (vArg gAbs (vCons (vVar 7) vNil))) vNil))))))) sNil)
  (sSeq (sIf (vOr (vTest (vBin (gCmp .NotEq) (vVar 5) (vArg mkLst vNil))) (vAnd (vTest (vBin (gCmp .Is) (vVar 6) (vC .none))) (vTest (vBin (gCmp .Is) (vVar 7) (vC .none))))) (sRet (vC (.int 0))) sNil)
  (sSeq (sSet 8 (vIf (vTest (vBin (gCmp .Is) (vVar 6) (vC .none))) (vVar 7) (vVar 6)))
  (sRet (vArg gMax2 (vCons (vC (.int 0)) (vCons (vBin gSub (vArg gAbs (vCons (vVar 8) vNil)) (vIf (vTest (vBin (gCmp .Lt) (vVar 8) (vC (.int 0)))) (vVar 4) (vVar 3))) vNil))))))))))
def g_detour_of : FX := fnP 3 11 (x_detour_of)
def x_least_shut : SX := (sSeq (sSet 3 (vCall g_least_by (vCons (vVar 0) vNil)))
  (sSeq (sIf (vTest (vBin (gCmp .Is) (vVar 3) (vC .none))) (sRet (vC .none)) sNil)
  (sSeq (sSet 4 (vCall g_detour_of (vCons (vVar 0) (vCons (vVar 1) (vCons (vVar 2) vNil)))))
  (sRet (vIf (vAnd (vTest (vBin (gCmp .Gt) (vVar 4) (vC (.int 0)))) (vTest (vBin (gCmp .Eq) (vArg gLen (vCons (vVar 0) vNil)) (vC (.int 2))))) (vC .none) (vBin gAdd (vVar 3) (vVar 4)))))))
def g_least_shut : FX := fnP 3 5 (x_least_shut)
def x_error_with : SX := (sSeq (sOwn 4 (vList1 (vCons (vVar 0) vNil)))
  (sSeq (sStore 4 (vIf (vTest (vBin (gCmp .Is) (vIxV 4 (vVar 1)) (vC .none))) (vC .none) (vBin gAdd (vIxV 4 (vVar 1)) (vVar 3))) (vVar 1))
  (sSeq (sStore 4 (vIf (vTest (vBin (gCmp .Is) (vIxV 4 (vVar 2)) (vC .none))) (vC .none) (vBin gSub (vIxV 4 (vVar 2)) (vVar 3))) (vVar 2))
  (sSeq (sSet 5 (vCall g_least_shut (vCons (vVar 4) (vCons (vVar 1) (vCons (vVar 2) vNil)))))
  (sRet (vIf (vTest (vBin (gCmp .Is) (vVar 5) (vC .none))) (vC .none) (vBin gAdd (vVar 5) (vArg gAbs (vCons (vVar 3) vNil)))))))))
def g_error_with : FX := fnP 4 6 (x_error_with)
def x_is_let_owing : SX := (sSeq (sSet 5 (vCall g_error_with (vCons (vVar 0) (vCons (vVar 1) (vCons (vVar 2) (vCons (vVar 3) vNil))))))
  (sRet (vAndV (vBin (gCmp .IsNot) (vVar 5) (vC .none)) (vBin (gCmp .LtE) (vVar 5) (vVar 4)))))
def g_is_let_owing : FX := fnP 5 6 (x_is_let_owing)
def x_most_more : SX := (sSeq (sPar [5, 6] (vCons (vVar 3) (vCons (vBin gAdd (vVar 4) (vC (.int 1))) vNil)))
  (sSeq (whL (vTest (vBin (gCmp .Lt) (vBin gAdd (vVar 5) (vC (.int 1))) (vVar 6))) (sSeq (sSet 7 (vBin gDiv (vBin gAdd (vVar 5) (vVar 6)) (vC (.int 2))))
  (sIf (vTest (vCall g_is_let_owing (vCons (vVar 0) (vCons (vVar 1) (vCons (vVar 2) (vCons (vVar 7) (vCons (vVar 4) vNil))))))) (sSet 5 (vVar 7)) (sSet 6 (vVar 7)))) 200)
  (sRet (vVar 5))))
def g_most_more : FX := fnP 5 8 (x_most_more)
def x_need_truth : SX := (sSeq (sSet 2 (vCall g_least_by (vCons (vVar 0) vNil)))
  (sIf (vOr (vTest (vBin (gCmp .Is) (vVar 2) (vC .none))) (vTest (vBin (gCmp .Gt) (vVar 2) (vVar 1)))) sNo sNil))
def g_need_truth : FX := fnP 2 3 (x_need_truth)
def x_nets_by : SX := (sSeq (sSet 4 (vCall g_lacks_of (vCons (vVar 0) vNil)))
  (sSeq (sDrop (vCall g_need_truth (vCons (vVar 4) (vCons (vVar 1) vNil))))
  (sSeq (sSet 5 (vMeth isL gIndex (vCall g_pairs_of (vCons (vBin gIx (vVar 0) (vC (.int 0))) vNil)) (vCons (vArg mkTup (vCons (vVar 2) (vCons (vVar 3) vNil))) vNil)))
  (sSeq (sPar [6, 7] (vCons (vBin gIx (vCall g_nets_of (vCons (vBin gIx (vVar 0) (vC (.int 0))) (vCons (vBin gIx (vVar 0) (vC (.int 1))) vNil))) (vVar 5)) (vCons (vBin gIx (vCall g_nets_of (vCons (vBin gIx (vVar 0) (vC (.int 0))) (vCons (vCall g_moves_by (vCons (vVar 4) vNil)) vNil))) (vVar 5)) vNil)))
  (sSeq (sSet 8 (vCall g_most_more (vCons (vVar 4) (vCons (vVar 2) (vCons (vVar 3) (vCons (vVar 7) (vCons (vVar 1) vNil)))))))
  (sRet (vArg mkTup (vCons (vBin gSub (vVar 6) (vCall g_most_more (vCons (vVar 4) (vCons (vVar 3) (vCons (vVar 2) (vCons (vUn (iU fun i => -i) (vVar 7)) (vCons (vVar 1) vNil))))))) (vCons (vBin gAdd (vVar 6) (vVar 8)) vNil)))))))))
def g_nets_by : FX := fnP 4 9 (x_nets_by)
def x_owes_by : SX := (sSeq (sUnp [4, 5] (selTup 2) (vCall g_nets_by (vCons (vVar 0) (vCons (vVar 1) (vCons (vArg gMin2 (vCons (vVar 2) (vCons (vVar 3) vNil))) (vCons (vArg gMax2 (vCons (vVar 2) (vCons (vVar 3) vNil))) vNil))))))
  (sRet (vIf (vTest (vBin (gCmp .Lt) (vVar 3) (vVar 2))) (vArg mkTup (vCons (vVar 4) (vCons (vVar 5) vNil))) (vArg mkTup (vCons (vUn (iU fun i => -i) (vVar 5)) (vCons (vUn (iU fun i => -i) (vVar 4)) vNil))))))
def g_owes_by : FX := fnP 4 6 (x_owes_by)
def x_owes : SX := (sSeq (sDrop (vCall g_need_book (vCons (vVar 0) vNil)))
  (sSeq (sDrop (vCall g_need_slack (vCons (vVar 1) vNil)))
  (sSeq (sDrop (vCall g_need_houses (vCons (vBin gIx (vVar 0) (vC (.int 0))) (vCons (vVar 2) (vCons (vVar 3) vNil)))))
  (sRet (vCall g_owes_by (vCons (vVar 0) (vCons (vVar 1) (vCons (vVar 2) (vCons (vVar 3) vNil)))))))))
def g_owes : FX := fnP 4 4 (x_owes)
def x_who_owes : SX := (sSeq (sDrop (vCall g_need_book (vCons (vVar 0) vNil)))
  (sSeq (sDrop (vCall g_need_slack (vCons (vVar 1) vNil)))
  (sSeq (sDrop (vCall g_need_houses (vCons (vBin gIx (vVar 0) (vC (.int 0))) (vCons (vVar 2) (vCons (vVar 3) vNil)))))
  (sSeq (sUnp [4, 5] (selTup 2) (vCall g_owes_by (vCons (vVar 0) (vCons (vVar 1) (vCons (vVar 2) (vCons (vVar 3) vNil))))))
  (sRet (vIf (vTest (vBin (gCmp .Gt) (vVar 4) (vC (.int 0)))) (vC (.str "sure")) (vIf (vTest (vBin (gCmp .LtE) (vVar 5) (vC (.int 0)))) (vC (.str "never")) (vC (.str "open")))))))))
def g_who_owes : FX := fnP 4 6 (x_who_owes)
def x_is_wrong : SX := (sSeq (sDrop (vCall g_need_book (vCons (vVar 0) vNil)))
  (sSeq (sDrop (vCall g_need_slack (vCons (vVar 1) vNil)))
  (sSeq (sDrop (vCall g_need_houses (vCons (vBin gIx (vVar 0) (vC (.int 0))) (vCons (vVar 2) (vCons (vVar 3) vNil)))))
  (sSeq (sUnp [4, 5] (selTup 2) (vCall g_owes_by (vCons (vVar 0) (vCons (vVar 1) (vCons (vVar 2) (vCons (vVar 3) vNil))))))
  (sSeq (sSet 6 (vBin gIx (vCall g_owes_by (vCons (vArg mkTup (vCons (vBin gIx (vVar 0) (vC (.int 0))) (vCons (vBin gIx (vVar 0) (vC (.int 1))) (vCons (vBin gMul (vArg mkTup (vCons (vC .none) vNil)) (vBin gIx (vVar 0) (vC (.int 0)))) vNil)))) (vCons (vC (.int 0)) (vCons (vVar 2) (vCons (vVar 3) vNil))))) (vC (.int 0))))
  (sSeq (sIf (vNot (vTest (vChain (gCmp .LtE) (gCmp .LtE) (vVar 4) (vVar 6) (vVar 5)))) (sRet (vC (.str "sure"))) sNil)
  (sRet (vIf (vTest (vBin (gCmp .Eq) (vVar 4) (vVar 5))) (vC (.str "never")) (vC (.str "open"))))))))))
def g_is_wrong : FX := fnP 4 7 (x_is_wrong)
def x_is_even : SX := (sSeq (sSet 2 (vList (vLc [3] [3] selOne (vItems (vVar 1)) tTrue (vBin gIx (vVar 0) (vVar 3)))))
  (sRet (vOrV (vBin (gCmp .In) (vC .none) (vVar 2)) (vBin (gCmp .Eq) (vArg gSum (vCons (vVar 2) vNil)) (vC (.int 0))))))
def g_is_even : FX := fnP 2 4 (x_is_even)
def x_lots_of : SX := (sSeq (sSet 1 (vArg mkLst (vCons (vArg mkLst vNil) vNil)))
  (sSeq (sFor [2] selOne (vItems (vVar 0)) (sSet 1 (vBin gAdd (vVar 1) (vList (vLc [3] [3] selOne (vItems (vVar 1)) tTrue (vBin gAdd (vVar 3) (vArg mkLst (vCons (vVar 2) vNil))))))))
  (sRet (vVar 1))))
def g_lots_of : FX := fnP 1 4 (x_lots_of)
def x_parts_by (g_parts_by : FX) : SX := (sSeq (sIf (vTest (vBin (gCmp .Eq) (vVar 1) (vArg mkLst vNil))) (sRet (vArg mkLst vNil)) sNil)
  (sSeq (sSet 2 (vC .none))
  (sSeq (sFor [3] selOne (vItems (vCall g_lots_of (vCons (vSl gSl (vVar 1) (oSome (vC (.int 1))) oNone) vNil))) (sSeq (sSet 4 (vBin gAdd (vSl gSl (vVar 1) oNone (oSome (vC (.int 1)))) (vVar 3)))
  (sIf (vTest (vCall g_is_even (vCons (vVar 0) (vCons (vVar 4) vNil)))) (sSeq (sSet 5 (vCall g_parts_by (vCons (vVar 0) (vCons (vList (vLc [6] [6] selOne (vItems (vVar 1)) (vTest (vBin (gCmp .NotIn) (vVar 6) (vVar 4))) (vVar 6))) vNil))))
  (sIf (vAnd (vTest (vBin (gCmp .IsNot) (vVar 5) (vC .none))) (vOr (vTest (vBin (gCmp .Is) (vVar 2) (vC .none))) (vTest (vBin (gCmp .Gt) (vBin gAdd (vArg gLen (vCons (vVar 5) vNil)) (vC (.int 1))) (vArg gLen (vCons (vVar 2) vNil)))))) (sSet 2 (vBin gAdd (vArg mkLst (vCons (vVar 4) vNil)) (vVar 5))) sNil)) sNil)))
  (sRet (vVar 2)))))
def gl_parts_by : Nat → FX
  | 0 => fnP 2 7 sNo
  | k + 1 => fnP 2 7 (x_parts_by (gl_parts_by k))
def g_parts_by : FX := gl_parts_by 8
def x_parts_of : SX := (sRet (vCall g_parts_by (vCons (vVar 0) (vCons (vUn gRgL (vArg gLen (vCons (vVar 0) vNil))) vNil))))
def g_parts_of : FX := fnP 1 1 (x_parts_of)
def x_moves_of : SX := (sSeq (sOwn 2 (vDisp vNil))
  (sSeq (sFor [3] selOne (vItems (vVar 1)) (sSeq (sSet 4 (vBin gAdd (vList (vLc [5] [5] selOne (vItems (vVar 3)) (vTest (vBin (gCmp .Is) (vBin gIx (vVar 0) (vVar 5)) (vC .none))) (vVar 5))) (vVar 3)))
  (sFor [5] selOne (vItems (vVar 3)) (sIf (vAnd (vTest (vBin (gCmp .NotEq) (vVar 5) (vBin gIx (vVar 4) (vC (.int 0))))) (vAnd (vTest (vBin (gCmp .IsNot) (vBin gIx (vVar 0) (vVar 5)) (vC .none))) (vTest (vBin (gCmp .NotEq) (vBin gIx (vVar 0) (vVar 5)) (vC (.int 0)))))) (sSeq (sSet 6 (vBin gIx (vVar 0) (vVar 5)))
  (sApp 2 (vIf (vTest (vBin (gCmp .Gt) (vVar 6) (vC (.int 0)))) (vArg mkTup (vCons (vBin gIx (vVar 4) (vC (.int 0))) (vCons (vVar 5) (vCons (vVar 6) vNil)))) (vArg mkTup (vCons (vVar 5) (vCons (vBin gIx (vVar 4) (vC (.int 0))) (vCons (vUn (iU fun i => -i) (vVar 6)) vNil))))))) sNil))))
  (sRet (vVar 2))))
def g_moves_of : FX := fnP 2 7 (x_moves_of)
def x_fewest_wrong : SX := (sSeq (sDrop (vCall g_need_book (vCons (vVar 0) vNil)))
  (sSeq (sSet 1 (vCall g_parts_of (vCons (vCall g_lacks_of (vCons (vVar 0) vNil)) vNil)))
  (sRet (vIf (vTest (vBin (gCmp .Is) (vVar 1) (vC .none))) (vC .none) (vBin gSub (vBin gIx (vVar 0) (vC (.int 0))) (vArg gLen (vCons (vVar 1) vNil)))))))
def g_fewest_wrong : FX := fnP 1 2 (x_fewest_wrong)
def x_few_truth : SX := (sSeq (sDrop (vCall g_need_book (vCons (vVar 0) vNil)))
  (sSeq (sSet 1 (vCall g_lacks_of (vCons (vVar 0) vNil)))
  (sSeq (sSet 2 (vCall g_parts_of (vCons (vVar 1) vNil)))
  (sRet (vIf (vTest (vBin (gCmp .Is) (vVar 2) (vC .none))) (vC .none) (vCall g_truth_by (vCons (vVar 0) (vCons (vCall g_moves_of (vCons (vVar 1) (vCons (vVar 2) vNil))) vNil))))))))
def g_few_truth : FX := fnP 1 3 (x_few_truth)
def x_is_let_counting : SX := (sSeq (sSet 4 (vCall g_least_by (vCons (vBin gAdd (vBin gAdd (vSl gSl (vVar 0) oNone (oSome (vVar 1))) (vArg mkLst (vCons (vVar 2) vNil))) (vSl gSl (vVar 0) (oSome (vBin gAdd (vVar 1) (vC (.int 1)))) oNone)) vNil)))
  (sRet (vAndV (vBin (gCmp .IsNot) (vVar 4) (vC .none)) (vBin (gCmp .LtE) (vVar 4) (vVar 3)))))
def g_is_let_counting : FX := fnP 4 5 (x_is_let_counting)
def x_most_lack : SX := (sSeq (sPar [5, 6] (vCons (vC (.int 0)) (vCons (vBin gAdd (vBin (iI cMul fun i j => i * j) (vC (.int 2)) (vVar 3)) (vC (.int 2))) vNil)))
  (sSeq (whL (vTest (vBin (gCmp .Lt) (vBin gAdd (vVar 5) (vC (.int 1))) (vVar 6))) (sSeq (sSet 7 (vBin gDiv (vBin gAdd (vVar 5) (vVar 6)) (vC (.int 2))))
  (sIf (vTest (vCall g_is_let_counting (vCons (vVar 0) (vCons (vVar 1) (vCons (vBin gAdd (vVar 2) (vBin (iI cMul fun i j => i * j) (vVar 4) (vVar 7))) (vCons (vVar 3) vNil)))))) (sSet 5 (vVar 7)) (sSet 6 (vVar 7)))) 200)
  (sRet (vBin gAdd (vVar 2) (vBin (iI cMul fun i j => i * j) (vVar 4) (vVar 5))))))
def g_most_lack : FX := fnP 5 8 (x_most_lack)
def x_count_by : SX := (sSeq (sSet 3 (vCall g_lacks_of (vCons (vVar 0) vNil)))
  (sSeq (sDrop (vCall g_need_truth (vCons (vVar 3) (vCons (vVar 1) vNil))))
  (sSeq (sIf (vTest (vBin (gCmp .IsNot) (vBin gIx (vBin gIx (vVar 0) (vC (.int 2))) (vVar 2)) (vC .none))) (sRet (vArg mkTup (vCons (vBin gIx (vBin gIx (vVar 0) (vC (.int 2))) (vVar 2)) (vCons (vBin gIx (vBin gIx (vVar 0) (vC (.int 2))) (vVar 2)) vNil)))) sNil)
  (sSeq (sSet 4 (vBin gIx (vCall g_gains_of (vCons (vBin gIx (vVar 0) (vC (.int 0))) (vCons (vCall g_nets_of (vCons (vBin gIx (vVar 0) (vC (.int 0))) (vCons (vBin gIx (vVar 0) (vC (.int 1))) vNil))) vNil))) (vVar 2)))
  (sSeq (sSet 5 (vBin gIx (vCall g_gains_of (vCons (vBin gIx (vVar 0) (vC (.int 0))) (vCons (vCall g_nets_of (vCons (vBin gIx (vVar 0) (vC (.int 0))) (vCons (vCall g_moves_by (vCons (vVar 3) vNil)) vNil))) vNil))) (vVar 2)))
  (sSeq (sUnp [6, 7] (selLst 2) (vList (vLc [8] [8] selOne (vItems (vArg mkTup (vCons (vUn (iU fun i => -i) (vC (.int 1))) (vCons (vC (.int 1)) vNil)))) tTrue (vCall g_most_lack (vCons (vVar 3) (vCons (vVar 2) (vCons (vVar 5) (vCons (vVar 1) (vCons (vVar 8) vNil)))))))))
  (sRet (vArg mkTup (vCons (vBin gAdd (vVar 4) (vVar 6)) (vCons (vBin gAdd (vVar 4) (vVar 7)) vNil))))))))))
def g_count_by : FX := fnP 3 9 (x_count_by)
def x_count_of : SX := (sSeq (sDrop (vCall g_need_book (vCons (vVar 0) vNil)))
  (sSeq (sDrop (vCall g_need_slack (vCons (vVar 1) vNil)))
  (sSeq (sIf (vNot (vTest (vCall g_is_integer (vCons (vVar 2) (vCons (vC (.int 0)) (vCons (vBin gSub (vBin gIx (vVar 0) (vC (.int 0))) (vC (.int 1))) vNil)))))) sNo sNil)
  (sRet (vCall g_count_by (vCons (vVar 0) (vCons (vVar 1) (vCons (vVar 2) vNil))))))))
def g_count_of : FX := fnP 3 3 (x_count_of)
def x_best_counted : SX := (sSeq (sDrop (vCall g_need_book (vCons (vVar 0) vNil)))
  (sSeq (sDrop (vCall g_need_slack (vCons (vVar 1) vNil)))
  (sSeq (sDrop (vCall g_need_truth (vCons (vCall g_lacks_of (vCons (vVar 0) vNil)) (vCons (vVar 1) vNil))))
  (sSeq (sUnp [2, 3] (selTup 2) (vArg mkTup (vCons (vUn (iU fun i => -i) (vC (.int 1))) (vCons (vC .none) vNil))))
  (sSeq (sFor [4] selOne (vIt rng1 (vCons (vBin gIx (vVar 0) (vC (.int 0))) vNil)) (sSeq (sUnp [5, 6] (selTup 2) (vCall g_count_by (vCons (vVar 0) (vCons (vVar 1) (vCons (vVar 4) vNil)))))
  (sIf (vAnd (vTest (vBin (gCmp .Is) (vBin gIx (vBin gIx (vVar 0) (vC (.int 2))) (vVar 4)) (vC .none))) (vTest (vBin (gCmp .Gt) (vBin gSub (vVar 6) (vVar 5)) (vVar 2)))) (sPar [2, 3] (vCons (vBin gSub (vVar 6) (vVar 5)) (vCons (vVar 4) vNil))) sNil)))
  (sRet (vVar 3)))))))
def g_best_counted : FX := fnP 2 7 (x_best_counted)
def x_needless : SX := (sSeq (sDrop (vCall g_need_book (vCons (vVar 0) vNil)))
  (sSeq (sIf (vOr (vTest (vBin (gCmp .In) (vC .none) (vBin gIx (vVar 0) (vC (.int 2))))) (vTest (vBin (gCmp .NotEq) (vArg gSum (vCons (vBin gIx (vVar 0) (vC (.int 2))) vNil)) (vC (.int 0))))) (sRet (vArg mkLst vNil)) sNil)
  (sRet (vUn gRgL (vBin gIx (vVar 0) (vC (.int 0)))))))
def g_needless : FX := fnP 1 1 (x_needless)
def x_need_balances : SX := (sSeq (sIf (vOr (vNot (vTest (vIsi .tuple (vVar 0)))) (vNot (vTest (vChain (gCmp .LtE) (gCmp .LtE) (vC (.int 1)) (vArg gLen (vCons (vVar 0) vNil)) (vC (.int 6)))))) sNo sNil)
  (sIf (vOr (vNot (vTest (vArg gAll (vCons (vList (vLc [1] [1] selOne (vItems (vVar 0)) tTrue (vCall g_is_integer (vCons (vVar 1) (vCons (vUn (iU fun i => -i) (vC (.int 1000000000000000000000000000000))) (vCons (vC (.int 1000000000000000000000000000000)) vNil)))))) vNil)))) (vTest (vBin (gCmp .NotEq) (vArg gSum (vCons (vVar 0) vNil)) (vC (.int 0))))) sNo sNil))
def g_need_balances : FX := fnP 1 2 (x_need_balances)
def x_ways_by : SX := (sSeq (sSet 1 (vList (vLc [2] [2] selOne (vItems (vVar 0)) tTrue (vUn (iU fun i => -i) (vVar 2)))))
  (sRet (vArg gTup1 (vCons (vArg gSort (vCons (vCall g_moves_of (vCons (vVar 1) (vCons (vCall g_parts_of (vCons (vVar 1) vNil)) vNil))) vNil)) vNil))))
def g_ways_by : FX := fnP 1 3 (x_ways_by)
def x_fewest_ways : SX := (sSeq (sDrop (vCall g_need_balances (vCons (vVar 0) vNil)))
  (sRet (vArg gLen (vCons (vCall g_ways_by (vCons (vVar 0) vNil)) vNil))))
def g_fewest_ways : FX := fnP 1 1 (x_fewest_ways)
def x_ways : SX := (sSeq (sDrop (vCall g_need_balances (vCons (vVar 0) vNil)))
  (sRet (vCall g_ways_by (vCons (vVar 0) vNil))))
def g_ways : FX := fnP 1 1 (x_ways)
def x_is_way : SX := (sSeq (sIf (vOr (vNot (vTest (vIsi .tuple (vVar 1)))) (vTest (vBin (gCmp .NotEq) (vArg gLen (vCons (vVar 1) vNil)) (vC (.int 3))))) (sRet (vC (.bool false))) sNil)
  (sSeq (sIf (vNot (vTest (vArg gAll (vCons (vList (vLc [5] [5] selOne (vItems (vVar 1)) tTrue (vAndV (vIsi .int (vVar 5)) (vNotV (vIsi .bool (vVar 5)))))) vNil)))) (sRet (vC (.bool false))) sNil)
  (sSeq (sUnp [2, 3, 4] (selTup 3) (vVar 1))
  (sRet (vAndV (vChain (gCmp .LtE) (gCmp .Lt) (vC (.int 0)) (vVar 2) (vVar 0)) (vAndV (vChain (gCmp .LtE) (gCmp .Lt) (vC (.int 0)) (vVar 3) (vVar 0)) (vAndV (vBin (gCmp .NotEq) (vVar 2) (vVar 3)) (vBin (gCmp .Gt) (vVar 4) (vC (.int 0))))))))))
def g_is_way : FX := fnP 2 6 (x_is_way)
def x_evens : SX := (sSeq (sDrop (vCall g_need_balances (vCons (vVar 0) vNil)))
  (sSeq (sIf (vOr (vNot (vTest (vIsi .tuple (vVar 1)))) (vNot (vTest (vArg gAll (vCons (vList (vLc [8] [8] selOne (vItems (vVar 1)) tTrue (vCall g_is_way (vCons (vArg gLen (vCons (vVar 0) vNil)) (vCons (vVar 8) vNil))))) vNil))))) (sRet (vC (.bool false))) sNil)
  (sSeq (sIf (vNot (vTest (vArg gAll (vCons (vList (vLc [6, 7] [6, 7] (selTup 2) (vIt zip2 (vCons (vVar 1) (vCons (vSl gSl (vVar 1) (oSome (vC (.int 1))) oNone) vNil))) tTrue (vBin gLtT (vVar 6) (vVar 7)))) vNil)))) (sRet (vC (.bool false))) sNil)
  (sSeq (sOwn 2 (vList1 (vCons (vVar 0) vNil)))
  (sSeq (sFor [3, 4, 5] (selTup 3) (vItems (vVar 1)) (sSt2 2 2 (vVar 3) (vVar 4) (vArg mkTup (vCons (vBin gSub (vIxV 2 (vVar 3)) (vVar 5)) (vCons (vBin gAdd (vIxV 2 (vVar 4)) (vVar 5)) vNil)))))
  (sRet (vBin (gCmp .Eq) (vVar 2) (vRepL (vCons (vC (.int 0)) vNil) (vArg gLen (vCons (vVar 0) vNil))))))))))
def g_evens : FX := fnP 2 9 (x_evens)
def x_number_of : SX := (sSeq (sSet 1 (vIf (vTest (vBin (gCmp .Eq) (vSl gSlS (vVar 0) oNone (oSome (vC (.int 1)))) (vC (.str "-")))) (vSl gSlS (vVar 0) (oSome (vC (.int 1))) oNone) (vVar 0)))
  (sSeq (sIf (vOr (vNot (vTest (vChain (gCmp .LtE) (gCmp .LtE) (vC (.int 1)) (vArg gLen (vCons (vVar 1) vNil)) (vC (.int 31))))) (vNot (vTest (vArg gAll (vCons (vList (vLc [2] [2] selOne (vSigns (vVar 1)) tTrue (vBin (gInS false) (vVar 2) (vC (.str "0123456789"))))) vNil))))) (sRet (vVar 0)) sNil)
  (sRet (vIf (vTest (vBin (gCmp .Eq) (vArg gStr (vCons (vArg gInt (vCons (vVar 0) vNil)) vNil)) (vVar 0))) (vArg gInt (vCons (vVar 0) vNil)) (vVar 0)))))
def g_number_of : FX := fnP 1 3 (x_number_of)
def x_text_of : SX := (sSeq (sSet 1 (vBin gAdd (vArg mkLst (vCons (vJoined (vJ (vC (.str "houses ")) (vJ (vUn gFmt (vBin gIx (vVar 0) (vC (.int 0)))) jNil))) vNil)) (vList (vLc [2, 3, 4] [2, 3, 4] (selTup 3) (vItems (vBin gIx (vVar 0) (vC (.int 1)))) tTrue (vJoined (vJ (vC (.str "note ")) (vJ (vUn gFmt (vVar 2)) (vJ (vC (.str " ")) (vJ (vUn gFmt (vVar 3)) (vJ (vC (.str " ")) (vJ (vUn gFmt (vVar 4)) jNil)))))))))))
  (sRet (vMeth isS gJoin (vC (.str "\n")) (vCons (vBin gAdd (vVar 1) (vArg mkLst (vCons (vMeth isS gJoin (vC (.str " ")) (vCons (vBin gAdd (vArg mkLst (vCons (vC (.str "counts")) vNil)) (vList (vLc [5] [5] selOne (vItems (vBin gIx (vVar 0) (vC (.int 2)))) tTrue (vIf (vTest (vBin (gCmp .Is) (vVar 5) (vC .none))) (vC (.str "*")) (vArg gStr (vCons (vVar 5) vNil)))))) vNil)) vNil))) vNil))))
def g_text_of : FX := fnP 1 6 (x_text_of)
def x_book_text : SX := (sSeq (sDrop (vCall g_need_book (vCons (vVar 0) vNil)))
  (sRet (vCall g_text_of (vCons (vVar 0) vNil))))
def g_book_text : FX := fnP 1 1 (x_book_text)
def x_book_in : SX := (sSeq (sSet 1 (vList (vLc [4] [4] selOne (vItems (vMeth isS gSplit (vVar 0) (vCons (vC (.str "\n")) vNil))) tTrue (vMeth isS gSplit (vVar 4) (vCons (vC (.str " ")) vNil)))))
  (sSeq (sIf (vOr (vTest (vBin (gCmp .Lt) (vArg gLen (vCons (vVar 1) vNil)) (vC (.int 2)))) (vOr (vTest (vBin (gCmp .NotEq) (vArg gLen (vCons (vBin gIx (vVar 1) (vC (.int 0))) vNil)) (vC (.int 2)))) (vOr (vTest (vBin (gCmp .NotEq) (vBin gIx (vBin gIx (vVar 1) (vC (.int 0))) (vC (.int 0))) (vC (.str "houses")))) (vTest (vBin (gCmp .NotEq) (vBin gIx (vBin gIx (vVar 1) (vUn (iU fun i => -i) (vC (.int 1)))) (vC (.int 0))) (vC (.str "counts"))))))) (sRet (vArg mkTup vNil)) sNil)
  (sSeq (sIf (vNot (vTest (vArg gAll (vCons (vList (vLc [5] [5] selOne (vItems (vSl gSl (vVar 1) (oSome (vC (.int 1))) (oSome (vUn (iU fun i => -i) (vC (.int 1)))))) tTrue (vBin (gCmp .Eq) (vBin gIx (vVar 5) (vC (.int 0))) (vC (.str "note"))))) vNil)))) (sRet (vArg mkTup vNil)) sNil)
  (sSeq (sSet 2 (vArg gTup1 (vCons (vList (vLc [5] [5] selOne (vItems (vSl gSl (vVar 1) (oSome (vC (.int 1))) (oSome (vUn (iU fun i => -i) (vC (.int 1)))))) tTrue (vArg gTup1 (vCons (vList (vLc [6] [6] selOne (vItems (vSl gSl (vVar 5) (oSome (vC (.int 1))) oNone)) tTrue (vCall g_number_of (vCons (vVar 6) vNil)))) vNil)))) vNil)))
  (sSeq (sSet 3 (vArg gTup1 (vCons (vList (vLc [6] [6] selOne (vItems (vSl gSl (vBin gIx (vVar 1) (vUn (iU fun i => -i) (vC (.int 1)))) (oSome (vC (.int 1))) oNone)) tTrue (vIf (vTest (vBin (gCmp .Eq) (vVar 6) (vC (.str "*")))) (vC .none) (vCall g_number_of (vCons (vVar 6) vNil))))) vNil)))
  (sRet (vArg mkTup (vCons (vCall g_number_of (vCons (vBin gIx (vBin gIx (vVar 1) (vC (.int 0))) (vC (.int 1))) vNil)) (vCons (vVar 2) (vCons (vVar 3) vNil))))))))))
def g_book_in : FX := fnP 1 7 (x_book_in)
def x_read_book : SX := (sSeq (sSet 1 (vIf (vTest (vIsi .str (vVar 0))) (vCall g_book_in (vCons (vVar 0) vNil)) (vArg mkTup vNil)))
  (sSeq (sIf (vNot (vTest (vCall g_is_book (vCons (vVar 1) vNil)))) sNo sNil)
  (sRet (vVar 1))))
def g_read_book : FX := fnP 1 2 (x_read_book)
def x__law_bin : SX := (sSeq (sSet 2 (vIf (vTest (vBin (gCmp .Lt) (vVar 1) (vArg gLen (vCons (vVar 0) vNil)))) (vArg gAbs (vCons (vArg gInt (vCons (vBin gIx (vVar 0) (vVar 1)) vNil)) vNil)) (vBin gAdd (vBin (iI cMul fun i j => i * j) (vC (.int 1301)) (vVar 1)) (vC (.int 173)))))
  (sRetLst (vCons (vIf (vTest (vBin (gCmp .GtE) (vVar 2) (vBin gPow (vC (.int 10)) (vC (.int 18))))) (vVar 2) (vC (.int 0))) (vCons (vBin gAdd (vBin gMod (vArg gInt (vCons (vBin gAdd (vBin gAdd (vBin (iI cMul fun i j => i * j) (vVar 2) (vC (.int 103))) (vBin (iI cMul fun i j => i * j) (vC (.int 1609)) (vVar 1))) (vC (.int 101))) vNil)) (vC (.int 2147483171))) (vC (.int 1))) vNil))))
def g__law_bin : FL := fnF 2 3 (x__law_bin)
def x__law_grab : SX := (sSeq (sIf (vTest (vBin (gCmp .Gt) (vIxV 0 (vC (.int 0))) (vC (.int 0)))) (sSeq (sSet 2 (vBin gMod (vArg gInt (vCons (vIxV 0 (vC (.int 0))) vNil)) (vVar 1)))
  (sSeq (sStore 0 (vBin gDiv (vIxV 0 (vC (.int 0))) (vVar 1)) (vC (.int 0)))
  (sRet (vVar 2)))) sNil)
  (sSeq (sStore 0 (vBin gMod (vArg gInt (vCons (vBin gAdd (vBin (iI cMul fun i j => i * j) (vIxV 0 (vC (.int 1))) (vC (.int 35393))) (vC (.int 313))) vNil)) (vC (.int 2147483171))) (vC (.int 1)))
  (sSeq (sSet 3 (vBin gMod (vArg gInt (vCons (vBin (iI cMul fun i j => i * j) (vIxV 0 (vC (.int 1))) (vBin gAdd (vBin gDiv (vIxV 0 (vC (.int 1))) (vC (.int 7))) (vC (.int 73)))) vNil)) (vC (.int 2147483137))))
  (sRet (vBin gMod (vArg gInt (vCons (vBin gDiv (vVar 3) (vC (.int 32))) vNil)) (vVar 1))))))
def g__law_grab : FU := fnU 2 4 (x__law_grab)
def x__law_chain : SX := (sSeq (sSet 1 (vArg mkTup (vCons (vC (.int 3)) (vCons (vArg mkTup (vCons (vArg mkTup (vCons (vC (.int 0)) (vCons (vC (.int 1)) (vCons (vBin gAdd (vC (.int 10)) (vVar 0)) vNil)))) (vCons (vArg mkTup (vCons (vC (.int 1)) (vCons (vC (.int 2)) (vCons (vC (.int 4)) vNil)))) vNil))) (vCons (vArg mkTup (vCons (vBin gSub (vUn (iU fun i => -i) (vC (.int 10))) (vVar 0)) (vCons (vBin gAdd (vC (.int 5)) (vVar 0)) (vCons (vC (.int 5)) vNil)))) vNil)))))
  (sSeq (sSet 2 (vBin gAdd (vSl gSl (vVar 1) oNone (oSome (vC (.int 2)))) (vArg mkTup (vCons (vArg mkTup (vCons (vC .none) (vCons (vBin gAdd (vC (.int 5)) (vVar 0)) (vCons (vC .none) vNil)))) vNil))))
  (sSeq (sOwn 3 (vDisp (vCons (vBin (gCmp .Eq) (vCall g_nets (vCons (vVar 1) vNil)) (vArg mkTup (vCons (vBin gAdd (vC (.int 10)) (vVar 0)) (vCons (vC (.int 0)) (vCons (vC (.int 4)) vNil))))) (vCons (vBin (gCmp .Eq) (vCall g_lacks (vCons (vVar 1) vNil)) (vArg mkTup (vCons (vC (.int 0)) (vCons (vUn (iU fun i => -i) (vC (.int 1))) (vCons (vC (.int 1)) vNil))))) (vCons (vBin (gCmp .Eq) (vCall g_least_error (vCons (vVar 1) vNil)) (vC (.int 1))) vNil)))))
  (sSeq (sApp 3 (vAndV (vBin (gCmp .Eq) (vCall g_truth (vCons (vVar 1) vNil)) (vArg mkTup (vCons (vBin gAdd (vC (.int 10)) (vVar 0)) (vCons (vC (.int 0)) (vCons (vC (.int 5)) vNil))))) (vAndV (vBin (gCmp .Eq) (vCall g_shown (vCons (vVar 1) (vCons (vArg mkTup (vCons (vC (.int 0)) (vCons (vC (.int 0)) (vCons (vC (.int 1)) vNil)))) vNil))) (vC (.int 1))) (vBin (gCmp .Eq) (vCall g_shown (vCons (vVar 1) (vCons (vArg mkTup (vCons (vC (.int 0)) (vCons (vUn (iU fun i => -i) (vC (.int 1))) (vCons (vC (.int 0)) vNil)))) vNil))) (vC (.int 1))))))
  (sSeq (sApp 3 (vAndV (vBin (gCmp .Eq) (vCall g_owes (vCons (vVar 1) (vCons (vC (.int 1)) (vCons (vC (.int 1)) (vCons (vC (.int 0)) vNil))))) (vArg mkTup (vCons (vBin gAdd (vC (.int 10)) (vVar 0)) (vCons (vBin gAdd (vC (.int 10)) (vVar 0)) vNil)))) (vBin (gCmp .Eq) (vCall g_owes (vCons (vVar 1) (vCons (vC (.int 3)) (vCons (vC (.int 1)) (vCons (vC (.int 0)) vNil))))) (vArg mkTup (vCons (vBin gAdd (vC (.int 9)) (vVar 0)) (vCons (vBin gAdd (vC (.int 10)) (vVar 0)) vNil))))))
  (sSeq (sApp 3 (vAndV (vBin (gCmp .Eq) (vCall g_owes (vCons (vVar 1) (vCons (vC (.int 4)) (vCons (vC (.int 1)) (vCons (vC (.int 0)) vNil))))) (vArg mkTup (vCons (vBin gAdd (vC (.int 9)) (vVar 0)) (vCons (vBin gAdd (vC (.int 11)) (vVar 0)) vNil)))) (vBin (gCmp .Eq) (vCall g_owes (vCons (vVar 1) (vCons (vC (.int 1)) (vCons (vC (.int 2)) (vCons (vC (.int 1)) vNil))))) (vArg mkTup (vCons (vC (.int 5)) (vCons (vC (.int 5)) vNil))))))
  (sSeq (sApp 3 (vAndV (vBin (gCmp .Eq) (vCall g_owes (vCons (vVar 2) (vCons (vC (.int 1)) (vCons (vC (.int 1)) (vCons (vC (.int 0)) vNil))))) (vArg mkTup (vCons (vBin gAdd (vC (.int 9)) (vVar 0)) (vCons (vBin gAdd (vC (.int 10)) (vVar 0)) vNil)))) (vBin (gCmp .Eq) (vCall g_is_wrong (vCons (vVar 2) (vCons (vC (.int 1)) (vCons (vC (.int 0)) (vCons (vC (.int 1)) vNil))))) (vC (.str "open")))))
  (sSeq (sApp 3 (vAndV (vBin (gCmp .Eq) (vCall g_is_wrong (vCons (vVar 1) (vCons (vC (.int 1)) (vCons (vC (.int 2)) (vCons (vC (.int 1)) vNil))))) (vC (.str "sure"))) (vBin (gCmp .Eq) (vCall g_is_wrong (vCons (vVar 1) (vCons (vC (.int 1)) (vCons (vC (.int 0)) (vCons (vC (.int 1)) vNil))))) (vC (.str "never")))))
  (sSeq (sApp 3 (vBin (gCmp .Eq) (vCall g_count_of (vCons (vVar 2) (vCons (vC (.int 1)) (vCons (vC (.int 0)) vNil)))) (vArg mkTup (vCons (vBin gSub (vUn (iU fun i => -i) (vC (.int 10))) (vVar 0)) (vCons (vBin gSub (vUn (iU fun i => -i) (vC (.int 9))) (vVar 0)) vNil)))))
  (sSeq (sApp 3 (vBin (gCmp .Eq) (vCall g_count_of (vCons (vVar 2) (vCons (vC (.int 2)) (vCons (vC (.int 0)) vNil)))) (vArg mkTup (vCons (vBin gSub (vUn (iU fun i => -i) (vC (.int 11))) (vVar 0)) (vCons (vBin gSub (vUn (iU fun i => -i) (vC (.int 8))) (vVar 0)) vNil)))))
  (sRet (vBin gAdd (vVar 3) (vArg mkLst (vCons (vAndV (vBin (gCmp .Eq) (vCall g_best_counted (vCons (vVar 2) (vCons (vC (.int 2)) vNil))) (vC (.int 0))) (vAndV (vBin (gCmp .Eq) (vCall g_needless (vCons (vVar 1) vNil)) (vArg mkLst (vCons (vC (.int 0)) (vCons (vC (.int 1)) (vCons (vC (.int 2)) vNil))))) (vBin (gCmp .Eq) (vCall g_fewest_wrong (vCons (vVar 1) vNil)) (vC (.int 1))))) vNil))))))))))))))
def g__law_chain : FX := fnP 1 4 (x__law_chain)
def x__law_doubled : SX := (sSeq (sSet 1 (vArg mkTup (vCons (vArg mkTup (vCons (vC (.int 0)) (vCons (vC (.int 1)) (vCons (vVar 0) vNil)))) (vCons (vArg mkTup (vCons (vC (.int 0)) (vCons (vC (.int 1)) (vCons (vVar 0) vNil)))) vNil))))
  (sSeq (sOwn 2 (vDisp (vCons (vBin (gCmp .Eq) (vCall g_least_error (vCons (vArg mkTup (vCons (vC (.int 2)) (vCons (vVar 1) (vCons (vArg mkTup (vCons (vC .none) (vCons (vVar 0) vNil))) vNil)))) vNil)) (vVar 0)) (vCons (vBin (gCmp .Eq) (vCall g_truth (vCons (vArg mkTup (vCons (vC (.int 2)) (vCons (vVar 1) (vCons (vArg mkTup (vCons (vUn (iU fun i => -i) (vVar 0)) (vCons (vVar 0) vNil))) vNil)))) vNil)) (vArg mkTup (vCons (vVar 0) vNil))) vNil))))
  (sSeq (sApp 2 (vBin (gCmp .Is) (vCall g_least_error (vCons (vArg mkTup (vCons (vC (.int 2)) (vCons (vVar 1) (vCons (vArg mkTup (vCons (vUn (iU fun i => -i) (vVar 0)) (vCons (vBin (iI cMul fun i j => i * j) (vC (.int 2)) (vVar 0)) vNil))) vNil)))) vNil)) (vC .none)))
  (sSeq (sApp 2 (vBin (gCmp .Eq) (vCall g_owes (vCons (vArg mkTup (vCons (vC (.int 2)) (vCons (vVar 1) (vCons (vArg mkTup (vCons (vC .none) (vCons (vVar 0) vNil))) vNil)))) (vCons (vVar 0) (vCons (vC (.int 1)) (vCons (vC (.int 0)) vNil))))) (vArg mkTup (vCons (vVar 0) (vCons (vVar 0) vNil)))))
  (sSeq (sApp 2 (vBin (gCmp .Eq) (vCall g_owes (vCons (vArg mkTup (vCons (vC (.int 3)) (vCons (vVar 1) (vCons (vArg mkTup (vCons (vC .none) (vCons (vVar 0) (vCons (vC .none) vNil)))) vNil)))) (vCons (vVar 0) (vCons (vC (.int 1)) (vCons (vC (.int 0)) vNil))))) (vArg mkTup (vCons (vVar 0) (vCons (vBin (iI cMul fun i j => i * j) (vC (.int 2)) (vVar 0)) vNil)))))
  (sSeq (sApp 2 (vBin (gCmp .Eq) (vCall g_owes (vCons (vArg mkTup (vCons (vC (.int 3)) (vCons (vVar 1) (vCons (vArg mkTup (vCons (vC .none) (vCons (vVar 0) (vCons (vC (.int 0)) vNil)))) vNil)))) (vCons (vVar 0) (vCons (vC (.int 1)) (vCons (vC (.int 0)) vNil))))) (vArg mkTup (vCons (vVar 0) (vCons (vVar 0) vNil)))))
  (sSeq (sSet 3 (vArg mkTup (vCons (vBin gSub (vBin (iI cMul fun i j => i * j) (vC (.int 2)) (vVar 0)) (vBin gDiv (vBin (iI cMul fun i j => i * j) (vC (.int 5)) (vVar 0)) (vC (.int 3)))) (vCons (vBin gAdd (vBin (iI cMul fun i j => i * j) (vC (.int 2)) (vVar 0)) (vBin gDiv (vVar 0) (vC (.int 3)))) vNil))))
  (sSeq (sApp 2 (vBin (gCmp .Eq) (vCall g_owes (vCons (vArg mkTup (vCons (vC (.int 3)) (vCons (vVar 1) (vCons (vArg mkTup (vCons (vC .none) (vCons (vVar 0) (vCons (vC (.int 0)) vNil)))) vNil)))) (vCons (vBin (iI cMul fun i j => i * j) (vC (.int 3)) (vVar 0)) (vCons (vC (.int 1)) (vCons (vC (.int 0)) vNil))))) (vVar 3)))
  (sRet (vBin gAdd (vVar 2) (vArg mkLst (vCons (vAndV (vBin (gCmp .Eq) (vCall g_fewest_wrong (vCons (vArg mkTup (vCons (vC (.int 3)) (vCons (vVar 1) (vCons (vArg mkTup (vCons (vC .none) (vCons (vVar 0) (vCons (vC (.int 0)) vNil)))) vNil)))) vNil)) (vC (.int 1))) (vBin (gCmp .Eq) (vCall g_prices (vCons (vArg mkTup (vCons (vC (.int 2)) (vCons (vVar 1) (vCons (vArg mkTup (vCons (vC .none) (vCons (vVar 0) vNil))) vNil)))) vNil)) (vArg mkTup (vCons (vC (.int 0)) (vCons (vUn (iU fun i => -i) (vC (.int 1))) vNil))))) vNil))))))))))))
def g__law_doubled : FX := fnP 1 4 (x__law_doubled)
def x__law_evened : SX := (sSeq (sOwn 1 (vDisp (vCons (vBin (gCmp .Eq) (vCall g_fewest_ways (vCons (vArg mkTup (vCons (vBin (iI cMul fun i j => i * j) (vC (.int 3)) (vVar 0)) (vCons (vBin (iI cMul fun i j => i * j) (vUn (iU fun i => -i) (vC (.int 3))) (vVar 0)) vNil))) vNil)) (vC (.int 1))) (vCons (vBin (gCmp .Eq) (vCall g_ways (vCons (vArg mkTup (vCons (vBin (iI cMul fun i j => i * j) (vC (.int 5)) (vVar 0)) (vCons (vBin (iI cMul fun i j => i * j) (vUn (iU fun i => -i) (vC (.int 5))) (vVar 0)) vNil))) vNil)) (vArg mkTup (vCons (vArg mkTup (vCons (vC (.int 0)) (vCons (vC (.int 1)) (vCons (vBin (iI cMul fun i j => i * j) (vC (.int 5)) (vVar 0)) vNil)))) vNil))) vNil))))
  (sSeq (sApp 1 (vBin (gCmp .Eq) (vCall g_fewest_ways (vCons (vArg mkTup (vCons (vBin (iI cMul fun i j => i * j) (vC (.int 4)) (vVar 0)) (vCons (vBin (iI cMul fun i j => i * j) (vC (.int 2)) (vVar 0)) (vCons (vBin (iI cMul fun i j => i * j) (vUn (iU fun i => -i) (vC (.int 4))) (vVar 0)) (vCons (vBin (iI cMul fun i j => i * j) (vUn (iU fun i => -i) (vC (.int 2))) (vVar 0)) vNil))))) vNil)) (vC (.int 2))))
  (sSeq (sApp 1 (vBin (gCmp .Eq) (vCall g_fewest_ways (vCons (vArg mkTup (vCons (vBin (iI cMul fun i j => i * j) (vC (.int 3)) (vVar 0)) (vCons (vBin (iI cMul fun i j => i * j) (vC (.int 3)) (vVar 0)) (vCons (vBin (iI cMul fun i j => i * j) (vUn (iU fun i => -i) (vC (.int 2))) (vVar 0)) (vCons (vBin (iI cMul fun i j => i * j) (vUn (iU fun i => -i) (vC (.int 2))) (vVar 0)) (vCons (vBin (iI cMul fun i j => i * j) (vUn (iU fun i => -i) (vC (.int 2))) (vVar 0)) vNil)))))) vNil)) (vC (.int 4))))
  (sSeq (sApp 1 (vCall g_evens (vCons (vArg mkTup (vCons (vBin (iI cMul fun i j => i * j) (vC (.int 5)) (vVar 0)) (vCons (vBin (iI cMul fun i j => i * j) (vUn (iU fun i => -i) (vC (.int 2))) (vVar 0)) (vCons (vBin (iI cMul fun i j => i * j) (vUn (iU fun i => -i) (vC (.int 3))) (vVar 0)) vNil)))) (vCons (vArg mkTup (vCons (vArg mkTup (vCons (vC (.int 0)) (vCons (vC (.int 1)) (vCons (vBin (iI cMul fun i j => i * j) (vC (.int 2)) (vVar 0)) vNil)))) (vCons (vArg mkTup (vCons (vC (.int 0)) (vCons (vC (.int 2)) (vCons (vBin (iI cMul fun i j => i * j) (vC (.int 3)) (vVar 0)) vNil)))) vNil))) vNil))))
  (sSeq (sApp 1 (vCall g_evens (vCons (vArg mkTup (vCons (vBin (iI cMul fun i j => i * j) (vC (.int 5)) (vVar 0)) (vCons (vBin (iI cMul fun i j => i * j) (vUn (iU fun i => -i) (vC (.int 2))) (vVar 0)) (vCons (vBin (iI cMul fun i j => i * j) (vUn (iU fun i => -i) (vC (.int 3))) (vVar 0)) vNil)))) (vCons (vArg mkTup (vCons (vArg mkTup (vCons (vC (.int 0)) (vCons (vC (.int 1)) (vCons (vBin (iI cMul fun i j => i * j) (vC (.int 5)) (vVar 0)) vNil)))) (vCons (vArg mkTup (vCons (vC (.int 1)) (vCons (vC (.int 2)) (vCons (vBin (iI cMul fun i j => i * j) (vC (.int 3)) (vVar 0)) vNil)))) vNil))) vNil))))
  (sRet (vBin gAdd (vVar 1) (vArg mkLst (vCons (vAndV (vNotV (vCall g_evens (vCons (vArg mkTup (vCons (vBin (iI cMul fun i j => i * j) (vC (.int 5)) (vVar 0)) (vCons (vBin (iI cMul fun i j => i * j) (vUn (iU fun i => -i) (vC (.int 2))) (vVar 0)) (vCons (vBin (iI cMul fun i j => i * j) (vUn (iU fun i => -i) (vC (.int 3))) (vVar 0)) vNil)))) (vCons (vArg mkTup (vCons (vArg mkTup (vCons (vC (.int 0)) (vCons (vC (.int 1)) (vCons (vBin (iI cMul fun i j => i * j) (vC (.int 5)) (vVar 0)) vNil)))) vNil)) vNil)))) (vBin (gCmp .Eq) (vCall g_ways (vCons (vArg mkTup (vCons (vC (.int 0)) (vCons (vC (.int 0)) (vCons (vC (.int 0)) vNil)))) vNil)) (vArg mkTup vNil))) vNil)))))))))
def g__law_evened : FX := fnP 1 2 (x__law_evened)
def x__law_written : SX := (sSeq (sUnp [0, 1] (selTup 2) (vArg mkTup (vCons (vArg mkTup (vCons (vC (.int 4)) (vCons (vArg mkTup (vCons (vArg mkTup (vCons (vC (.int 0)) (vCons (vC (.int 1)) (vCons (vC (.int 8)) vNil)))) (vCons (vArg mkTup (vCons (vC (.int 2)) (vCons (vC (.int 3)) (vCons (vC (.int 2)) vNil)))) (vCons (vArg mkTup (vCons (vC (.int 1)) (vCons (vC (.int 0)) (vCons (vC (.int 1)) vNil)))) vNil)))) (vCons (vArg mkTup (vCons (vUn (iU fun i => -i) (vC (.int 7))) (vCons (vC (.int 9)) (vCons (vUn (iU fun i => -i) (vC (.int 4))) (vCons (vC .none) vNil))))) vNil)))) (vCons (vArg mkTup (vCons (vC (.int 2)) (vCons (vArg mkTup (vCons (vArg mkTup (vCons (vC (.int 0)) (vCons (vC (.int 1)) (vCons (vC (.int 3)) vNil)))) vNil)) (vCons (vArg mkTup (vCons (vC .none) (vCons (vC .none) vNil))) vNil)))) vNil))))
  (sSeq (sOwn 2 (vDisp (vCons (vBin (gCmp .Eq) (vCall g_nets (vCons (vVar 0) vNil)) (vArg mkTup (vCons (vC (.int 7)) (vCons (vC (.int 0)) (vCons (vC (.int 0)) (vCons (vC (.int 0)) (vCons (vC (.int 0)) (vCons (vC (.int 2)) vNil)))))))) (vCons (vBin (gCmp .Eq) (vCall g_lacks (vCons (vVar 0) vNil)) (vArg mkTup (vCons (vC (.int 0)) (vCons (vC (.int 2)) (vCons (vUn (iU fun i => -i) (vC (.int 2))) (vCons (vC .none) vNil)))))) (vCons (vBin (gCmp .Eq) (vCall g_least_error (vCons (vVar 0) vNil)) (vC (.int 2))) vNil)))))
  (sSeq (sApp 2 (vAndV (vBin (gCmp .Eq) (vCall g_owes (vCons (vVar 0) (vCons (vC (.int 2)) (vCons (vC (.int 1)) (vCons (vC (.int 2)) vNil))))) (vArg mkTup (vCons (vC (.int 2)) (vCons (vC (.int 2)) vNil)))) (vAndV (vBin (gCmp .Eq) (vCall g_count_of (vCons (vVar 0) (vCons (vC (.int 2)) (vCons (vC (.int 3)) vNil)))) (vArg mkTup (vCons (vC (.int 2)) (vCons (vC (.int 2)) vNil)))) (vBin (gCmp .Eq) (vCall g_fewest_wrong (vCons (vVar 0) vNil)) (vC (.int 1))))))
  (sSeq (sApp 2 (vAndV (vBin (gCmp .Eq) (vCall g_few_truth (vCons (vVar 0) vNil)) (vArg mkTup (vCons (vC (.int 7)) (vCons (vC (.int 0)) (vCons (vC (.int 0)) (vCons (vUn (iU fun i => -i) (vC (.int 2))) (vCons (vC (.int 0)) (vCons (vC (.int 2)) vNil)))))))) (vAndV (vBin (gCmp .Eq) (vCall g_owes (vCons (vVar 1) (vCons (vC (.int 2)) (vCons (vC (.int 1)) (vCons (vC (.int 0)) vNil))))) (vArg mkTup (vCons (vC (.int 1)) (vCons (vC (.int 5)) vNil)))) (vBin (gCmp .Eq) (vCall g_error_of (vCons (vVar 1) (vCons (vArg mkTup (vCons (vUn (iU fun i => -i) (vC (.int 5))) vNil)) vNil))) (vC (.int 8))))))
  (sSeq (sApp 2 (vAndV (vBin (gCmp .Eq) (vCall g_who_owes (vCons (vVar 1) (vCons (vC (.int 2)) (vCons (vC (.int 1)) (vCons (vC (.int 0)) vNil))))) (vC (.str "sure"))) (vBin (gCmp .Eq) (vCall g_who_owes (vCons (vVar 1) (vCons (vC (.int 3)) (vCons (vC (.int 1)) (vCons (vC (.int 0)) vNil))))) (vC (.str "open")))))
  (sSeq (sApp 2 (vAndV (vBin (gCmp .Eq) (vCall g_who_owes (vCons (vVar 1) (vCons (vC (.int 9)) (vCons (vC (.int 0)) (vCons (vC (.int 1)) vNil))))) (vC (.str "open"))) (vBin (gCmp .Eq) (vCall g_who_owes (vCons (vVar 1) (vCons (vC (.int 3)) (vCons (vC (.int 0)) (vCons (vC (.int 1)) vNil))))) (vC (.str "never")))))
  (sSeq (sApp 2 (vAndV (vBin (gCmp .Eq) (vCall g_fewest_wrong (vCons (vArg mkTup (vCons (vC (.int 4)) (vCons (vArg mkTup vNil) (vCons (vArg mkTup (vCons (vC (.int 1)) (vCons (vUn (iU fun i => -i) (vC (.int 1))) (vCons (vC (.int 2)) (vCons (vUn (iU fun i => -i) (vC (.int 2))) vNil))))) vNil)))) vNil)) (vC (.int 2))) (vBin (gCmp .Eq) (vCall g_fewest_wrong (vCons (vArg mkTup (vCons (vC (.int 4)) (vCons (vArg mkTup vNil) (vCons (vArg mkTup (vCons (vC (.int 1)) (vCons (vC (.int 1)) (vCons (vC (.int 1)) (vCons (vUn (iU fun i => -i) (vC (.int 3))) vNil))))) vNil)))) vNil)) (vC (.int 3)))))
  (sRet (vBin gAdd (vVar 2) (vArg mkLst (vCons (vAndV (vBin (gCmp .Eq) (vCall g_book_text (vCons (vVar 1) vNil)) (vC (.str "houses 2\nnote 0 1 3\ncounts * *"))) (vBin (gCmp .Eq) (vCall g_read_book (vCons (vCall g_book_text (vCons (vVar 0) vNil)) vNil)) (vVar 0))) vNil)))))))))))
def g__law_written : FX := fnP 0 3 (x__law_written)
def x_law : SX := (sSeq (sFor [1] selOne (vIt rng1 (vCons (vArg gMax2 (vCons (vC (.int 3)) (vCons (vArg gMin2 (vCons (vC (.int 7)) (vCons (vArg gLen (vCons (vVar 0) vNil)) vNil))) vNil))) vNil)) (sSeq (sOwn 2 (vCallF g__law_bin (vCons (vVar 0) (vCons (vVar 1) vNil))))
  (sFor [3] selOne (vItems (vArg mkTup (vCons (vC (.int 1)) (vCons (vBin gAdd (vC (.int 1)) (vCallU 2 g__law_grab (vCons (vC (.int 99)) vNil))) (vCons (vBin gAdd (vC (.int 1)) (vCallU 2 g__law_grab (vCons (vBin gPow (vC (.int 10)) (vC (.int 29))) vNil))) vNil))))) (sIf (vOr (vTest (vBin (gCmp .In) (vC (.bool false)) (vCall g__law_chain (vCons (vVar 3) vNil)))) (vOr (vTest (vBin (gCmp .In) (vC (.bool false)) (vCall g__law_doubled (vCons (vVar 3) vNil)))) (vTest (vBin (gCmp .In) (vC (.bool false)) (vCall g__law_evened (vCons (vVar 3) vNil)))))) (sRet (vC (.bool false))) sNil))))
  (sRet (vBin (gCmp .NotIn) (vC (.bool false)) (vCall g__law_written vNil))))
def g_law : FX := fnP 1 4 (x_law)
end Ev
set_option maxHeartbeats 200000
set_option maxHeartbeats 0
namespace Ev
open PySem PySem.Spec L2
def topS (i : Nat) : Stmt := PySem.Challenge.pw_palletsowed_k13_known_books_by_hand.main.body.getD i (.Pass ⟨0, 0, 0, 0⟩)
def d_is_integer : He.DefD := ⟨("is_integer", none), "is_integer", "is_integer", defArgs (topS 15), defBody (topS 15), defScope (topS 15), [], []⟩
def d_is_note : He.DefD := ⟨("is_note", none), "is_note", "is_note", defArgs (topS 16), defBody (topS 16), defScope (topS 16), [], []⟩
def d_is_count : He.DefD := ⟨("is_count", none), "is_count", "is_count", defArgs (topS 17), defBody (topS 17), defScope (topS 17), [], []⟩
def d_is_book : He.DefD := ⟨("is_book", none), "is_book", "is_book", defArgs (topS 18), defBody (topS 18), defScope (topS 18), [], []⟩
def d_need_book : He.DefD := ⟨("need_book", none), "need_book", "need_book", defArgs (topS 19), defBody (topS 19), defScope (topS 19), [], []⟩
def d_need_houses : He.DefD := ⟨("need_houses", none), "need_houses", "need_houses", defArgs (topS 20), defBody (topS 20), defScope (topS 20), [], []⟩
def d_need_slack : He.DefD := ⟨("need_slack", none), "need_slack", "need_slack", defArgs (topS 21), defBody (topS 21), defScope (topS 21), [], []⟩
def d_pairs_of : He.DefD := ⟨("pairs_of", none), "pairs_of", "pairs_of", defArgs (topS 22), defBody (topS 22), defScope (topS 22), [], []⟩
def d_gone : He.DefD := ⟨("gone", none), "gone", "gone", defArgs (topS 23), defBody (topS 23), defScope (topS 23), [], []⟩
def d_nets_of : He.DefD := ⟨("nets_of", none), "nets_of", "nets_of", defArgs (topS 24), defBody (topS 24), defScope (topS 24), [], []⟩
def d_gain_of : He.DefD := ⟨("gain_of", none), "gain_of", "gain_of", defArgs (topS 25), defBody (topS 25), defScope (topS 25), [], []⟩
def d_gains_of : He.DefD := ⟨("gains_of", none), "gains_of", "gains_of", defArgs (topS 26), defBody (topS 26), defScope (topS 26), [], []⟩
def d_lacks_of : He.DefD := ⟨("lacks_of", none), "lacks_of", "lacks_of", defArgs (topS 27), defBody (topS 27), defScope (topS 27), [], []⟩
def d_nets : He.DefD := ⟨("nets", none), "nets", "nets", defArgs (topS 28), defBody (topS 28), defScope (topS 28), [], []⟩
def d_lacks : He.DefD := ⟨("lacks", none), "lacks", "lacks", defArgs (topS 29), defBody (topS 29), defScope (topS 29), [], []⟩
def d_sums_of : He.DefD := ⟨("sums_of", none), "sums_of", "sums_of", defArgs (topS 31), defBody (topS 31), defScope (topS 31), [], []⟩
def d_least_by : He.DefD := ⟨("least_by", none), "least_by", "least_by", defArgs (topS 32), defBody (topS 32), defScope (topS 32), [], []⟩
def d_moves_by : He.DefD := ⟨("moves_by", none), "moves_by", "moves_by", defArgs (topS 33), defBody (topS 33), defScope (topS 33), [], []⟩
def d_truth_by : He.DefD := ⟨("truth_by", none), "truth_by", "truth_by", defArgs (topS 34), defBody (topS 34), defScope (topS 34), [], []⟩
def d_is_truth : He.DefD := ⟨("is_truth", none), "is_truth", "is_truth", defArgs (topS 35), defBody (topS 35), defScope (topS 35), [], []⟩
def d_least_error : He.DefD := ⟨("least_error", none), "least_error", "least_error", defArgs (topS 36), defBody (topS 36), defScope (topS 36), [], []⟩
def d_truth : He.DefD := ⟨("truth", none), "truth", "truth", defArgs (topS 37), defBody (topS 37), defScope (topS 37), [], []⟩
def d_error_of : He.DefD := ⟨("error_of", none), "error_of", "error_of", defArgs (topS 38), defBody (topS 38), defScope (topS 38), [], []⟩
def d_are_prices : He.DefD := ⟨("are_prices", none), "are_prices", "are_prices", defArgs (topS 39), defBody (topS 39), defScope (topS 39), [], []⟩
def d_shown : He.DefD := ⟨("shown", none), "shown", "shown", defArgs (topS 40), defBody (topS 40), defScope (topS 40), [], []⟩
def d_prices : He.DefD := ⟨("prices", none), "prices", "prices", defArgs (topS 41), defBody (topS 41), defScope (topS 41), [], []⟩
def d_detour_of : He.DefD := ⟨("detour_of", none), "detour_of", "detour_of", defArgs (topS 43), defBody (topS 43), defScope (topS 43), [], []⟩
def d_least_shut : He.DefD := ⟨("least_shut", none), "least_shut", "least_shut", defArgs (topS 44), defBody (topS 44), defScope (topS 44), [], []⟩
def d_error_with : He.DefD := ⟨("error_with", none), "error_with", "error_with", defArgs (topS 45), defBody (topS 45), defScope (topS 45), [], []⟩
def d_is_let_owing : He.DefD := ⟨("is_let_owing", none), "is_let", "is_let", defArgs (topS 46), defBody (topS 46), defScope (topS 46), [], []⟩
def d_most_more : He.DefD := ⟨("most_more", none), "most_more", "most_more", defArgs (topS 48), defBody (topS 48), defScope (topS 48), [], []⟩
def d_need_truth : He.DefD := ⟨("need_truth", none), "need_truth", "need_truth", defArgs (topS 49), defBody (topS 49), defScope (topS 49), [], []⟩
def d_nets_by : He.DefD := ⟨("nets_by", none), "nets_by", "nets_by", defArgs (topS 50), defBody (topS 50), defScope (topS 50), [], []⟩
def d_owes_by : He.DefD := ⟨("owes_by", none), "owes_by", "owes_by", defArgs (topS 51), defBody (topS 51), defScope (topS 51), [], []⟩
def d_owes : He.DefD := ⟨("owes", none), "owes", "owes", defArgs (topS 52), defBody (topS 52), defScope (topS 52), [], []⟩
def d_who_owes : He.DefD := ⟨("who_owes", none), "who_owes", "who_owes", defArgs (topS 53), defBody (topS 53), defScope (topS 53), [], []⟩
def d_is_wrong : He.DefD := ⟨("is_wrong", none), "is_wrong", "is_wrong", defArgs (topS 54), defBody (topS 54), defScope (topS 54), [], []⟩
def d_is_even : He.DefD := ⟨("is_even", none), "is_even", "is_even", defArgs (topS 56), defBody (topS 56), defScope (topS 56), [], []⟩
def d_lots_of : He.DefD := ⟨("lots_of", none), "lots_of", "lots_of", defArgs (topS 57), defBody (topS 57), defScope (topS 57), [], []⟩
def d_parts_by : He.DefD := ⟨("parts_by", none), "parts_by", "parts_by", defArgs (topS 58), defBody (topS 58), defScope (topS 58), [], []⟩
def d_parts_of : He.DefD := ⟨("parts_of", none), "parts_of", "parts_of", defArgs (topS 59), defBody (topS 59), defScope (topS 59), [], []⟩
def d_moves_of : He.DefD := ⟨("moves_of", none), "moves_of", "moves_of", defArgs (topS 60), defBody (topS 60), defScope (topS 60), [], []⟩
def d_fewest_wrong : He.DefD := ⟨("fewest_wrong", none), "fewest_wrong", "fewest_wrong", defArgs (topS 61), defBody (topS 61), defScope (topS 61), [], []⟩
def d_few_truth : He.DefD := ⟨("few_truth", none), "few_truth", "few_truth", defArgs (topS 62), defBody (topS 62), defScope (topS 62), [], []⟩
def d_is_let_counting : He.DefD := ⟨("is_let_counting", none), "is_let", "is_let", defArgs (topS 64), defBody (topS 64), defScope (topS 64), [], []⟩
def d_most_lack : He.DefD := ⟨("most_lack", none), "most_lack", "most_lack", defArgs (topS 66), defBody (topS 66), defScope (topS 66), [], []⟩
def d_count_by : He.DefD := ⟨("count_by", none), "count_by", "count_by", defArgs (topS 67), defBody (topS 67), defScope (topS 67), [], []⟩
def d_count_of : He.DefD := ⟨("count_of", none), "count_of", "count_of", defArgs (topS 68), defBody (topS 68), defScope (topS 68), [], []⟩
def d_best_counted : He.DefD := ⟨("best_counted", none), "best_counted", "best_counted", defArgs (topS 69), defBody (topS 69), defScope (topS 69), [], []⟩
def d_needless : He.DefD := ⟨("needless", none), "needless", "needless", defArgs (topS 70), defBody (topS 70), defScope (topS 70), [], []⟩
def d_need_balances : He.DefD := ⟨("need_balances", none), "need_balances", "need_balances", defArgs (topS 72), defBody (topS 72), defScope (topS 72), [], []⟩
def d_ways_by : He.DefD := ⟨("ways_by", none), "ways_by", "ways_by", defArgs (topS 73), defBody (topS 73), defScope (topS 73), [], []⟩
def d_fewest_ways : He.DefD := ⟨("fewest_ways", none), "fewest_ways", "fewest_ways", defArgs (topS 74), defBody (topS 74), defScope (topS 74), [], []⟩
def d_ways : He.DefD := ⟨("ways", none), "ways", "ways", defArgs (topS 75), defBody (topS 75), defScope (topS 75), [], []⟩
def d_is_way : He.DefD := ⟨("is_way", none), "is_way", "is_way", defArgs (topS 76), defBody (topS 76), defScope (topS 76), [], []⟩
def d_evens : He.DefD := ⟨("evens", none), "evens", "evens", defArgs (topS 77), defBody (topS 77), defScope (topS 77), [], []⟩
def d_number_of : He.DefD := ⟨("number_of", none), "number_of", "number_of", defArgs (topS 80), defBody (topS 80), defScope (topS 80), [], []⟩
def d_text_of : He.DefD := ⟨("text_of", none), "text_of", "text_of", defArgs (topS 81), defBody (topS 81), defScope (topS 81), [], []⟩
def d_book_text : He.DefD := ⟨("book_text", none), "book_text", "book_text", defArgs (topS 82), defBody (topS 82), defScope (topS 82), [], []⟩
def d_book_in : He.DefD := ⟨("book_in", none), "book_in", "book_in", defArgs (topS 83), defBody (topS 83), defScope (topS 83), [], []⟩
def d_read_book : He.DefD := ⟨("read_book", none), "read_book", "read_book", defArgs (topS 84), defBody (topS 84), defScope (topS 84), [], []⟩
def d__law_bin : He.DefD := ⟨("_law_bin", none), "_law_bin", "_law_bin", defArgs (topS 86), defBody (topS 86), defScope (topS 86), [], []⟩
def d__law_grab : He.DefD := ⟨("_law_grab", none), "_law_grab", "_law_grab", defArgs (topS 87), defBody (topS 87), defScope (topS 87), [], []⟩
def d__law_chain : He.DefD := ⟨("_law_chain", none), "_law_chain", "_law_chain", defArgs (topS 89), defBody (topS 89), defScope (topS 89), [], []⟩
def d__law_doubled : He.DefD := ⟨("_law_doubled", none), "_law_doubled", "_law_doubled", defArgs (topS 90), defBody (topS 90), defScope (topS 90), [], []⟩
def d__law_evened : He.DefD := ⟨("_law_evened", none), "_law_evened", "_law_evened", defArgs (topS 91), defBody (topS 91), defScope (topS 91), [], []⟩
def d__law_written : He.DefD := ⟨("_law_written", none), "_law_written", "_law_written", defArgs (topS 92), defBody (topS 92), defScope (topS 92), [], []⟩
def d_law : He.DefD := ⟨("law", none), "law", "law", defArgs (topS 93), defBody (topS 93), defScope (topS 93), [], []⟩
def fn0 : List He.DefD := [d_is_integer, d_is_note, d_is_count, d_is_book, d_need_book, d_need_houses, d_need_slack, d_pairs_of, d_gone, d_nets_of, d_gain_of, d_gains_of, d_lacks_of, d_nets, d_lacks, d_sums_of, d_least_by, d_moves_by, d_truth_by, d_is_truth, d_least_error, d_truth, d_error_of, d_are_prices, d_shown, d_prices, d_detour_of, d_least_shut, d_error_with, d_is_let_owing]
def fn1 : List He.DefD := [d_most_more, d_need_truth, d_nets_by, d_owes_by, d_owes, d_who_owes, d_is_wrong, d_is_even, d_lots_of, d_parts_by, d_parts_of, d_moves_of, d_fewest_wrong, d_few_truth, d_is_let_counting, d_most_lack, d_count_by, d_count_of, d_best_counted, d_needless, d_need_balances, d_ways_by, d_fewest_ways, d_ways, d_is_way, d_evens, d_number_of, d_text_of, d_book_text, d_book_in]
def fn2 : List He.DefD := [d_read_book, d__law_bin, d__law_grab, d__law_chain, d__law_doubled, d__law_evened, d__law_written, d_law]
def fnAll : List He.DefD := fn0 ++ fn1 ++ fn2
def fa0 : List He.Fa := [.glo "is_integer", .glo "is_note", .glo "is_count", .glo "is_book", .glo "need_book", .glo "need_houses", .glo "need_slack", .glo "pairs_of", .glo "gone", .glo "nets_of", .glo "gain_of", .glo "gains_of", .glo "lacks_of", .glo "nets", .glo "lacks", .glo "sums_of", .glo "least_by", .glo "moves_by", .glo "truth_by", .glo "is_truth", .glo "least_error", .glo "truth", .glo "error_of", .glo "are_prices", .glo "shown", .glo "prices", .glo "detour_of", .glo "least_shut", .glo "error_with", .glo "is_let_owing"]
def fa1 : List He.Fa := [.glo "most_more", .glo "need_truth", .glo "nets_by", .glo "owes_by", .glo "owes", .glo "who_owes", .glo "is_wrong", .glo "is_even", .glo "lots_of", .glo "parts_by", .glo "parts_of", .glo "moves_of", .glo "fewest_wrong", .glo "few_truth", .glo "is_let_counting", .glo "most_lack", .glo "count_by", .glo "count_of", .glo "best_counted", .glo "needless", .glo "need_balances", .glo "ways_by", .glo "fewest_ways", .glo "ways", .glo "is_way", .glo "evens", .glo "number_of", .glo "text_of", .glo "book_text", .glo "book_in"]
def fa2 : List He.Fa := [.glo "read_book", .glo "_law_bin", .glo "_law_grab", .glo "_law_chain", .glo "_law_doubled", .glo "_law_evened", .glo "_law_written", .glo "law", .free "isinstance", .free "int", .free "bool", .free "tuple", .free "len", .free "all", .free "range", .free "sum", .free "zip", .free "max", .free "enumerate", .free "min", .free "abs", .free "list", .free "sorted", .free "str", .int "GREAT" 1000000000000000000000000000000, .int "MOST_SLACK" 100000000000000000000000000000000, .int "MOST_HOUSES" 5, .int "MOST_NOTES" 12, .str "STAR" "*"]
def faAll : List He.Fa := fa0 ++ fa1 ++ fa2
def lo0 : List Str := ["__name__", "PoolError", "InvalidBook", "InvalidHouse", "InvalidNumber", "InvalidTruth", "InvalidPrices", "InvalidBalances", "InvalidText", "NoTruth", "GREAT", "MOST_SLACK", "MOST_HOUSES", "MOST_NOTES", "is_integer", "is_note", "is_count", "is_book", "need_book", "need_houses", "need_slack", "pairs_of", "gone", "nets_of", "gain_of", "gains_of", "lacks_of", "nets", "lacks", "sums_of"]
def lo1 : List Str := ["least_by", "moves_by", "truth_by", "is_truth", "least_error", "truth", "error_of", "are_prices", "shown", "prices", "detour_of", "least_shut", "error_with", "is_let", "is_let_owing", "most_more", "need_truth", "nets_by", "owes_by", "owes", "who_owes", "is_wrong", "is_even", "lots_of", "parts_by", "parts_of", "moves_of", "fewest_wrong", "few_truth", "is_let_counting"]
def lo2 : List Str := ["most_lack", "count_by", "count_of", "best_counted", "needless", "need_balances", "ways_by", "fewest_ways", "ways", "is_way", "evens", "STAR", "number_of", "text_of", "book_text", "book_in", "read_book", "_law_bin", "_law_grab", "_law_pick", "_law_chain", "_law_doubled", "_law_evened", "_law_written"]
def loAll : List Str := lo0 ++ lo1 ++ lo2
abbrev R : PySem.W.OpenRow := PySem.W.OpenLaw.row PySem.Challenge.rw_palletsowed_k13_known_books_by_hand
abbrev hk : PySem.W.Hook := He.hookD 4 faAll fnAll
def ob (s : PySem.W.SharedT) : He.AlD := He.obsDG 4 faAll fnAll (HandSHeadRun.getT s)
theorem ob_eq (s : PySem.W.SharedT) : ob s = hk.obs s.abs := He.obsDG_eq (HandSHeadRun.getT_eq s)
theorem run (w : World) : HandSHeadRun.RunEq R (PySem.W.view R.prog [93]) hk ob 6000 loAll w := by
  intro os
  kernel_rfl

end Ev
set_option maxHeartbeats 200000
/-! The defs by data; printed by gen13.py. Own work. -/
namespace Ev
open PySem PySem.Spec L2
structure Bu (mg : Str → Option Value) : Prop where
  b_isinstance : mg "isinstance" = none
  b_int : mg "int" = none
  b_bool : mg "bool" = none
  b_tuple : mg "tuple" = none
  b_len : mg "len" = none
  b_all : mg "all" = none
  b_range : mg "range" = none
  b_sum : mg "sum" = none
  b_zip : mg "zip" = none
  b_max : mg "max" = none
  b_enumerate : mg "enumerate" = none
  b_min : mg "min" = none
  b_abs : mg "abs" = none
  b_list : mg "list" = none
  b_sorted : mg "sorted" = none
  b_str : mg "str" = none
  g_GREAT : ∃ t, mg "GREAT" = some (.int 1000000000000000000000000000000 t)
  g_MOST_SLACK : ∃ t, mg "MOST_SLACK" = some (.int 100000000000000000000000000000000 t)
  g_MOST_HOUSES : ∃ t, mg "MOST_HOUSES" = some (.int 5 t)
  g_MOST_NOTES : ∃ t, mg "MOST_NOTES" = some (.int 12 t)
  g_STAR : ∃ t, mg "STAR" = some (.str "*" t)
section
variable {P : Program} {w : World} {K : PySem.W.Frag} {mg : Str → Option Value} {base : Heap}
abbrev st_is_integer : Stmt := topS 15
theorem sc_is_integer : FnScope ["value", "low", "high"] ["value", "low", "high"] (defScope st_is_integer) := ⟨rfl, rfl, rfl, by decide +kernel, rfl, by decide +kernel, by decide +kernel⟩
theorem ok_is_integer (B : Bu mg) (e : En K mg "is_integer" "is_integer" "is_integer" st_is_integer ["value", "low", "high"])  : ClP P w K mg base 1 "is_integer" ["value", "low", "high"] (g_is_integer) :=
  cl_P e sc_is_integer (by decide) fun f cdv A outer s H E hr => by
  have tk : Takes (cxOf (L2.CX P w) P w K mg base ["value", "low", "high"] "is_integer" (defScope st_is_integer) f cdv A outer s H E) (WD E) := takes_of rfl rfl rfl rfl
  have hp : PassesOwn (model P w) (cxOf (L2.CX P w) P w K mg base ["value", "low", "high"] "is_integer" (defScope st_is_integer) f cdv A outer s H E).A (cxOf (L2.CX P w) P w K mg base ["value", "low", "high"] "is_integer" (defScope st_is_integer) f cdv A outer s H E).env (cxOf (L2.CX P w) P w K mg base ["value", "low", "high"] "is_integer" (defScope st_is_integer) f cdv A outer s H E).xe := passes_of rfl
  have nd := sc_is_integer.nd
  have hu := hr.units
  exact (dss_one (ds_ret (de_and (bIsi .int bt_int (de_var 0) B.b_isinstance B.b_int) (de_and (de_not (bIsi .bool bt_bool (de_var 0) B.b_isinstance B.b_bool)) (de_one (dch hu (de_var 1) (de_var 0) (de_var 2)))))))
abbrev st_is_note : Stmt := topS 16
theorem sc_is_note : FnScope ["houses", "value"] ["houses", "value"] (defScope st_is_note) := ⟨rfl, rfl, rfl, by decide +kernel, rfl, by decide +kernel, by decide +kernel⟩
theorem ok_is_note (B : Bu mg) (e : En K mg "is_note" "is_note" "is_note" st_is_note ["houses", "value"]) (c_is_integer : ClP P w K mg base 1 "is_integer" ["value", "low", "high"] g_is_integer) : ClP P w K mg base 2 "is_note" ["houses", "value"] (g_is_note) :=
  cl_P e sc_is_note (by decide) fun f cdv A outer s H E hr => by
  have tk : Takes (cxOf (L2.CX P w) P w K mg base ["houses", "value"] "is_note" (defScope st_is_note) f cdv A outer s H E) (WD E) := takes_of rfl rfl rfl rfl
  have hp : PassesOwn (model P w) (cxOf (L2.CX P w) P w K mg base ["houses", "value"] "is_note" (defScope st_is_note) f cdv A outer s H E).A (cxOf (L2.CX P w) P w K mg base ["houses", "value"] "is_note" (defScope st_is_note) f cdv A outer s H E).env (cxOf (L2.CX P w) P w K mg base ["houses", "value"] "is_note" (defScope st_is_note) f cdv A outer s H E).xe := passes_of rfl
  have nd := sc_is_note.nd
  have hu := hr.units
  exact (dss_cons (ds_if (dw_dt (dw_or (dt_not (dt_val (bIsi .tuple bt_tuple (de_var 1) B.b_isinstance B.b_tuple))) (dw_or (tc hu (bLen (da_cons (de_var 1) da_nil) B.b_len) de_int) (dw_or1 (dt_not (dt_val (dcP c_is_integer hr (by omega) tk (da_cons (di (de_var 1) de_int) (da_cons de_int (da_cons (dgI B.g_GREAT) da_nil)))))))))) (dss_one (ds_ret de_bl)) dss_nil)
  (dss_cons (ds_if (dw_dt (dw_or (dt_not (dt_val (dcP c_is_integer hr (by omega) tk (da_cons (di (de_var 1) de_int) (da_cons de_int (da_cons (de_sub (de_var 0) de_int) da_nil)))))) (dw_or1 (dt_not (dt_val (dcP c_is_integer hr (by omega) tk (da_cons (di (de_var 1) de_int) (da_cons de_int (da_cons (de_sub (de_var 0) de_int) da_nil))))))))) (dss_one (ds_ret de_bl)) dss_nil)
  (dss_one (ds_ret (dc hu (di (de_var 1) de_int) (di (de_var 1) de_int))))))
abbrev st_is_count : Stmt := topS 17
theorem sc_is_count : FnScope ["value"] ["value"] (defScope st_is_count) := ⟨rfl, rfl, rfl, by decide +kernel, rfl, by decide +kernel, by decide +kernel⟩
theorem ok_is_count (B : Bu mg) (e : En K mg "is_count" "is_count" "is_count" st_is_count ["value"]) (c_is_integer : ClP P w K mg base 1 "is_integer" ["value", "low", "high"] g_is_integer) : ClP P w K mg base 2 "is_count" ["value"] (g_is_count) :=
  cl_P e sc_is_count (by decide) fun f cdv A outer s H E hr => by
  have tk : Takes (cxOf (L2.CX P w) P w K mg base ["value"] "is_count" (defScope st_is_count) f cdv A outer s H E) (WD E) := takes_of rfl rfl rfl rfl
  have hp : PassesOwn (model P w) (cxOf (L2.CX P w) P w K mg base ["value"] "is_count" (defScope st_is_count) f cdv A outer s H E).A (cxOf (L2.CX P w) P w K mg base ["value"] "is_count" (defScope st_is_count) f cdv A outer s H E).env (cxOf (L2.CX P w) P w K mg base ["value"] "is_count" (defScope st_is_count) f cdv A outer s H E).xe := passes_of rfl
  have nd := sc_is_count.nd
  have hu := hr.units
  exact (dss_one (ds_ret (de_or (dc hu (de_var 0) de_non) (de_one (dcP c_is_integer hr (by omega) tk (da_cons (de_var 0) (da_cons (de_neg (dgI B.g_GREAT)) (da_cons (dgI B.g_GREAT) da_nil))))))))
abbrev st_is_book : Stmt := topS 18
theorem sc_is_book : FnScope ["value", "houses", "notes", "counts", "count", "note"] ["value"] (defScope st_is_book) := ⟨rfl, rfl, rfl, by decide +kernel, rfl, by decide +kernel, by decide +kernel⟩
theorem ok_is_book (B : Bu mg) (e : En K mg "is_book" "is_book" "is_book" st_is_book ["value"]) (c_is_integer : ClP P w K mg base 1 "is_integer" ["value", "low", "high"] g_is_integer) (c_is_note : ClP P w K mg base 2 "is_note" ["houses", "value"] g_is_note) (c_is_count : ClP P w K mg base 2 "is_count" ["value"] g_is_count) : ClP P w K mg base 3 "is_book" ["value"] (g_is_book) :=
  cl_P e sc_is_book (by decide) fun f cdv A outer s H E hr => by
  have tk : Takes (cxOf (L2.CX P w) P w K mg base ["value", "houses", "notes", "counts", "count", "note"] "is_book" (defScope st_is_book) f cdv A outer s H E) (WD E) := takes_of rfl rfl rfl rfl
  have hp : PassesOwn (model P w) (cxOf (L2.CX P w) P w K mg base ["value", "houses", "notes", "counts", "count", "note"] "is_book" (defScope st_is_book) f cdv A outer s H E).A (cxOf (L2.CX P w) P w K mg base ["value", "houses", "notes", "counts", "count", "note"] "is_book" (defScope st_is_book) f cdv A outer s H E).env (cxOf (L2.CX P w) P w K mg base ["value", "houses", "notes", "counts", "count", "note"] "is_book" (defScope st_is_book) f cdv A outer s H E).xe := passes_of rfl
  have nd := sc_is_book.nd
  have hu := hr.units
  exact (dss_cons (ds_if (dw_dt (dw_or (dt_not (dt_val (bIsi .tuple bt_tuple (de_var 0) B.b_isinstance B.b_tuple))) (dw_or (tc hu (bLen (da_cons (de_var 0) da_nil) B.b_len) de_int) (dw_or1 (dt_not (dt_val (dcP c_is_integer hr (by omega) tk (da_cons (di (de_var 0) de_int) (da_cons de_int (da_cons (dgI B.g_MOST_HOUSES) da_nil)))))))))) (dss_one (ds_ret de_bl)) dss_nil)
  (dss_cons (ds_unp (de_var 0) (dg_tup rfl (dgs_cons 1 (dgs_cons 2 (dgs_cons 3 dgs_nil nd) nd) nd)))
  (dss_cons (ds_if (dw_dt (dw_or (dt_not (dt_val (bIsi .tuple bt_tuple (de_var 2) B.b_isinstance B.b_tuple))) (dw_or (tc hu (bLen (da_cons (de_var 2) da_nil) B.b_len) (dgI B.g_MOST_NOTES)) (dw_or1 (dt_not (dt_val (bAll rfl (da_cons (DF.de (df_lc rfl nd (di_seq (de_var 2)) (own := [("note", 5)]) (blkOk_by (by kernel_rfl)) (by decide) (fun _ => (dg_name 5 nd)) (fun _ => dts_nil) (fun _ => (dcP c_is_note hr (by omega) takes0 (da_cons (de_var 1) (da_cons (de_var 5) da_nil)))))) da_nil) B.b_all))))))) (dss_one (ds_ret de_bl)) dss_nil)
  (dss_one (ds_ret (de_and (bIsi .tuple bt_tuple (de_var 3) B.b_isinstance B.b_tuple) (de_and (dc hu (bLen (da_cons (de_var 3) da_nil) B.b_len) (de_var 1)) (de_one (bAll rfl (da_cons (DF.de (df_lc rfl nd (di_seq (de_var 3)) (own := [("count", 4)]) (blkOk_by (by kernel_rfl)) (by decide) (fun _ => (dg_name 4 nd)) (fun _ => dts_nil) (fun _ => (dcP c_is_count hr (by omega) takes0 (da_cons (de_var 4) da_nil))))) da_nil) B.b_all)))))))))
abbrev st_need_book : Stmt := topS 19
theorem sc_need_book : FnScope ["value"] ["value"] (defScope st_need_book) := ⟨rfl, rfl, rfl, by decide +kernel, rfl, by decide +kernel, by decide +kernel⟩
theorem ok_need_book (B : Bu mg) (e : En K mg "need_book" "need_book" "need_book" st_need_book ["value"]) (c_is_book : ClP P w K mg base 3 "is_book" ["value"] g_is_book) : ClP P w K mg base 4 "need_book" ["value"] (g_need_book) :=
  cl_P e sc_need_book (by decide) fun f cdv A outer s H E hr => by
  have tk : Takes (cxOf (L2.CX P w) P w K mg base ["value"] "need_book" (defScope st_need_book) f cdv A outer s H E) (WD E) := takes_of rfl rfl rfl rfl
  have hp : PassesOwn (model P w) (cxOf (L2.CX P w) P w K mg base ["value"] "need_book" (defScope st_need_book) f cdv A outer s H E).A (cxOf (L2.CX P w) P w K mg base ["value"] "need_book" (defScope st_need_book) f cdv A outer s H E).env (cxOf (L2.CX P w) P w K mg base ["value"] "need_book" (defScope st_need_book) f cdv A outer s H E).xe := passes_of rfl
  have nd := sc_need_book.nd
  have hu := hr.units
  exact (dss_one (ds_if (dt_not (dt_val (dcP c_is_book hr (by omega) tk (da_cons (de_var 0) da_nil)))) (dss_one ds_no) dss_nil))
abbrev st_need_houses : Stmt := topS 20
theorem sc_need_houses : FnScope ["houses", "house", "other"] ["houses", "house", "other"] (defScope st_need_houses) := ⟨rfl, rfl, rfl, by decide +kernel, rfl, by decide +kernel, by decide +kernel⟩
theorem ok_need_houses (B : Bu mg) (e : En K mg "need_houses" "need_houses" "need_houses" st_need_houses ["houses", "house", "other"]) (c_is_integer : ClP P w K mg base 1 "is_integer" ["value", "low", "high"] g_is_integer) : ClP P w K mg base 2 "need_houses" ["houses", "house", "other"] (g_need_houses) :=
  cl_P e sc_need_houses (by decide) fun f cdv A outer s H E hr => by
  have tk : Takes (cxOf (L2.CX P w) P w K mg base ["houses", "house", "other"] "need_houses" (defScope st_need_houses) f cdv A outer s H E) (WD E) := takes_of rfl rfl rfl rfl
  have hp : PassesOwn (model P w) (cxOf (L2.CX P w) P w K mg base ["houses", "house", "other"] "need_houses" (defScope st_need_houses) f cdv A outer s H E).A (cxOf (L2.CX P w) P w K mg base ["houses", "house", "other"] "need_houses" (defScope st_need_houses) f cdv A outer s H E).env (cxOf (L2.CX P w) P w K mg base ["houses", "house", "other"] "need_houses" (defScope st_need_houses) f cdv A outer s H E).xe := passes_of rfl
  have nd := sc_need_houses.nd
  have hu := hr.units
  exact (dss_cons (ds_if (dt_not (dt_val (dcP c_is_integer hr (by omega) tk (da_cons (de_var 1) (da_cons de_int (da_cons (de_sub (de_var 0) de_int) da_nil)))))) (dss_one ds_no) dss_nil)
  (dss_one (ds_if (dw_dt (dw_or (dt_not (dt_val (dcP c_is_integer hr (by omega) tk (da_cons (de_var 2) (da_cons de_int (da_cons (de_sub (de_var 0) de_int) da_nil)))))) (dw_or1 (tc hu (de_var 2) (de_var 1))))) (dss_one ds_no) dss_nil)))
abbrev st_need_slack : Stmt := topS 21
theorem sc_need_slack : FnScope ["value"] ["value"] (defScope st_need_slack) := ⟨rfl, rfl, rfl, by decide +kernel, rfl, by decide +kernel, by decide +kernel⟩
theorem ok_need_slack (B : Bu mg) (e : En K mg "need_slack" "need_slack" "need_slack" st_need_slack ["value"]) (c_is_integer : ClP P w K mg base 1 "is_integer" ["value", "low", "high"] g_is_integer) : ClP P w K mg base 2 "need_slack" ["value"] (g_need_slack) :=
  cl_P e sc_need_slack (by decide) fun f cdv A outer s H E hr => by
  have tk : Takes (cxOf (L2.CX P w) P w K mg base ["value"] "need_slack" (defScope st_need_slack) f cdv A outer s H E) (WD E) := takes_of rfl rfl rfl rfl
  have hp : PassesOwn (model P w) (cxOf (L2.CX P w) P w K mg base ["value"] "need_slack" (defScope st_need_slack) f cdv A outer s H E).A (cxOf (L2.CX P w) P w K mg base ["value"] "need_slack" (defScope st_need_slack) f cdv A outer s H E).env (cxOf (L2.CX P w) P w K mg base ["value"] "need_slack" (defScope st_need_slack) f cdv A outer s H E).xe := passes_of rfl
  have nd := sc_need_slack.nd
  have hu := hr.units
  exact (dss_one (ds_if (dt_not (dt_val (dcP c_is_integer hr (by omega) tk (da_cons (de_var 0) (da_cons de_int (da_cons (dgI B.g_MOST_SLACK) da_nil)))))) (dss_one ds_no) dss_nil))
abbrev st_pairs_of : Stmt := topS 22
theorem sc_pairs_of : FnScope ["houses", "found", "one", "other"] ["houses"] (defScope st_pairs_of) := ⟨rfl, rfl, rfl, by decide +kernel, rfl, by decide +kernel, by decide +kernel⟩
theorem ok_pairs_of (B : Bu mg) (e : En K mg "pairs_of" "pairs_of" "pairs_of" st_pairs_of ["houses"])  : ClP P w K mg base 1 "pairs_of" ["houses"] (g_pairs_of) :=
  cl_P e sc_pairs_of (by decide) fun f cdv A outer s H E hr => by
  have tk : Takes (cxOf (L2.CX P w) P w K mg base ["houses", "found", "one", "other"] "pairs_of" (defScope st_pairs_of) f cdv A outer s H E) (WD E) := takes_of rfl rfl rfl rfl
  have hp : PassesOwn (model P w) (cxOf (L2.CX P w) P w K mg base ["houses", "found", "one", "other"] "pairs_of" (defScope st_pairs_of) f cdv A outer s H E).A (cxOf (L2.CX P w) P w K mg base ["houses", "found", "one", "other"] "pairs_of" (defScope st_pairs_of) f cdv A outer s H E).env (cxOf (L2.CX P w) P w K mg base ["houses", "found", "one", "other"] "pairs_of" (defScope st_pairs_of) f cdv A outer s H E).xe := passes_of rfl
  have nd := sc_pairs_of.nd
  have hu := hr.units
  exact (dss_cons (ds_set 1 (de_lst da_nil) nd)
  (dss_cons (ds_for hp rfl (di_range1 (da_cons (de_var 0) da_nil) (by rfl) B.b_range) (dg_name 2 nd) (dss_one (ds_set 1 (de_add (de_var 1) (DF.de (df_lc rfl nd (di_range2 (da_cons (de_add (de_var 2) de_int) (da_cons (de_var 0) da_nil)) (by rfl) B.b_range) (own := [("other", 3)]) (blkOk_by (by kernel_rfl)) (by decide) (fun _ => (dg_name 3 nd)) (fun _ => dts_nil) (fun _ => (de_tup (da_cons (de_var 2) (da_cons (de_var 3) da_nil))))))) nd)))
  (dss_one (ds_ret (de_var 1)))))
abbrev st_gone : Stmt := topS 23
theorem sc_gone : FnScope ["notes", "giver", "taker", "one", "other", "many"] ["notes", "giver", "taker"] (defScope st_gone) := ⟨rfl, rfl, rfl, by decide +kernel, rfl, by decide +kernel, by decide +kernel⟩
theorem ok_gone (B : Bu mg) (e : En K mg "gone" "gone" "gone" st_gone ["notes", "giver", "taker"])  : ClP P w K mg base 1 "gone" ["notes", "giver", "taker"] (g_gone) :=
  cl_P e sc_gone (by decide) fun f cdv A outer s H E hr => by
  have tk : Takes (cxOf (L2.CX P w) P w K mg base ["notes", "giver", "taker", "one", "other", "many"] "gone" (defScope st_gone) f cdv A outer s H E) (WD E) := takes_of rfl rfl rfl rfl
  have hp : PassesOwn (model P w) (cxOf (L2.CX P w) P w K mg base ["notes", "giver", "taker", "one", "other", "many"] "gone" (defScope st_gone) f cdv A outer s H E).A (cxOf (L2.CX P w) P w K mg base ["notes", "giver", "taker", "one", "other", "many"] "gone" (defScope st_gone) f cdv A outer s H E).env (cxOf (L2.CX P w) P w K mg base ["notes", "giver", "taker", "one", "other", "many"] "gone" (defScope st_gone) f cdv A outer s H E).xe := passes_of rfl
  have nd := sc_gone.nd
  have hu := hr.units
  exact (dss_one (ds_ret (bSum rfl (da_cons (DF.de (df_lc rfl nd (di_seq (de_var 0)) (own := [("one", 3), ("other", 4), ("many", 5)]) (blkOk_by (by kernel_rfl)) (by decide) (fun _ => (dg_tup rfl (dgs_cons 3 (dgs_cons 4 (dgs_cons 5 dgs_nil nd) nd) nd))) (fun _ => (dts_one (tc hu (de_tup (da_cons (de_var 3) (da_cons (de_var 4) da_nil))) (de_tup (da_cons (de_var 1) (da_cons (de_var 2) da_nil)))))) (fun _ => (de_var 5)))) da_nil) B.b_sum)))
abbrev st_nets_of : Stmt := topS 24
theorem sc_nets_of : FnScope ["houses", "notes", "one", "other"] ["houses", "notes"] (defScope st_nets_of) := ⟨rfl, rfl, rfl, by decide +kernel, rfl, by decide +kernel, by decide +kernel⟩
theorem ok_nets_of (B : Bu mg) (e : En K mg "nets_of" "nets_of" "nets_of" st_nets_of ["houses", "notes"]) (c_pairs_of : ClP P w K mg base 1 "pairs_of" ["houses"] g_pairs_of) (c_gone : ClP P w K mg base 1 "gone" ["notes", "giver", "taker"] g_gone) : ClP P w K mg base 2 "nets_of" ["houses", "notes"] (g_nets_of) :=
  cl_P e sc_nets_of (by decide) fun f cdv A outer s H E hr => by
  have tk : Takes (cxOf (L2.CX P w) P w K mg base ["houses", "notes", "one", "other"] "nets_of" (defScope st_nets_of) f cdv A outer s H E) (WD E) := takes_of rfl rfl rfl rfl
  have hp : PassesOwn (model P w) (cxOf (L2.CX P w) P w K mg base ["houses", "notes", "one", "other"] "nets_of" (defScope st_nets_of) f cdv A outer s H E).A (cxOf (L2.CX P w) P w K mg base ["houses", "notes", "one", "other"] "nets_of" (defScope st_nets_of) f cdv A outer s H E).env (cxOf (L2.CX P w) P w K mg base ["houses", "notes", "one", "other"] "nets_of" (defScope st_nets_of) f cdv A outer s H E).xe := passes_of rfl
  have nd := sc_nets_of.nd
  have hu := hr.units
  exact (dss_one (ds_ret (DF.de (df_lc rfl nd (di_seq (dcP c_pairs_of hr (by omega) tk (da_cons (de_var 0) da_nil))) (own := [("one", 2), ("other", 3)]) (blkOk_by (by kernel_rfl)) (by decide) (fun _ => (dg_tup rfl (dgs_cons 2 (dgs_cons 3 dgs_nil nd) nd))) (fun _ => dts_nil) (fun _ => (de_sub (dcP c_gone hr (by omega) takes0 (da_cons (de_var 1) (da_cons (de_var 2) (da_cons (de_var 3) da_nil)))) (dcP c_gone hr (by omega) takes0 (da_cons (de_var 1) (da_cons (de_var 3) (da_cons (de_var 2) da_nil))))))))))
abbrev st_gain_of : Stmt := topS 25
theorem sc_gain_of : FnScope ["pairs", "some", "house", "come", "pair", "net"] ["pairs", "some", "house"] (defScope st_gain_of) := ⟨rfl, rfl, rfl, by decide +kernel, rfl, by decide +kernel, by decide +kernel⟩
theorem ok_gain_of (B : Bu mg) (e : En K mg "gain_of" "gain_of" "gain_of" st_gain_of ["pairs", "some", "house"])  : ClP P w K mg base 1 "gain_of" ["pairs", "some", "house"] (g_gain_of) :=
  cl_P e sc_gain_of (by decide) fun f cdv A outer s H E hr => by
  have tk : Takes (cxOf (L2.CX P w) P w K mg base ["pairs", "some", "house", "come", "pair", "net"] "gain_of" (defScope st_gain_of) f cdv A outer s H E) (WD E) := takes_of rfl rfl rfl rfl
  have hp : PassesOwn (model P w) (cxOf (L2.CX P w) P w K mg base ["pairs", "some", "house", "come", "pair", "net"] "gain_of" (defScope st_gain_of) f cdv A outer s H E).A (cxOf (L2.CX P w) P w K mg base ["pairs", "some", "house", "come", "pair", "net"] "gain_of" (defScope st_gain_of) f cdv A outer s H E).env (cxOf (L2.CX P w) P w K mg base ["pairs", "some", "house", "come", "pair", "net"] "gain_of" (defScope st_gain_of) f cdv A outer s H E).xe := passes_of rfl
  have nd := sc_gain_of.nd
  have hu := hr.units
  exact (dss_cons (ds_set 3 (bSum rfl (da_cons (DF.de (df_lc rfl nd (di_zip (da_cons (de_var 0) (da_cons (de_var 1) da_nil)) (by rfl) B.b_zip) (own := [("pair", 4), ("net", 5)]) (blkOk_by (by kernel_rfl)) (by decide) (fun _ => (dg_tup rfl (dgs_cons 4 (dgs_cons 5 dgs_nil nd) nd))) (fun _ => (dts_one (tc hu (di (de_var 4) de_int) (de_var 2)))) (fun _ => (de_var 5)))) da_nil) B.b_sum) nd)
  (dss_one (ds_ret (de_sub (de_var 3) (bSum rfl (da_cons (DF.de (df_lc rfl nd (di_zip (da_cons (de_var 0) (da_cons (de_var 1) da_nil)) (by rfl) B.b_zip) (own := [("pair", 4), ("net", 5)]) (blkOk_by (by kernel_rfl)) (by decide) (fun _ => (dg_tup rfl (dgs_cons 4 (dgs_cons 5 dgs_nil nd) nd))) (fun _ => (dts_one (tc hu (di (de_var 4) de_int) (de_var 2)))) (fun _ => (de_var 5)))) da_nil) B.b_sum)))))
abbrev st_gains_of : Stmt := topS 26
theorem sc_gains_of : FnScope ["houses", "some", "house"] ["houses", "some"] (defScope st_gains_of) := ⟨rfl, rfl, rfl, by decide +kernel, rfl, by decide +kernel, by decide +kernel⟩
theorem ok_gains_of (B : Bu mg) (e : En K mg "gains_of" "gains_of" "gains_of" st_gains_of ["houses", "some"]) (c_gain_of : ClP P w K mg base 1 "gain_of" ["pairs", "some", "house"] g_gain_of) (c_pairs_of : ClP P w K mg base 1 "pairs_of" ["houses"] g_pairs_of) : ClP P w K mg base 2 "gains_of" ["houses", "some"] (g_gains_of) :=
  cl_P e sc_gains_of (by decide) fun f cdv A outer s H E hr => by
  have tk : Takes (cxOf (L2.CX P w) P w K mg base ["houses", "some", "house"] "gains_of" (defScope st_gains_of) f cdv A outer s H E) (WD E) := takes_of rfl rfl rfl rfl
  have hp : PassesOwn (model P w) (cxOf (L2.CX P w) P w K mg base ["houses", "some", "house"] "gains_of" (defScope st_gains_of) f cdv A outer s H E).A (cxOf (L2.CX P w) P w K mg base ["houses", "some", "house"] "gains_of" (defScope st_gains_of) f cdv A outer s H E).env (cxOf (L2.CX P w) P w K mg base ["houses", "some", "house"] "gains_of" (defScope st_gains_of) f cdv A outer s H E).xe := passes_of rfl
  have nd := sc_gains_of.nd
  have hu := hr.units
  exact (dss_one (ds_ret (DF.de (df_lc rfl nd (di_range1 (da_cons (de_var 0) da_nil) (by rfl) B.b_range) (own := [("house", 2)]) (blkOk_by (by kernel_rfl)) (by decide) (fun _ => (dg_name 2 nd)) (fun _ => dts_nil) (fun _ => (dcP c_gain_of hr (by omega) takes0 (da_cons (dcP c_pairs_of hr (by omega) takes0 (da_cons (de_var 0) da_nil)) (da_cons (de_var 1) (da_cons (de_var 2) da_nil)))))))))
abbrev st_lacks_of : Stmt := topS 27
theorem sc_lacks_of : FnScope ["book", "gains", "count", "gain"] ["book"] (defScope st_lacks_of) := ⟨rfl, rfl, rfl, by decide +kernel, rfl, by decide +kernel, by decide +kernel⟩
theorem ok_lacks_of (B : Bu mg) (e : En K mg "lacks_of" "lacks_of" "lacks_of" st_lacks_of ["book"]) (c_gains_of : ClP P w K mg base 2 "gains_of" ["houses", "some"] g_gains_of) (c_nets_of : ClP P w K mg base 2 "nets_of" ["houses", "notes"] g_nets_of) : ClP P w K mg base 3 "lacks_of" ["book"] (g_lacks_of) :=
  cl_P e sc_lacks_of (by decide) fun f cdv A outer s H E hr => by
  have tk : Takes (cxOf (L2.CX P w) P w K mg base ["book", "gains", "count", "gain"] "lacks_of" (defScope st_lacks_of) f cdv A outer s H E) (WD E) := takes_of rfl rfl rfl rfl
  have hp : PassesOwn (model P w) (cxOf (L2.CX P w) P w K mg base ["book", "gains", "count", "gain"] "lacks_of" (defScope st_lacks_of) f cdv A outer s H E).A (cxOf (L2.CX P w) P w K mg base ["book", "gains", "count", "gain"] "lacks_of" (defScope st_lacks_of) f cdv A outer s H E).env (cxOf (L2.CX P w) P w K mg base ["book", "gains", "count", "gain"] "lacks_of" (defScope st_lacks_of) f cdv A outer s H E).xe := passes_of rfl
  have nd := sc_lacks_of.nd
  have hu := hr.units
  exact (dss_cons (ds_set 1 (dcP c_gains_of hr (by omega) tk (da_cons (di (de_var 0) de_int) (da_cons (dcP c_nets_of hr (by omega) tk (da_cons (di (de_var 0) de_int) (da_cons (di (de_var 0) de_int) da_nil))) da_nil))) nd)
  (dss_one (ds_ret (DF.de (df_lc rfl nd (di_zip (da_cons (di (de_var 0) de_int) (da_cons (de_var 1) da_nil)) (by rfl) B.b_zip) (own := [("count", 2), ("gain", 3)]) (blkOk_by (by kernel_rfl)) (by decide) (fun _ => (dg_tup rfl (dgs_cons 2 (dgs_cons 3 dgs_nil nd) nd))) (fun _ => dts_nil) (fun _ => (de_if (tc hu (de_var 2) de_non) de_non (de_sub (de_var 2) (de_var 3)))))))))
abbrev st_nets : Stmt := topS 28
theorem sc_nets : FnScope ["book"] ["book"] (defScope st_nets) := ⟨rfl, rfl, rfl, by decide +kernel, rfl, by decide +kernel, by decide +kernel⟩
theorem ok_nets (B : Bu mg) (e : En K mg "nets" "nets" "nets" st_nets ["book"]) (c_need_book : ClP P w K mg base 4 "need_book" ["value"] g_need_book) (c_nets_of : ClP P w K mg base 2 "nets_of" ["houses", "notes"] g_nets_of) : ClP P w K mg base 5 "nets" ["book"] (g_nets) :=
  cl_P e sc_nets (by decide) fun f cdv A outer s H E hr => by
  have tk : Takes (cxOf (L2.CX P w) P w K mg base ["book"] "nets" (defScope st_nets) f cdv A outer s H E) (WD E) := takes_of rfl rfl rfl rfl
  have hp : PassesOwn (model P w) (cxOf (L2.CX P w) P w K mg base ["book"] "nets" (defScope st_nets) f cdv A outer s H E).A (cxOf (L2.CX P w) P w K mg base ["book"] "nets" (defScope st_nets) f cdv A outer s H E).env (cxOf (L2.CX P w) P w K mg base ["book"] "nets" (defScope st_nets) f cdv A outer s H E).xe := passes_of rfl
  have nd := sc_nets.nd
  have hu := hr.units
  exact (dss_cons (ds_expr (dcP c_need_book hr (by omega) tk (da_cons (de_var 0) da_nil)))
  (dss_one (ds_ret (bTup (da_cons (dcP c_nets_of hr (by omega) tk (da_cons (di (de_var 0) de_int) (da_cons (di (de_var 0) de_int) da_nil))) da_nil) B.b_tuple))))
abbrev st_lacks : Stmt := topS 29
theorem sc_lacks : FnScope ["book"] ["book"] (defScope st_lacks) := ⟨rfl, rfl, rfl, by decide +kernel, rfl, by decide +kernel, by decide +kernel⟩
theorem ok_lacks (B : Bu mg) (e : En K mg "lacks" "lacks" "lacks" st_lacks ["book"]) (c_need_book : ClP P w K mg base 4 "need_book" ["value"] g_need_book) (c_lacks_of : ClP P w K mg base 3 "lacks_of" ["book"] g_lacks_of) : ClP P w K mg base 5 "lacks" ["book"] (g_lacks) :=
  cl_P e sc_lacks (by decide) fun f cdv A outer s H E hr => by
  have tk : Takes (cxOf (L2.CX P w) P w K mg base ["book"] "lacks" (defScope st_lacks) f cdv A outer s H E) (WD E) := takes_of rfl rfl rfl rfl
  have hp : PassesOwn (model P w) (cxOf (L2.CX P w) P w K mg base ["book"] "lacks" (defScope st_lacks) f cdv A outer s H E).A (cxOf (L2.CX P w) P w K mg base ["book"] "lacks" (defScope st_lacks) f cdv A outer s H E).env (cxOf (L2.CX P w) P w K mg base ["book"] "lacks" (defScope st_lacks) f cdv A outer s H E).xe := passes_of rfl
  have nd := sc_lacks.nd
  have hu := hr.units
  exact (dss_cons (ds_expr (dcP c_need_book hr (by omega) tk (da_cons (de_var 0) da_nil)))
  (dss_one (ds_ret (bTup (da_cons (dcP c_lacks_of hr (by omega) tk (da_cons (de_var 0) da_nil)) da_nil) B.b_tuple))))
abbrev st_sums_of : Stmt := topS 31
theorem sc_sums_of : FnScope ["lacks", "known", "lack"] ["lacks"] (defScope st_sums_of) := ⟨rfl, rfl, rfl, by decide +kernel, rfl, by decide +kernel, by decide +kernel⟩
theorem ok_sums_of (B : Bu mg) (e : En K mg "sums_of" "sums_of" "sums_of" st_sums_of ["lacks"])  : ClP P w K mg base 1 "sums_of" ["lacks"] (g_sums_of) :=
  cl_P e sc_sums_of (by decide) fun f cdv A outer s H E hr => by
  have tk : Takes (cxOf (L2.CX P w) P w K mg base ["lacks", "known", "lack"] "sums_of" (defScope st_sums_of) f cdv A outer s H E) (WD E) := takes_of rfl rfl rfl rfl
  have hp : PassesOwn (model P w) (cxOf (L2.CX P w) P w K mg base ["lacks", "known", "lack"] "sums_of" (defScope st_sums_of) f cdv A outer s H E).A (cxOf (L2.CX P w) P w K mg base ["lacks", "known", "lack"] "sums_of" (defScope st_sums_of) f cdv A outer s H E).env (cxOf (L2.CX P w) P w K mg base ["lacks", "known", "lack"] "sums_of" (defScope st_sums_of) f cdv A outer s H E).xe := passes_of rfl
  have nd := sc_sums_of.nd
  have hu := hr.units
  exact (dss_cons (ds_setLc 1 rfl nd rfl (di_seq (de_var 0)) (own := [("lack", 2)]) (blkOk_by (by kernel_rfl)) (by decide) (fun _ => (dg_name 2 nd)) (fun _ => (dts_one (tc hu (de_var 2) de_non))) (fun _ => (de_var 2)) (sw_true rfl rfl rfl rfl))
  (dss_one (ds_ret (de_tup (da_cons (de_neg (bSum rfl (da_cons (DF.de (df_lc rfl nd (di_seq (de_var 1)) (own := [("lack", 2)]) (blkOk_by (by kernel_rfl)) (by decide) (fun _ => (dg_name 2 nd)) (fun _ => (dts_one (tc hu (de_var 2) de_int))) (fun _ => (de_var 2)))) da_nil) B.b_sum)) (da_cons (bSum rfl (da_cons (DF.de (df_lc rfl nd (di_seq (de_var 1)) (own := [("lack", 2)]) (blkOk_by (by kernel_rfl)) (by decide) (fun _ => (dg_name 2 nd)) (fun _ => (dts_one (tc hu (de_var 2) de_int))) (fun _ => (de_var 2)))) da_nil) B.b_sum) da_nil))))))
abbrev st_least_by : Stmt := topS 32
theorem sc_least_by : FnScope ["lacks", "over", "under"] ["lacks"] (defScope st_least_by) := ⟨rfl, rfl, rfl, by decide +kernel, rfl, by decide +kernel, by decide +kernel⟩
theorem ok_least_by (B : Bu mg) (e : En K mg "least_by" "least_by" "least_by" st_least_by ["lacks"]) (c_sums_of : ClP P w K mg base 1 "sums_of" ["lacks"] g_sums_of) : ClP P w K mg base 2 "least_by" ["lacks"] (g_least_by) :=
  cl_P e sc_least_by (by decide) fun f cdv A outer s H E hr => by
  have tk : Takes (cxOf (L2.CX P w) P w K mg base ["lacks", "over", "under"] "least_by" (defScope st_least_by) f cdv A outer s H E) (WD E) := takes_of rfl rfl rfl rfl
  have hp : PassesOwn (model P w) (cxOf (L2.CX P w) P w K mg base ["lacks", "over", "under"] "least_by" (defScope st_least_by) f cdv A outer s H E).A (cxOf (L2.CX P w) P w K mg base ["lacks", "over", "under"] "least_by" (defScope st_least_by) f cdv A outer s H E).env (cxOf (L2.CX P w) P w K mg base ["lacks", "over", "under"] "least_by" (defScope st_least_by) f cdv A outer s H E).xe := passes_of rfl
  have nd := sc_least_by.nd
  have hu := hr.units
  exact (dss_cons (ds_unp (dcP c_sums_of hr (by omega) tk (da_cons (de_var 0) da_nil)) (dg_tup rfl (dgs_cons 1 (dgs_cons 2 dgs_nil nd) nd)))
  (dss_one (ds_ret (de_if (dw_dt (dw_and (tc hu de_non (de_var 0)) (dw_and1 (tc hu (de_var 1) (de_var 2))))) de_non (bMax2 rfl (da_cons (de_var 1) (da_cons (de_var 2) da_nil)) B.b_max)))))
abbrev st_moves_by : Stmt := topS 33
abbrev N_moves : List Str := ["lacks", "givers", "takers", "over", "under", "found", "many", "house", "lack", "row"]
theorem sc_moves_by : FnScope N_moves ["lacks"] (defScope st_moves_by) := ⟨rfl, rfl, rfl, by decide +kernel, rfl, by decide +kernel, by decide +kernel⟩
theorem ok_moves_by (B : Bu mg) (e : En K mg "moves_by" "moves_by" "moves_by" st_moves_by ["lacks"]) (c_sums_of : ClP P w K mg base 1 "sums_of" ["lacks"] g_sums_of) : ClP P w K mg base 4 "moves_by" ["lacks"] g_moves_by := by
  obtain ⟨f, fd, F, hmg, hkp, hbd⟩ := e
  obtain ⟨f1, fd1, F1, hm1, hk1, hb1⟩ := c_sums_of
  refine ⟨f, fd, ?_, hmg, hkp, hbd⟩
  refine F.okX sc_moves_by (fun vs H Q E h => ?_) (fun cdv A outer s H vs Q E hr h => ?_)
  · obtain ⟨Ob, ds, al, d, m⟩ := h
    rw [d.length]
    exact movesBy_len m
  have nd := sc_moves_by.nd
  have hu := hr.units
  have tk : Takes (cxOf (L2.CX P w) P w K mg base N_moves "moves_by" (defScope st_moves_by) f cdv A outer s H E) (WD E) := takes_of rfl rfl rfl rfl
  have hp : PassesOwn (model P w) (cxOf (L2.CX P w) P w K mg base N_moves "moves_by" (defScope st_moves_by) f cdv A outer s H E).A (cxOf (L2.CX P w) P w K mg base N_moves "moves_by" (defScope st_moves_by) f cdv A outer s H E).env (cxOf (L2.CX P w) P w K mg base N_moves "moves_by" (defScope st_moves_by) f cdv A outer s H E).xe := passes_of rfl
  have hr1 : Room 1 (cxOf (L2.CX P w) P w K mg base N_moves "moves_by" (defScope st_moves_by) f cdv A outer s H E).A := hr.mono (by omega)
  refine ⟨_, (pss_cons (ps_setLc (i := 1) rfl nd rfl rfl (sw_true rfl rfl rfl rfl) (pi_enum (by rfl) B.b_enumerate (pa_cons (pe_var (i := 0) rfl (.inl rfl)) pa_nil)) (own := [("house", 7), ("lack", 8)]) (blkOk_by (by kernel_rfl))
      (g := gTup K 2 (gCons (gName 7) (gCons (gName 8) gNil))) (fun _ _ _ _ _ => by exact pg_tup rfl (pgs_cons (pg_name (i := 7) nd rfl (.inl rfl) (.inr rfl)) (pgs_cons (pg_name (i := 8) nd rfl (.inl rfl) (.inr rfl)) pgs_nil)))
      (fun _ _ _ _ _ => pts_one (PW.pt (pw_and (pt_cmpR op_notN (pe_var (i := 8) rfl (.inl rfl)) pe_non rfl) (pw_and1 (pt_cmpR op_lt (pe_var (i := 8) rfl (.inl rfl)) pe_int rfl)))))
      (fun _ _ _ _ _ => pe_lst (pa_cons (pe_var (i := 7) rfl (.inl rfl)) (pa_cons (pe_un un_neg (pe_var (i := 8) rfl (.inl rfl))) pa_nil))))
      (pss_cons (ps_setLc (i := 2) rfl nd rfl rfl (sw_true rfl rfl rfl rfl) (pi_enum (by rfl) B.b_enumerate (pa_cons (pe_var (i := 0) rfl (.inl rfl)) pa_nil)) (own := [("house", 7), ("lack", 8)]) (blkOk_by (by kernel_rfl))
      (g := gTup K 2 (gCons (gName 7) (gCons (gName 8) gNil))) (fun _ _ _ _ _ => by exact pg_tup rfl (pgs_cons (pg_name (i := 7) nd rfl (.inl rfl) (.inr rfl)) (pgs_cons (pg_name (i := 8) nd rfl (.inl rfl) (.inr rfl)) pgs_nil)))
      (fun _ _ _ _ _ => pts_one (PW.pt (pw_and (pt_cmpR op_notN (pe_var (i := 8) rfl (.inl rfl)) pe_non rfl) (pw_and1 (pt_cmpR op_gt (pe_var (i := 8) rfl (.inl rfl)) pe_int rfl)))))
      (fun _ _ _ _ _ => pe_lst (pa_cons (pe_var (i := 7) rfl (.inl rfl)) (pa_cons (pe_var (i := 8) rfl (.inl rfl)) pa_nil))))
      (pss_cons (ps_asg (pe_callSD F1 hr1 (by rfl) hm1 hk1 hb1 .nil (fun σ => passAt tk σ) (pa_cons (pe_var (i := 0) rfl (.inl rfl)) pa_nil)) (pg_tup rfl (pgs_cons (pg_name (i := 3) nd rfl (.inl rfl) (.inr rfl)) (pgs_cons (pg_name (i := 4) nd rfl (.inl rfl) (.inr rfl)) pgs_nil))))
      (pss_cons (ps_if (pt_cmpR op_lt (pe_var (i := 3) rfl (.inl rfl)) (pe_var (i := 4) rfl (.inl rfl)) rfl) (pss_one (ps_expr (pe_bm PySem.F.plainAttrs_list PySem.F.slot_list_append PySem.F.type_list_append mt_append (pe_var (i := 1) rfl (.inl rfl)) (pa_cons (pe_lst (pa_cons (pe_bm PySem.F.plainAttrs_list PySem.F.slot_list_index PySem.F.type_list_index (mt_indexD (units1 hr)) (pe_var (i := 0) rfl (.inl rfl)) (pa_cons pe_non pa_nil)) (pa_cons (pe_op op_sub (pe_var (i := 4) rfl (.inl rfl)) (pe_var (i := 3) rfl (.inl rfl))) pa_nil))) pa_nil)))) pss_nil)
      (pss_cons (ps_if (pt_cmpR op_lt (pe_var (i := 4) rfl (.inl rfl)) (pe_var (i := 3) rfl (.inl rfl)) rfl) (pss_one (ps_expr (pe_bm PySem.F.plainAttrs_list PySem.F.slot_list_append PySem.F.type_list_append mt_append (pe_var (i := 2) rfl (.inl rfl)) (pa_cons (pe_lst (pa_cons (pe_bm PySem.F.plainAttrs_list PySem.F.slot_list_index PySem.F.type_list_index (mt_indexD (units1 hr)) (pe_var (i := 0) rfl (.inl rfl)) (pa_cons pe_non pa_nil)) (pa_cons (pe_op op_sub (pe_var (i := 3) rfl (.inl rfl)) (pe_var (i := 4) rfl (.inl rfl))) pa_nil))) pa_nil)))) pss_nil)
      (pss_cons (ps_set (i := 5) nd rfl (.inl rfl) (pe_lst pa_nil))
      (pss_cons (ps_while hp (pt_cmpR (op_neD hu) (pe_var (i := 1) rfl (.inl rfl)) (pe_lst pa_nil) rfl) (pss_cons (ps_set (i := 6) nd rfl (.inl rfl) (pe_callB (call_min2 rfl) (by rfl) B.b_min boot_min (pa_cons (pe_ix ix_seq (pe_ix ix_seq (pe_var (i := 1) rfl (.inl rfl)) pe_int (fun _ _ => rfl)) pe_int (fun _ _ => rfl)) (pa_cons (pe_ix ix_seq (pe_ix ix_seq (pe_var (i := 2) rfl (.inl rfl)) pe_int (fun _ _ => rfl)) pe_int (fun _ _ => rfl)) pa_nil))))
      (pss_cons (ps_expr (pe_bm PySem.F.plainAttrs_list PySem.F.slot_list_append PySem.F.type_list_append mt_append (pe_var (i := 5) rfl (.inl rfl)) (pa_cons (pe_tup (pa_cons (pe_ix ix_seq (pe_ix ix_seq (pe_var (i := 1) rfl (.inl rfl)) pe_int (fun _ _ => rfl)) pe_int (fun _ _ => rfl)) (pa_cons (pe_ix ix_seq (pe_ix ix_seq (pe_var (i := 2) rfl (.inl rfl)) pe_int (fun _ _ => rfl)) pe_int (fun _ _ => rfl)) (pa_cons (pe_var (i := 6) rfl (.inl rfl)) pa_nil)))) pa_nil)))
      (pss_cons (ps_asg (pe_tup (pa_cons (pe_op op_sub (pe_ix ix_seq (pe_ix ix_seq (pe_var (i := 1) rfl (.inl rfl)) pe_int (fun _ _ => rfl)) pe_int (fun _ _ => rfl)) (pe_var (i := 6) rfl (.inl rfl))) (pa_cons (pe_op op_sub (pe_ix ix_seq (pe_ix ix_seq (pe_var (i := 2) rfl (.inl rfl)) pe_int (fun _ _ => rfl)) pe_int (fun _ _ => rfl)) (pe_var (i := 6) rfl (.inl rfl))) pa_nil))) (pg_tup rfl (pgs_cons (pg_sub (pe_ix ix_seq (pe_var (i := 1) rfl (.inl rfl)) pe_int (fun _ _ => rfl)) pe_int set_list) (pgs_cons (pg_sub (pe_ix ix_seq (pe_var (i := 2) rfl (.inl rfl)) pe_int (fun _ _ => rfl)) pe_int set_list) pgs_nil))))
      (pss_cons (ps_setLc (i := 1) rfl nd rfl rfl (sw_true rfl rfl rfl rfl) (pi_list (pe_var (i := 1) rfl (.inl rfl))) (own := [("row", 9)]) (blkOk_by (by kernel_rfl)) (fun _ _ _ _ _ => pg_name (i := 9) nd rfl (.inl rfl) (.inr rfl)) (fun _ _ _ _ _ => pts_one (pt_cmpR op_gt (pe_ix (r := rIx K) ix_seq (pe_var (i := 9) rfl (.inl rfl)) pe_int (fun _ _ => rfl)) pe_int rfl)) (fun _ _ _ _ _ => (pe_var (i := 9) rfl (.inl rfl))))
      (pss_one (ps_setLc (i := 2) rfl nd rfl rfl (sw_true rfl rfl rfl rfl) (pi_list (pe_var (i := 2) rfl (.inl rfl))) (own := [("row", 9)]) (blkOk_by (by kernel_rfl)) (fun _ _ _ _ _ => pg_name (i := 9) nd rfl (.inl rfl) (.inr rfl)) (fun _ _ _ _ _ => pts_one (pt_cmpR op_gt (pe_ix (r := rIx K) ix_seq (pe_var (i := 9) rfl (.inl rfl)) pe_int (fun _ _ => rfl)) pe_int rfl)) (fun _ _ _ _ _ => (pe_var (i := 9) rfl (.inl rfl))))))))))
      (pss_one (ps_ret (pe_var (i := 5) rfl (.inl rfl))))))))))), ?_⟩
  exact moves_read rfl h fun _ _ q => q

abbrev st_truth_by : Stmt := topS 34
theorem sc_truth_by : FnScope ["book", "moves", "more", "net", "move"] ["book", "moves"] (defScope st_truth_by) := ⟨rfl, rfl, rfl, by decide +kernel, rfl, by decide +kernel, by decide +kernel⟩
theorem ok_truth_by (B : Bu mg) (e : En K mg "truth_by" "truth_by" "truth_by" st_truth_by ["book", "moves"]) (c_nets_of : ClP P w K mg base 2 "nets_of" ["houses", "notes"] g_nets_of) : ClP P w K mg base 3 "truth_by" ["book", "moves"] (g_truth_by) :=
  cl_P e sc_truth_by (by decide) fun f cdv A outer s H E hr => by
  have tk : Takes (cxOf (L2.CX P w) P w K mg base ["book", "moves", "more", "net", "move"] "truth_by" (defScope st_truth_by) f cdv A outer s H E) (WD E) := takes_of rfl rfl rfl rfl
  have hp : PassesOwn (model P w) (cxOf (L2.CX P w) P w K mg base ["book", "moves", "more", "net", "move"] "truth_by" (defScope st_truth_by) f cdv A outer s H E).A (cxOf (L2.CX P w) P w K mg base ["book", "moves", "more", "net", "move"] "truth_by" (defScope st_truth_by) f cdv A outer s H E).env (cxOf (L2.CX P w) P w K mg base ["book", "moves", "more", "net", "move"] "truth_by" (defScope st_truth_by) f cdv A outer s H E).xe := passes_of rfl
  have nd := sc_truth_by.nd
  have hu := hr.units
  exact (dss_cons (ds_set 2 (dcP c_nets_of hr (by omega) tk (da_cons (di (de_var 0) de_int) (da_cons (de_var 1) da_nil))) nd)
  (dss_one (ds_ret (bTup (da_cons (DF.de (df_lc rfl nd (di_zip (da_cons (dcP c_nets_of hr (by omega) tk (da_cons (di (de_var 0) de_int) (da_cons (di (de_var 0) de_int) da_nil))) (da_cons (de_var 2) da_nil)) (by rfl) B.b_zip) (own := [("net", 3), ("move", 4)]) (blkOk_by (by kernel_rfl)) (by decide) (fun _ => (dg_tup rfl (dgs_cons 3 (dgs_cons 4 dgs_nil nd) nd))) (fun _ => dts_nil) (fun _ => (de_add (de_var 3) (de_var 4))))) da_nil) B.b_tuple))))
abbrev st_is_truth : Stmt := topS 35
theorem sc_is_truth : FnScope ["book", "value", "count", "gain", "net"] ["book", "value"] (defScope st_is_truth) := ⟨rfl, rfl, rfl, by decide +kernel, rfl, by decide +kernel, by decide +kernel⟩
theorem ok_is_truth (B : Bu mg) (e : En K mg "is_truth" "is_truth" "is_truth" st_is_truth ["book", "value"]) (c_pairs_of : ClP P w K mg base 1 "pairs_of" ["houses"] g_pairs_of) (c_gains_of : ClP P w K mg base 2 "gains_of" ["houses", "some"] g_gains_of) : ClP P w K mg base 3 "is_truth" ["book", "value"] (g_is_truth) :=
  cl_P e sc_is_truth (by decide) fun f cdv A outer s H E hr => by
  have tk : Takes (cxOf (L2.CX P w) P w K mg base ["book", "value", "count", "gain", "net"] "is_truth" (defScope st_is_truth) f cdv A outer s H E) (WD E) := takes_of rfl rfl rfl rfl
  have hp : PassesOwn (model P w) (cxOf (L2.CX P w) P w K mg base ["book", "value", "count", "gain", "net"] "is_truth" (defScope st_is_truth) f cdv A outer s H E).A (cxOf (L2.CX P w) P w K mg base ["book", "value", "count", "gain", "net"] "is_truth" (defScope st_is_truth) f cdv A outer s H E).env (cxOf (L2.CX P w) P w K mg base ["book", "value", "count", "gain", "net"] "is_truth" (defScope st_is_truth) f cdv A outer s H E).xe := passes_of rfl
  have nd := sc_is_truth.nd
  have hu := hr.units
  exact (dss_cons (ds_if (dw_dt (dw_or (dt_not (dt_val (bIsi .tuple bt_tuple (de_var 1) B.b_isinstance B.b_tuple))) (dw_or1 (tc hu (bLen (da_cons (de_var 1) da_nil) B.b_len) (bLen (da_cons (dcP c_pairs_of hr (by omega) tk (da_cons (di (de_var 0) de_int) da_nil)) da_nil) B.b_len))))) (dss_one (ds_ret de_bl)) dss_nil)
  (dss_cons (ds_if (dt_not (dt_val (bAll rfl (da_cons (DF.de (df_lc rfl nd (di_seq (de_var 1)) (own := [("net", 4)]) (blkOk_by (by kernel_rfl)) (by decide) (fun _ => (dg_name 4 nd)) (fun _ => dts_nil) (fun _ => (de_and (bIsi .int bt_int (de_var 4) B.b_isinstance B.b_int) (de_one (de_not (bIsi .bool bt_bool (de_var 4) B.b_isinstance B.b_bool))))))) da_nil) B.b_all))) (dss_one (ds_ret de_bl)) dss_nil)
  (dss_one (ds_ret (bAll rfl (da_cons (DF.de (df_lc rfl nd (di_zip (da_cons (di (de_var 0) de_int) (da_cons (dcP c_gains_of hr (by omega) tk (da_cons (di (de_var 0) de_int) (da_cons (de_var 1) da_nil))) da_nil)) (by rfl) B.b_zip) (own := [("count", 2), ("gain", 3)]) (blkOk_by (by kernel_rfl)) (by decide) (fun _ => (dg_tup rfl (dgs_cons 2 (dgs_cons 3 dgs_nil nd) nd))) (fun _ => dts_nil) (fun _ => (de_or (dc hu (de_var 2) de_non) (de_one (dc hu (de_var 2) (de_var 3))))))) da_nil) B.b_all)))))
abbrev st_least_error : Stmt := topS 36
theorem sc_least_error : FnScope ["book"] ["book"] (defScope st_least_error) := ⟨rfl, rfl, rfl, by decide +kernel, rfl, by decide +kernel, by decide +kernel⟩
theorem ok_least_error (B : Bu mg) (e : En K mg "least_error" "least_error" "least_error" st_least_error ["book"]) (c_need_book : ClP P w K mg base 4 "need_book" ["value"] g_need_book) (c_least_by : ClP P w K mg base 2 "least_by" ["lacks"] g_least_by) (c_lacks_of : ClP P w K mg base 3 "lacks_of" ["book"] g_lacks_of) : ClP P w K mg base 5 "least_error" ["book"] (g_least_error) :=
  cl_P e sc_least_error (by decide) fun f cdv A outer s H E hr => by
  have tk : Takes (cxOf (L2.CX P w) P w K mg base ["book"] "least_error" (defScope st_least_error) f cdv A outer s H E) (WD E) := takes_of rfl rfl rfl rfl
  have hp : PassesOwn (model P w) (cxOf (L2.CX P w) P w K mg base ["book"] "least_error" (defScope st_least_error) f cdv A outer s H E).A (cxOf (L2.CX P w) P w K mg base ["book"] "least_error" (defScope st_least_error) f cdv A outer s H E).env (cxOf (L2.CX P w) P w K mg base ["book"] "least_error" (defScope st_least_error) f cdv A outer s H E).xe := passes_of rfl
  have nd := sc_least_error.nd
  have hu := hr.units
  exact (dss_cons (ds_expr (dcP c_need_book hr (by omega) tk (da_cons (de_var 0) da_nil)))
  (dss_one (ds_ret (dcP c_least_by hr (by omega) tk (da_cons (dcP c_lacks_of hr (by omega) tk (da_cons (de_var 0) da_nil)) da_nil)))))
abbrev st_truth : Stmt := topS 37
theorem sc_truth : FnScope ["book", "lacks"] ["book"] (defScope st_truth) := ⟨rfl, rfl, rfl, by decide +kernel, rfl, by decide +kernel, by decide +kernel⟩
theorem ok_truth (B : Bu mg) (e : En K mg "truth" "truth" "truth" st_truth ["book"]) (c_need_book : ClP P w K mg base 4 "need_book" ["value"] g_need_book) (c_lacks_of : ClP P w K mg base 3 "lacks_of" ["book"] g_lacks_of) (c_least_by : ClP P w K mg base 2 "least_by" ["lacks"] g_least_by) (c_truth_by : ClP P w K mg base 3 "truth_by" ["book", "moves"] g_truth_by) (c_moves_by : ClP P w K mg base 4 "moves_by" ["lacks"] g_moves_by) : ClP P w K mg base 5 "truth" ["book"] (g_truth) :=
  cl_P e sc_truth (by decide) fun f cdv A outer s H E hr => by
  have tk : Takes (cxOf (L2.CX P w) P w K mg base ["book", "lacks"] "truth" (defScope st_truth) f cdv A outer s H E) (WD E) := takes_of rfl rfl rfl rfl
  have hp : PassesOwn (model P w) (cxOf (L2.CX P w) P w K mg base ["book", "lacks"] "truth" (defScope st_truth) f cdv A outer s H E).A (cxOf (L2.CX P w) P w K mg base ["book", "lacks"] "truth" (defScope st_truth) f cdv A outer s H E).env (cxOf (L2.CX P w) P w K mg base ["book", "lacks"] "truth" (defScope st_truth) f cdv A outer s H E).xe := passes_of rfl
  have nd := sc_truth.nd
  have hu := hr.units
  exact (dss_cons (ds_expr (dcP c_need_book hr (by omega) tk (da_cons (de_var 0) da_nil)))
  (dss_cons (ds_set 1 (dcP c_lacks_of hr (by omega) tk (da_cons (de_var 0) da_nil)) nd)
  (dss_one (ds_ret (de_if (tc hu (dcP c_least_by hr (by omega) tk (da_cons (de_var 1) da_nil)) de_non) de_non (dcP c_truth_by hr (by omega) tk (da_cons (de_var 0) (da_cons (dcP c_moves_by hr (by omega) tk (da_cons (de_var 1) da_nil)) da_nil))))))))
abbrev st_error_of : Stmt := topS 38
theorem sc_error_of : FnScope ["book", "value", "net", "written"] ["book", "value"] (defScope st_error_of) := ⟨rfl, rfl, rfl, by decide +kernel, rfl, by decide +kernel, by decide +kernel⟩
theorem ok_error_of (B : Bu mg) (e : En K mg "error_of" "error_of" "error_of" st_error_of ["book", "value"]) (c_need_book : ClP P w K mg base 4 "need_book" ["value"] g_need_book) (c_is_truth : ClP P w K mg base 3 "is_truth" ["book", "value"] g_is_truth) (c_nets_of : ClP P w K mg base 2 "nets_of" ["houses", "notes"] g_nets_of) : ClP P w K mg base 5 "error_of" ["book", "value"] (g_error_of) :=
  cl_P e sc_error_of (by decide) fun f cdv A outer s H E hr => by
  have tk : Takes (cxOf (L2.CX P w) P w K mg base ["book", "value", "net", "written"] "error_of" (defScope st_error_of) f cdv A outer s H E) (WD E) := takes_of rfl rfl rfl rfl
  have hp : PassesOwn (model P w) (cxOf (L2.CX P w) P w K mg base ["book", "value", "net", "written"] "error_of" (defScope st_error_of) f cdv A outer s H E).A (cxOf (L2.CX P w) P w K mg base ["book", "value", "net", "written"] "error_of" (defScope st_error_of) f cdv A outer s H E).env (cxOf (L2.CX P w) P w K mg base ["book", "value", "net", "written"] "error_of" (defScope st_error_of) f cdv A outer s H E).xe := passes_of rfl
  have nd := sc_error_of.nd
  have hu := hr.units
  exact (dss_cons (ds_expr (dcP c_need_book hr (by omega) tk (da_cons (de_var 0) da_nil)))
  (dss_cons (ds_if (dt_not (dt_val (dcP c_is_truth hr (by omega) tk (da_cons (de_var 0) (da_cons (de_var 1) da_nil))))) (dss_one ds_no) dss_nil)
  (dss_one (ds_ret (bSum rfl (da_cons (DF.de (df_lc rfl nd (di_zip (da_cons (de_var 1) (da_cons (dcP c_nets_of hr (by omega) tk (da_cons (di (de_var 0) de_int) (da_cons (di (de_var 0) de_int) da_nil))) da_nil)) (by rfl) B.b_zip) (own := [("net", 2), ("written", 3)]) (blkOk_by (by kernel_rfl)) (by decide) (fun _ => (dg_tup rfl (dgs_cons 2 (dgs_cons 3 dgs_nil nd) nd))) (fun _ => dts_nil) (fun _ => (bAbs (da_cons (de_sub (de_var 2) (de_var 3)) da_nil) B.b_abs)))) da_nil) B.b_sum)))))
abbrev st_are_prices : Stmt := topS 39
theorem sc_are_prices : FnScope ["book", "value", "count", "price"] ["book", "value"] (defScope st_are_prices) := ⟨rfl, rfl, rfl, by decide +kernel, rfl, by decide +kernel, by decide +kernel⟩
theorem ok_are_prices (B : Bu mg) (e : En K mg "are_prices" "are_prices" "are_prices" st_are_prices ["book", "value"])  : ClP P w K mg base 1 "are_prices" ["book", "value"] (g_are_prices) :=
  cl_P e sc_are_prices (by decide) fun f cdv A outer s H E hr => by
  have tk : Takes (cxOf (L2.CX P w) P w K mg base ["book", "value", "count", "price"] "are_prices" (defScope st_are_prices) f cdv A outer s H E) (WD E) := takes_of rfl rfl rfl rfl
  have hp : PassesOwn (model P w) (cxOf (L2.CX P w) P w K mg base ["book", "value", "count", "price"] "are_prices" (defScope st_are_prices) f cdv A outer s H E).A (cxOf (L2.CX P w) P w K mg base ["book", "value", "count", "price"] "are_prices" (defScope st_are_prices) f cdv A outer s H E).env (cxOf (L2.CX P w) P w K mg base ["book", "value", "count", "price"] "are_prices" (defScope st_are_prices) f cdv A outer s H E).xe := passes_of rfl
  have nd := sc_are_prices.nd
  have hu := hr.units
  exact (dss_cons (ds_if (dw_dt (dw_or (dt_not (dt_val (bIsi .tuple bt_tuple (de_var 1) B.b_isinstance B.b_tuple))) (dw_or1 (tc hu (bLen (da_cons (de_var 1) da_nil) B.b_len) (di (de_var 0) de_int))))) (dss_one (ds_ret de_bl)) dss_nil)
  (dss_cons (ds_if (dt_not (dt_val (bAll rfl (da_cons (DF.de (df_lc rfl nd (di_seq (de_var 1)) (own := [("price", 3)]) (blkOk_by (by kernel_rfl)) (by decide) (fun _ => (dg_name 3 nd)) (fun _ => dts_nil) (fun _ => (de_and (bIsi .int bt_int (de_var 3) B.b_isinstance B.b_int) (de_one (de_not (bIsi .bool bt_bool (de_var 3) B.b_isinstance B.b_bool))))))) da_nil) B.b_all))) (dss_one (ds_ret de_bl)) dss_nil)
  (dss_cons (ds_if (tc hu (de_sub (bMaxS rfl (da_cons (de_var 1) da_nil) B.b_max) (bMinS rfl (da_cons (de_var 1) da_nil) B.b_min)) de_int) (dss_one (ds_ret de_bl)) dss_nil)
  (dss_one (ds_ret (bAll rfl (da_cons (DF.de (df_lc rfl nd (di_zip (da_cons (di (de_var 0) de_int) (da_cons (de_var 1) da_nil)) (by rfl) B.b_zip) (own := [("count", 2), ("price", 3)]) (blkOk_by (by kernel_rfl)) (by decide) (fun _ => (dg_tup rfl (dgs_cons 2 (dgs_cons 3 dgs_nil nd) nd))) (fun _ => dts_nil) (fun _ => (de_or (dc hu (de_var 2) de_non) (de_one (dc hu (de_var 3) de_int)))))) da_nil) B.b_all))))))
abbrev st_shown : Stmt := topS 40
theorem sc_shown : FnScope ["book", "prices", "price", "lack"] ["book", "prices"] (defScope st_shown) := ⟨rfl, rfl, rfl, by decide +kernel, rfl, by decide +kernel, by decide +kernel⟩
theorem ok_shown (B : Bu mg) (e : En K mg "shown" "shown" "shown" st_shown ["book", "prices"]) (c_need_book : ClP P w K mg base 4 "need_book" ["value"] g_need_book) (c_are_prices : ClP P w K mg base 1 "are_prices" ["book", "value"] g_are_prices) (c_lacks_of : ClP P w K mg base 3 "lacks_of" ["book"] g_lacks_of) : ClP P w K mg base 5 "shown" ["book", "prices"] (g_shown) :=
  cl_P e sc_shown (by decide) fun f cdv A outer s H E hr => by
  have tk : Takes (cxOf (L2.CX P w) P w K mg base ["book", "prices", "price", "lack"] "shown" (defScope st_shown) f cdv A outer s H E) (WD E) := takes_of rfl rfl rfl rfl
  have hp : PassesOwn (model P w) (cxOf (L2.CX P w) P w K mg base ["book", "prices", "price", "lack"] "shown" (defScope st_shown) f cdv A outer s H E).A (cxOf (L2.CX P w) P w K mg base ["book", "prices", "price", "lack"] "shown" (defScope st_shown) f cdv A outer s H E).env (cxOf (L2.CX P w) P w K mg base ["book", "prices", "price", "lack"] "shown" (defScope st_shown) f cdv A outer s H E).xe := passes_of rfl
  have nd := sc_shown.nd
  have hu := hr.units
  exact (dss_cons (ds_expr (dcP c_need_book hr (by omega) tk (da_cons (de_var 0) da_nil)))
  (dss_cons (ds_if (dt_not (dt_val (dcP c_are_prices hr (by omega) tk (da_cons (de_var 0) (da_cons (de_var 1) da_nil))))) (dss_one ds_no) dss_nil)
  (dss_one (ds_ret (bSum rfl (da_cons (DF.de (df_lc rfl nd (di_zip (da_cons (de_var 1) (da_cons (dcP c_lacks_of hr (by omega) tk (da_cons (de_var 0) da_nil)) da_nil)) (by rfl) B.b_zip) (own := [("price", 2), ("lack", 3)]) (blkOk_by (by kernel_rfl)) (by decide) (fun _ => (dg_tup rfl (dgs_cons 2 (dgs_cons 3 dgs_nil nd) nd))) (fun _ => (dts_one (tc hu (de_var 3) de_non))) (fun _ => (de_mul (de_var 2) (de_var 3))))) da_nil) B.b_sum)))))
abbrev st_prices : Stmt := topS 41
theorem sc_prices : FnScope ["book", "lacks", "over", "under", "lack"] ["book"] (defScope st_prices) := ⟨rfl, rfl, rfl, by decide +kernel, rfl, by decide +kernel, by decide +kernel⟩
theorem ok_prices (B : Bu mg) (e : En K mg "prices" "prices" "prices" st_prices ["book"]) (c_need_book : ClP P w K mg base 4 "need_book" ["value"] g_need_book) (c_lacks_of : ClP P w K mg base 3 "lacks_of" ["book"] g_lacks_of) (c_least_by : ClP P w K mg base 2 "least_by" ["lacks"] g_least_by) (c_sums_of : ClP P w K mg base 1 "sums_of" ["lacks"] g_sums_of) : ClP P w K mg base 5 "prices" ["book"] (g_prices) :=
  cl_P e sc_prices (by decide) fun f cdv A outer s H E hr => by
  have tk : Takes (cxOf (L2.CX P w) P w K mg base ["book", "lacks", "over", "under", "lack"] "prices" (defScope st_prices) f cdv A outer s H E) (WD E) := takes_of rfl rfl rfl rfl
  have hp : PassesOwn (model P w) (cxOf (L2.CX P w) P w K mg base ["book", "lacks", "over", "under", "lack"] "prices" (defScope st_prices) f cdv A outer s H E).A (cxOf (L2.CX P w) P w K mg base ["book", "lacks", "over", "under", "lack"] "prices" (defScope st_prices) f cdv A outer s H E).env (cxOf (L2.CX P w) P w K mg base ["book", "lacks", "over", "under", "lack"] "prices" (defScope st_prices) f cdv A outer s H E).xe := passes_of rfl
  have nd := sc_prices.nd
  have hu := hr.units
  exact (dss_cons (ds_expr (dcP c_need_book hr (by omega) tk (da_cons (de_var 0) da_nil)))
  (dss_cons (ds_set 1 (dcP c_lacks_of hr (by omega) tk (da_cons (de_var 0) da_nil)) nd)
  (dss_cons (ds_if (tc hu (dcP c_least_by hr (by omega) tk (da_cons (de_var 1) da_nil)) de_non) (dss_one (ds_ret de_non)) dss_nil)
  (dss_cons (ds_unp (dcP c_sums_of hr (by omega) tk (da_cons (de_var 1) da_nil)) (dg_tup rfl (dgs_cons 2 (dgs_cons 3 dgs_nil nd) nd)))
  (dss_cons (ds_if (tc hu (de_var 3) (de_var 2)) (dss_one (ds_ret (bTup (da_cons (DF.de (df_lc rfl nd (di_seq (de_var 1)) (own := [("lack", 4)]) (blkOk_by (by kernel_rfl)) (by decide) (fun _ => (dg_name 4 nd)) (fun _ => dts_nil) (fun _ => (bInt (da_cons (de_and (dc hu (de_var 4) de_non) (de_one (dc hu (de_var 4) de_int))) da_nil) B.b_int)))) da_nil) B.b_tuple))) dss_nil)
  (dss_one (ds_ret (bTup (da_cons (DF.de (df_lc rfl nd (di_seq (de_var 1)) (own := [("lack", 4)]) (blkOk_by (by kernel_rfl)) (by decide) (fun _ => (dg_name 4 nd)) (fun _ => dts_nil) (fun _ => (de_neg (bInt (da_cons (de_and (dc hu (de_var 4) de_non) (de_one (dc hu (de_var 4) de_int))) da_nil) B.b_int))))) da_nil) B.b_tuple))))))))
abbrev st_detour_of : Stmt := topS 43
theorem sc_detour_of : FnScope ["lacks", "one", "other", "over", "under", "free", "mine", "yours", "own", "house", "lack"] ["lacks", "one", "other"] (defScope st_detour_of) := ⟨rfl, rfl, rfl, by decide +kernel, rfl, by decide +kernel, by decide +kernel⟩
theorem ok_detour_of (B : Bu mg) (e : En K mg "detour_of" "detour_of" "detour_of" st_detour_of ["lacks", "one", "other"]) (c_sums_of : ClP P w K mg base 1 "sums_of" ["lacks"] g_sums_of) : ClP P w K mg base 2 "detour_of" ["lacks", "one", "other"] (g_detour_of) :=
  cl_P e sc_detour_of (by decide) fun f cdv A outer s H E hr => by
  have tk : Takes (cxOf (L2.CX P w) P w K mg base ["lacks", "one", "other", "over", "under", "free", "mine", "yours", "own", "house", "lack"] "detour_of" (defScope st_detour_of) f cdv A outer s H E) (WD E) := takes_of rfl rfl rfl rfl
  have hp : PassesOwn (model P w) (cxOf (L2.CX P w) P w K mg base ["lacks", "one", "other", "over", "under", "free", "mine", "yours", "own", "house", "lack"] "detour_of" (defScope st_detour_of) f cdv A outer s H E).A (cxOf (L2.CX P w) P w K mg base ["lacks", "one", "other", "over", "under", "free", "mine", "yours", "own", "house", "lack"] "detour_of" (defScope st_detour_of) f cdv A outer s H E).env (cxOf (L2.CX P w) P w K mg base ["lacks", "one", "other", "over", "under", "free", "mine", "yours", "own", "house", "lack"] "detour_of" (defScope st_detour_of) f cdv A outer s H E).xe := passes_of rfl
  have nd := sc_detour_of.nd
  have hu := hr.units
  exact (dss_cons (ds_unp (dcP c_sums_of hr (by omega) tk (da_cons (de_var 0) da_nil)) (dg_tup rfl (dgs_cons 3 (dgs_cons 4 dgs_nil nd) nd)))
  (dss_cons (ds_setLc 5 rfl nd rfl (di_enum (da_cons (de_var 0) da_nil) (by rfl) B.b_enumerate) (own := [("house", 9), ("lack", 10)]) (blkOk_by (by kernel_rfl)) (by decide) (fun _ => (dg_tup rfl (dgs_cons 9 (dgs_cons 10 dgs_nil nd) nd))) (fun _ => (dts_one (dw_dt (dw_and (tc hu (de_var 10) de_non) (dw_and1 (tc hu (de_var 9) (de_tup (da_cons (de_var 1) (da_cons (de_var 2) da_nil))))))))) (fun _ => (de_var 9)) (sw_true rfl rfl rfl rfl))
  (dss_cons (ds_par 6 7 rfl nd (da_cons (di (de_var 0) (de_var 1)) (da_cons (di (de_var 0) (de_var 2)) da_nil)))
  (dss_cons (ds_if (dw_dt (dw_and (tc hu (de_var 6) de_non) (dw_and1 (tc hu (de_var 7) de_non)))) (dss_cons (ds_if (tc hu (de_mul (de_var 6) (de_var 7)) de_int) (dss_one (ds_ret de_int)) dss_nil)
  (dss_one (ds_ret (de_sub (bMin2 rfl (da_cons (de_var 3) (da_cons (de_var 4) da_nil)) B.b_min) (bMin3 rfl (da_cons (de_var 3) (da_cons (de_var 4) (da_cons (de_sub (de_sub (de_add (de_var 3) (de_var 4)) (bAbs (da_cons (de_var 6) da_nil) B.b_abs)) (bAbs (da_cons (de_var 7) da_nil) B.b_abs)) da_nil))) B.b_min))))) dss_nil)
  (dss_cons (ds_if (dw_dt (dw_or (tc hu (de_var 5) (de_lst da_nil)) (dw_or1 (dw_dt (dw_and (tc hu (de_var 6) de_non) (dw_and1 (tc hu (de_var 7) de_non))))))) (dss_one (ds_ret de_int)) dss_nil)
  (dss_cons (ds_set 8 (de_if (tc hu (de_var 6) de_non) (de_var 7) (de_var 6)) nd)
  (dss_one (ds_ret (bMax2 rfl (da_cons de_int (da_cons (de_sub (bAbs (da_cons (de_var 8) da_nil) B.b_abs) (de_if (tc hu (de_var 8) de_int) (de_var 4) (de_var 3))) da_nil)) B.b_max)))))))))
abbrev st_least_shut : Stmt := topS 44
theorem sc_least_shut : FnScope ["lacks", "one", "other", "least", "more"] ["lacks", "one", "other"] (defScope st_least_shut) := ⟨rfl, rfl, rfl, by decide +kernel, rfl, by decide +kernel, by decide +kernel⟩
theorem ok_least_shut (B : Bu mg) (e : En K mg "least_shut" "least_shut" "least_shut" st_least_shut ["lacks", "one", "other"]) (c_least_by : ClP P w K mg base 2 "least_by" ["lacks"] g_least_by) (c_detour_of : ClP P w K mg base 2 "detour_of" ["lacks", "one", "other"] g_detour_of) : ClP P w K mg base 3 "least_shut" ["lacks", "one", "other"] (g_least_shut) :=
  cl_P e sc_least_shut (by decide) fun f cdv A outer s H E hr => by
  have tk : Takes (cxOf (L2.CX P w) P w K mg base ["lacks", "one", "other", "least", "more"] "least_shut" (defScope st_least_shut) f cdv A outer s H E) (WD E) := takes_of rfl rfl rfl rfl
  have hp : PassesOwn (model P w) (cxOf (L2.CX P w) P w K mg base ["lacks", "one", "other", "least", "more"] "least_shut" (defScope st_least_shut) f cdv A outer s H E).A (cxOf (L2.CX P w) P w K mg base ["lacks", "one", "other", "least", "more"] "least_shut" (defScope st_least_shut) f cdv A outer s H E).env (cxOf (L2.CX P w) P w K mg base ["lacks", "one", "other", "least", "more"] "least_shut" (defScope st_least_shut) f cdv A outer s H E).xe := passes_of rfl
  have nd := sc_least_shut.nd
  have hu := hr.units
  exact (dss_cons (ds_set 3 (dcP c_least_by hr (by omega) tk (da_cons (de_var 0) da_nil)) nd)
  (dss_cons (ds_if (tc hu (de_var 3) de_non) (dss_one (ds_ret de_non)) dss_nil)
  (dss_cons (ds_set 4 (dcP c_detour_of hr (by omega) tk (da_cons (de_var 0) (da_cons (de_var 1) (da_cons (de_var 2) da_nil)))) nd)
  (dss_one (ds_ret (de_if (dw_dt (dw_and (tc hu (de_var 4) de_int) (dw_and1 (tc hu (bLen (da_cons (de_var 0) da_nil) B.b_len) de_int)))) de_non (de_add (de_var 3) (de_var 4))))))))
abbrev st_error_with : Stmt := topS 45
theorem sc_error_with : FnScope ["lacks", "one", "other", "more", "found", "least"] ["lacks", "one", "other", "more"] (defScope st_error_with) := ⟨rfl, rfl, rfl, by decide +kernel, rfl, by decide +kernel, by decide +kernel⟩
theorem ok_error_with (B : Bu mg) (e : En K mg "error_with" "error_with" "error_with" st_error_with ["lacks", "one", "other", "more"]) (c_least_shut : ClP P w K mg base 3 "least_shut" ["lacks", "one", "other"] g_least_shut) : ClP P w K mg base 4 "error_with" ["lacks", "one", "other", "more"] (g_error_with) :=
  cl_P e sc_error_with (by decide) fun f cdv A outer s H E hr => by
  have tk : Takes (cxOf (L2.CX P w) P w K mg base ["lacks", "one", "other", "more", "found", "least"] "error_with" (defScope st_error_with) f cdv A outer s H E) (WD E) := takes_of rfl rfl rfl rfl
  have hp : PassesOwn (model P w) (cxOf (L2.CX P w) P w K mg base ["lacks", "one", "other", "more", "found", "least"] "error_with" (defScope st_error_with) f cdv A outer s H E).A (cxOf (L2.CX P w) P w K mg base ["lacks", "one", "other", "more", "found", "least"] "error_with" (defScope st_error_with) f cdv A outer s H E).env (cxOf (L2.CX P w) P w K mg base ["lacks", "one", "other", "more", "found", "least"] "error_with" (defScope st_error_with) f cdv A outer s H E).xe := passes_of rfl
  have nd := sc_error_with.nd
  have hu := hr.units
  exact (dss_cons (DF.own 4 (df_list1 (by rfl) B.b_list (da_cons (de_var 0) da_nil)) nd)
  (dss_cons (ds_store 4 (de_if (tc hu (dix 4 (de_var 1)) de_non) de_non (de_add (dix 4 (de_var 1)) (de_var 3))) (de_var 1))
  (dss_cons (ds_store 4 (de_if (tc hu (dix 4 (de_var 2)) de_non) de_non (de_sub (dix 4 (de_var 2)) (de_var 3))) (de_var 2))
  (dss_cons (ds_set 5 (dcP c_least_shut hr (by omega) tk (da_cons (de_var 4) (da_cons (de_var 1) (da_cons (de_var 2) da_nil)))) nd)
  (dss_one (ds_ret (de_if (tc hu (de_var 5) de_non) de_non (de_add (de_var 5) (bAbs (da_cons (de_var 3) da_nil) B.b_abs)))))))))
abbrev st_is_let_owing : Stmt := topS 46
theorem sc_is_let_owing : FnScope ["lacks", "one", "other", "more", "slack", "least"] ["lacks", "one", "other", "more", "slack"] (defScope st_is_let_owing) := ⟨rfl, rfl, rfl, by decide +kernel, rfl, by decide +kernel, by decide +kernel⟩
theorem ok_is_let_owing (B : Bu mg) (e : En K mg "is_let_owing" "is_let" "is_let" st_is_let_owing ["lacks", "one", "other", "more", "slack"]) (c_error_with : ClP P w K mg base 4 "error_with" ["lacks", "one", "other", "more"] g_error_with) : ClP P w K mg base 5 "is_let_owing" ["lacks", "one", "other", "more", "slack"] (g_is_let_owing) :=
  cl_P e sc_is_let_owing (by decide) fun f cdv A outer s H E hr => by
  have tk : Takes (cxOf (L2.CX P w) P w K mg base ["lacks", "one", "other", "more", "slack", "least"] "is_let" (defScope st_is_let_owing) f cdv A outer s H E) (WD E) := takes_of rfl rfl rfl rfl
  have hp : PassesOwn (model P w) (cxOf (L2.CX P w) P w K mg base ["lacks", "one", "other", "more", "slack", "least"] "is_let" (defScope st_is_let_owing) f cdv A outer s H E).A (cxOf (L2.CX P w) P w K mg base ["lacks", "one", "other", "more", "slack", "least"] "is_let" (defScope st_is_let_owing) f cdv A outer s H E).env (cxOf (L2.CX P w) P w K mg base ["lacks", "one", "other", "more", "slack", "least"] "is_let" (defScope st_is_let_owing) f cdv A outer s H E).xe := passes_of rfl
  have nd := sc_is_let_owing.nd
  have hu := hr.units
  exact (dss_cons (ds_set 5 (dcP c_error_with hr (by omega) tk (da_cons (de_var 0) (da_cons (de_var 1) (da_cons (de_var 2) (da_cons (de_var 3) da_nil))))) nd)
  (dss_one (ds_ret (de_and (dc hu (de_var 5) de_non) (de_one (dc hu (de_var 5) (de_var 4)))))))
abbrev st_most_more : Stmt := topS 48
theorem sc_most_more : FnScope ["lacks", "one", "other", "begin", "slack", "low", "high", "middle"] ["lacks", "one", "other", "begin", "slack"] (defScope st_most_more) := ⟨rfl, rfl, rfl, by decide +kernel, rfl, by decide +kernel, by decide +kernel⟩
theorem ok_most_more (B : Bu mg) (e : En K mg "most_more" "most_more" "most_more" st_most_more ["lacks", "one", "other", "begin", "slack"]) (c_is_let_owing : ClP P w K mg base 5 "is_let_owing" ["lacks", "one", "other", "more", "slack"] g_is_let_owing) : ClP P w K mg base 6 "most_more" ["lacks", "one", "other", "begin", "slack"] (g_most_more) :=
  cl_P e sc_most_more (by decide) fun f cdv A outer s H E hr => by
  have tk : Takes (cxOf (L2.CX P w) P w K mg base ["lacks", "one", "other", "begin", "slack", "low", "high", "middle"] "most_more" (defScope st_most_more) f cdv A outer s H E) (WD E) := takes_of rfl rfl rfl rfl
  have hp : PassesOwn (model P w) (cxOf (L2.CX P w) P w K mg base ["lacks", "one", "other", "begin", "slack", "low", "high", "middle"] "most_more" (defScope st_most_more) f cdv A outer s H E).A (cxOf (L2.CX P w) P w K mg base ["lacks", "one", "other", "begin", "slack", "low", "high", "middle"] "most_more" (defScope st_most_more) f cdv A outer s H E).env (cxOf (L2.CX P w) P w K mg base ["lacks", "one", "other", "begin", "slack", "low", "high", "middle"] "most_more" (defScope st_most_more) f cdv A outer s H E).xe := passes_of rfl
  have nd := sc_most_more.nd
  have hu := hr.units
  exact (dss_cons (ds_par 5 6 rfl nd (da_cons (de_var 3) (da_cons (de_add (de_var 4) de_int) da_nil)))
  (dss_cons (ds_while 200 hp (tc hu (de_add (de_var 5) de_int) (de_var 6)) (dss_cons (ds_set 7 (de_div (de_add (de_var 5) (de_var 6)) de_int) nd)
  (dss_one (ds_if (dt_val (dcP c_is_let_owing hr (by omega) tk (da_cons (de_var 0) (da_cons (de_var 1) (da_cons (de_var 2) (da_cons (de_var 7) (da_cons (de_var 4) da_nil))))))) (dss_one (ds_set 5 (de_var 7) nd)) (dss_one (ds_set 6 (de_var 7) nd))))))
  (dss_one (ds_ret (de_var 5)))))
abbrev st_need_truth : Stmt := topS 49
theorem sc_need_truth : FnScope ["lacks", "slack", "least"] ["lacks", "slack"] (defScope st_need_truth) := ⟨rfl, rfl, rfl, by decide +kernel, rfl, by decide +kernel, by decide +kernel⟩
theorem ok_need_truth (B : Bu mg) (e : En K mg "need_truth" "need_truth" "need_truth" st_need_truth ["lacks", "slack"]) (c_least_by : ClP P w K mg base 2 "least_by" ["lacks"] g_least_by) : ClP P w K mg base 3 "need_truth" ["lacks", "slack"] (g_need_truth) :=
  cl_P e sc_need_truth (by decide) fun f cdv A outer s H E hr => by
  have tk : Takes (cxOf (L2.CX P w) P w K mg base ["lacks", "slack", "least"] "need_truth" (defScope st_need_truth) f cdv A outer s H E) (WD E) := takes_of rfl rfl rfl rfl
  have hp : PassesOwn (model P w) (cxOf (L2.CX P w) P w K mg base ["lacks", "slack", "least"] "need_truth" (defScope st_need_truth) f cdv A outer s H E).A (cxOf (L2.CX P w) P w K mg base ["lacks", "slack", "least"] "need_truth" (defScope st_need_truth) f cdv A outer s H E).env (cxOf (L2.CX P w) P w K mg base ["lacks", "slack", "least"] "need_truth" (defScope st_need_truth) f cdv A outer s H E).xe := passes_of rfl
  have nd := sc_need_truth.nd
  have hu := hr.units
  exact (dss_cons (ds_set 2 (dcP c_least_by hr (by omega) tk (da_cons (de_var 0) da_nil)) nd)
  (dss_one (ds_if (dw_dt (dw_or (tc hu (de_var 2) de_non) (dw_or1 (tc hu (de_var 2) (de_var 1))))) (dss_one ds_no) dss_nil)))
abbrev st_nets_by : Stmt := topS 50
theorem sc_nets_by : FnScope ["book", "slack", "one", "other", "lacks", "at", "written", "begin", "most"] ["book", "slack", "one", "other"] (defScope st_nets_by) := ⟨rfl, rfl, rfl, by decide +kernel, rfl, by decide +kernel, by decide +kernel⟩
theorem ok_nets_by (B : Bu mg) (e : En K mg "nets_by" "nets_by" "nets_by" st_nets_by ["book", "slack", "one", "other"]) (c_lacks_of : ClP P w K mg base 3 "lacks_of" ["book"] g_lacks_of) (c_need_truth : ClP P w K mg base 3 "need_truth" ["lacks", "slack"] g_need_truth) (c_pairs_of : ClP P w K mg base 1 "pairs_of" ["houses"] g_pairs_of) (c_nets_of : ClP P w K mg base 2 "nets_of" ["houses", "notes"] g_nets_of) (c_moves_by : ClP P w K mg base 4 "moves_by" ["lacks"] g_moves_by) (c_most_more : ClP P w K mg base 6 "most_more" ["lacks", "one", "other", "begin", "slack"] g_most_more) : ClP P w K mg base 7 "nets_by" ["book", "slack", "one", "other"] (g_nets_by) :=
  cl_P e sc_nets_by (by decide) fun f cdv A outer s H E hr => by
  have tk : Takes (cxOf (L2.CX P w) P w K mg base ["book", "slack", "one", "other", "lacks", "at", "written", "begin", "most"] "nets_by" (defScope st_nets_by) f cdv A outer s H E) (WD E) := takes_of rfl rfl rfl rfl
  have hp : PassesOwn (model P w) (cxOf (L2.CX P w) P w K mg base ["book", "slack", "one", "other", "lacks", "at", "written", "begin", "most"] "nets_by" (defScope st_nets_by) f cdv A outer s H E).A (cxOf (L2.CX P w) P w K mg base ["book", "slack", "one", "other", "lacks", "at", "written", "begin", "most"] "nets_by" (defScope st_nets_by) f cdv A outer s H E).env (cxOf (L2.CX P w) P w K mg base ["book", "slack", "one", "other", "lacks", "at", "written", "begin", "most"] "nets_by" (defScope st_nets_by) f cdv A outer s H E).xe := passes_of rfl
  have nd := sc_nets_by.nd
  have hu := hr.units
  exact (dss_cons (ds_set 4 (dcP c_lacks_of hr (by omega) tk (da_cons (de_var 0) da_nil)) nd)
  (dss_cons (ds_expr (dcP c_need_truth hr (by omega) tk (da_cons (de_var 4) (da_cons (de_var 1) da_nil))))
  (dss_cons (ds_set 5 (de_index (units1 hr) (dcP c_pairs_of hr (by omega) tk (da_cons (di (de_var 0) de_int) da_nil)) (da_cons (de_tup (da_cons (de_var 2) (da_cons (de_var 3) da_nil))) da_nil)) nd)
  (dss_cons (ds_par 6 7 rfl nd (da_cons (di (dcP c_nets_of hr (by omega) tk (da_cons (di (de_var 0) de_int) (da_cons (di (de_var 0) de_int) da_nil))) (de_var 5)) (da_cons (di (dcP c_nets_of hr (by omega) tk (da_cons (di (de_var 0) de_int) (da_cons (dcP c_moves_by hr (by omega) tk (da_cons (de_var 4) da_nil)) da_nil))) (de_var 5)) da_nil)))
  (dss_cons (ds_set 8 (dcP c_most_more hr (by omega) tk (da_cons (de_var 4) (da_cons (de_var 2) (da_cons (de_var 3) (da_cons (de_var 7) (da_cons (de_var 1) da_nil)))))) nd)
  (dss_one (ds_ret (de_tup (da_cons (de_sub (de_var 6) (dcP c_most_more hr (by omega) tk (da_cons (de_var 4) (da_cons (de_var 3) (da_cons (de_var 2) (da_cons (de_neg (de_var 7)) (da_cons (de_var 1) da_nil))))))) (da_cons (de_add (de_var 6) (de_var 8)) da_nil))))))))))
abbrev st_owes_by : Stmt := topS 51
theorem sc_owes_by : FnScope ["book", "slack", "house", "other", "least", "most"] ["book", "slack", "house", "other"] (defScope st_owes_by) := ⟨rfl, rfl, rfl, by decide +kernel, rfl, by decide +kernel, by decide +kernel⟩
theorem ok_owes_by (B : Bu mg) (e : En K mg "owes_by" "owes_by" "owes_by" st_owes_by ["book", "slack", "house", "other"]) (c_nets_by : ClP P w K mg base 7 "nets_by" ["book", "slack", "one", "other"] g_nets_by) : ClP P w K mg base 8 "owes_by" ["book", "slack", "house", "other"] (g_owes_by) :=
  cl_P e sc_owes_by (by decide) fun f cdv A outer s H E hr => by
  have tk : Takes (cxOf (L2.CX P w) P w K mg base ["book", "slack", "house", "other", "least", "most"] "owes_by" (defScope st_owes_by) f cdv A outer s H E) (WD E) := takes_of rfl rfl rfl rfl
  have hp : PassesOwn (model P w) (cxOf (L2.CX P w) P w K mg base ["book", "slack", "house", "other", "least", "most"] "owes_by" (defScope st_owes_by) f cdv A outer s H E).A (cxOf (L2.CX P w) P w K mg base ["book", "slack", "house", "other", "least", "most"] "owes_by" (defScope st_owes_by) f cdv A outer s H E).env (cxOf (L2.CX P w) P w K mg base ["book", "slack", "house", "other", "least", "most"] "owes_by" (defScope st_owes_by) f cdv A outer s H E).xe := passes_of rfl
  have nd := sc_owes_by.nd
  have hu := hr.units
  exact (dss_cons (ds_unp (dcP c_nets_by hr (by omega) tk (da_cons (de_var 0) (da_cons (de_var 1) (da_cons (bMin2 rfl (da_cons (de_var 2) (da_cons (de_var 3) da_nil)) B.b_min) (da_cons (bMax2 rfl (da_cons (de_var 2) (da_cons (de_var 3) da_nil)) B.b_max) da_nil))))) (dg_tup rfl (dgs_cons 4 (dgs_cons 5 dgs_nil nd) nd)))
  (dss_one (ds_ret (de_if (tc hu (de_var 3) (de_var 2)) (de_tup (da_cons (de_var 4) (da_cons (de_var 5) da_nil))) (de_tup (da_cons (de_neg (de_var 5)) (da_cons (de_neg (de_var 4)) da_nil)))))))
abbrev st_owes : Stmt := topS 52
theorem sc_owes : FnScope ["book", "slack", "house", "other"] ["book", "slack", "house", "other"] (defScope st_owes) := ⟨rfl, rfl, rfl, by decide +kernel, rfl, by decide +kernel, by decide +kernel⟩
theorem ok_owes (B : Bu mg) (e : En K mg "owes" "owes" "owes" st_owes ["book", "slack", "house", "other"]) (c_need_book : ClP P w K mg base 4 "need_book" ["value"] g_need_book) (c_need_slack : ClP P w K mg base 2 "need_slack" ["value"] g_need_slack) (c_need_houses : ClP P w K mg base 2 "need_houses" ["houses", "house", "other"] g_need_houses) (c_owes_by : ClP P w K mg base 8 "owes_by" ["book", "slack", "house", "other"] g_owes_by) : ClP P w K mg base 9 "owes" ["book", "slack", "house", "other"] (g_owes) :=
  cl_P e sc_owes (by decide) fun f cdv A outer s H E hr => by
  have tk : Takes (cxOf (L2.CX P w) P w K mg base ["book", "slack", "house", "other"] "owes" (defScope st_owes) f cdv A outer s H E) (WD E) := takes_of rfl rfl rfl rfl
  have hp : PassesOwn (model P w) (cxOf (L2.CX P w) P w K mg base ["book", "slack", "house", "other"] "owes" (defScope st_owes) f cdv A outer s H E).A (cxOf (L2.CX P w) P w K mg base ["book", "slack", "house", "other"] "owes" (defScope st_owes) f cdv A outer s H E).env (cxOf (L2.CX P w) P w K mg base ["book", "slack", "house", "other"] "owes" (defScope st_owes) f cdv A outer s H E).xe := passes_of rfl
  have nd := sc_owes.nd
  have hu := hr.units
  exact (dss_cons (ds_expr (dcP c_need_book hr (by omega) tk (da_cons (de_var 0) da_nil)))
  (dss_cons (ds_expr (dcP c_need_slack hr (by omega) tk (da_cons (de_var 1) da_nil)))
  (dss_cons (ds_expr (dcP c_need_houses hr (by omega) tk (da_cons (di (de_var 0) de_int) (da_cons (de_var 2) (da_cons (de_var 3) da_nil)))))
  (dss_one (ds_ret (dcP c_owes_by hr (by omega) tk (da_cons (de_var 0) (da_cons (de_var 1) (da_cons (de_var 2) (da_cons (de_var 3) da_nil))))))))))
abbrev st_who_owes : Stmt := topS 53
theorem sc_who_owes : FnScope ["book", "slack", "house", "other", "least", "most"] ["book", "slack", "house", "other"] (defScope st_who_owes) := ⟨rfl, rfl, rfl, by decide +kernel, rfl, by decide +kernel, by decide +kernel⟩
theorem ok_who_owes (B : Bu mg) (e : En K mg "who_owes" "who_owes" "who_owes" st_who_owes ["book", "slack", "house", "other"]) (c_need_book : ClP P w K mg base 4 "need_book" ["value"] g_need_book) (c_need_slack : ClP P w K mg base 2 "need_slack" ["value"] g_need_slack) (c_need_houses : ClP P w K mg base 2 "need_houses" ["houses", "house", "other"] g_need_houses) (c_owes_by : ClP P w K mg base 8 "owes_by" ["book", "slack", "house", "other"] g_owes_by) : ClP P w K mg base 9 "who_owes" ["book", "slack", "house", "other"] (g_who_owes) :=
  cl_P e sc_who_owes (by decide) fun f cdv A outer s H E hr => by
  have tk : Takes (cxOf (L2.CX P w) P w K mg base ["book", "slack", "house", "other", "least", "most"] "who_owes" (defScope st_who_owes) f cdv A outer s H E) (WD E) := takes_of rfl rfl rfl rfl
  have hp : PassesOwn (model P w) (cxOf (L2.CX P w) P w K mg base ["book", "slack", "house", "other", "least", "most"] "who_owes" (defScope st_who_owes) f cdv A outer s H E).A (cxOf (L2.CX P w) P w K mg base ["book", "slack", "house", "other", "least", "most"] "who_owes" (defScope st_who_owes) f cdv A outer s H E).env (cxOf (L2.CX P w) P w K mg base ["book", "slack", "house", "other", "least", "most"] "who_owes" (defScope st_who_owes) f cdv A outer s H E).xe := passes_of rfl
  have nd := sc_who_owes.nd
  have hu := hr.units
  exact (dss_cons (ds_expr (dcP c_need_book hr (by omega) tk (da_cons (de_var 0) da_nil)))
  (dss_cons (ds_expr (dcP c_need_slack hr (by omega) tk (da_cons (de_var 1) da_nil)))
  (dss_cons (ds_expr (dcP c_need_houses hr (by omega) tk (da_cons (di (de_var 0) de_int) (da_cons (de_var 2) (da_cons (de_var 3) da_nil)))))
  (dss_cons (ds_unp (dcP c_owes_by hr (by omega) tk (da_cons (de_var 0) (da_cons (de_var 1) (da_cons (de_var 2) (da_cons (de_var 3) da_nil))))) (dg_tup rfl (dgs_cons 4 (dgs_cons 5 dgs_nil nd) nd)))
  (dss_one (ds_ret (de_if (tc hu (de_var 4) de_int) de_str (de_if (tc hu (de_var 5) de_int) de_str de_str))))))))
abbrev st_is_wrong : Stmt := topS 54
theorem sc_is_wrong : FnScope ["book", "slack", "house", "other", "least", "most", "written"] ["book", "slack", "house", "other"] (defScope st_is_wrong) := ⟨rfl, rfl, rfl, by decide +kernel, rfl, by decide +kernel, by decide +kernel⟩
theorem ok_is_wrong (B : Bu mg) (e : En K mg "is_wrong" "is_wrong" "is_wrong" st_is_wrong ["book", "slack", "house", "other"]) (c_need_book : ClP P w K mg base 4 "need_book" ["value"] g_need_book) (c_need_slack : ClP P w K mg base 2 "need_slack" ["value"] g_need_slack) (c_need_houses : ClP P w K mg base 2 "need_houses" ["houses", "house", "other"] g_need_houses) (c_owes_by : ClP P w K mg base 8 "owes_by" ["book", "slack", "house", "other"] g_owes_by) : ClP P w K mg base 9 "is_wrong" ["book", "slack", "house", "other"] (g_is_wrong) :=
  cl_P e sc_is_wrong (by decide) fun f cdv A outer s H E hr => by
  have tk : Takes (cxOf (L2.CX P w) P w K mg base ["book", "slack", "house", "other", "least", "most", "written"] "is_wrong" (defScope st_is_wrong) f cdv A outer s H E) (WD E) := takes_of rfl rfl rfl rfl
  have hp : PassesOwn (model P w) (cxOf (L2.CX P w) P w K mg base ["book", "slack", "house", "other", "least", "most", "written"] "is_wrong" (defScope st_is_wrong) f cdv A outer s H E).A (cxOf (L2.CX P w) P w K mg base ["book", "slack", "house", "other", "least", "most", "written"] "is_wrong" (defScope st_is_wrong) f cdv A outer s H E).env (cxOf (L2.CX P w) P w K mg base ["book", "slack", "house", "other", "least", "most", "written"] "is_wrong" (defScope st_is_wrong) f cdv A outer s H E).xe := passes_of rfl
  have nd := sc_is_wrong.nd
  have hu := hr.units
  exact (dss_cons (ds_expr (dcP c_need_book hr (by omega) tk (da_cons (de_var 0) da_nil)))
  (dss_cons (ds_expr (dcP c_need_slack hr (by omega) tk (da_cons (de_var 1) da_nil)))
  (dss_cons (ds_expr (dcP c_need_houses hr (by omega) tk (da_cons (di (de_var 0) de_int) (da_cons (de_var 2) (da_cons (de_var 3) da_nil)))))
  (dss_cons (ds_unp (dcP c_owes_by hr (by omega) tk (da_cons (de_var 0) (da_cons (de_var 1) (da_cons (de_var 2) (da_cons (de_var 3) da_nil))))) (dg_tup rfl (dgs_cons 4 (dgs_cons 5 dgs_nil nd) nd)))
  (dss_cons (ds_set 6 (di (dcP c_owes_by hr (by omega) tk (da_cons (de_tup (da_cons (di (de_var 0) de_int) (da_cons (di (de_var 0) de_int) (da_cons (de_mulT (de_tup (da_cons de_non da_nil)) (di (de_var 0) de_int)) da_nil)))) (da_cons de_int (da_cons (de_var 2) (da_cons (de_var 3) da_nil))))) de_int) nd)
  (dss_cons (ds_if (dt_not (tch hu (de_var 4) (de_var 6) (de_var 5))) (dss_one (ds_ret de_str)) dss_nil)
  (dss_one (ds_ret (de_if (tc hu (de_var 4) (de_var 5)) de_str de_str)))))))))
abbrev st_is_even : Stmt := topS 56
theorem sc_is_even : FnScope ["values", "some", "own", "house"] ["values", "some"] (defScope st_is_even) := ⟨rfl, rfl, rfl, by decide +kernel, rfl, by decide +kernel, by decide +kernel⟩
theorem ok_is_even (B : Bu mg) (e : En K mg "is_even" "is_even" "is_even" st_is_even ["values", "some"])  : ClP P w K mg base 1 "is_even" ["values", "some"] (g_is_even) :=
  cl_P e sc_is_even (by decide) fun f cdv A outer s H E hr => by
  have tk : Takes (cxOf (L2.CX P w) P w K mg base ["values", "some", "own", "house"] "is_even" (defScope st_is_even) f cdv A outer s H E) (WD E) := takes_of rfl rfl rfl rfl
  have hp : PassesOwn (model P w) (cxOf (L2.CX P w) P w K mg base ["values", "some", "own", "house"] "is_even" (defScope st_is_even) f cdv A outer s H E).A (cxOf (L2.CX P w) P w K mg base ["values", "some", "own", "house"] "is_even" (defScope st_is_even) f cdv A outer s H E).env (cxOf (L2.CX P w) P w K mg base ["values", "some", "own", "house"] "is_even" (defScope st_is_even) f cdv A outer s H E).xe := passes_of rfl
  have nd := sc_is_even.nd
  have hu := hr.units
  exact (dss_cons (ds_setLc 2 rfl nd rfl (di_seq (de_var 1)) (own := [("house", 3)]) (blkOk_by (by kernel_rfl)) (by decide) (fun _ => (dg_name 3 nd)) (fun _ => dts_nil) (fun _ => (di (de_var 0) (de_var 3))) (sw_true rfl rfl rfl rfl))
  (dss_one (ds_ret (de_or (dc hu de_non (de_var 2)) (de_one (dc hu (bSum rfl (da_cons (de_var 2) da_nil) B.b_sum) de_int))))))
abbrev st_lots_of : Stmt := topS 57
theorem sc_lots_of : FnScope ["some", "found", "item", "head"] ["some"] (defScope st_lots_of) := ⟨rfl, rfl, rfl, by decide +kernel, rfl, by decide +kernel, by decide +kernel⟩
theorem ok_lots_of (B : Bu mg) (e : En K mg "lots_of" "lots_of" "lots_of" st_lots_of ["some"])  : ClP P w K mg base 1 "lots_of" ["some"] (g_lots_of) :=
  cl_P e sc_lots_of (by decide) fun f cdv A outer s H E hr => by
  have tk : Takes (cxOf (L2.CX P w) P w K mg base ["some", "found", "item", "head"] "lots_of" (defScope st_lots_of) f cdv A outer s H E) (WD E) := takes_of rfl rfl rfl rfl
  have hp : PassesOwn (model P w) (cxOf (L2.CX P w) P w K mg base ["some", "found", "item", "head"] "lots_of" (defScope st_lots_of) f cdv A outer s H E).A (cxOf (L2.CX P w) P w K mg base ["some", "found", "item", "head"] "lots_of" (defScope st_lots_of) f cdv A outer s H E).env (cxOf (L2.CX P w) P w K mg base ["some", "found", "item", "head"] "lots_of" (defScope st_lots_of) f cdv A outer s H E).xe := passes_of rfl
  have nd := sc_lots_of.nd
  have hu := hr.units
  exact (dss_cons (ds_set 1 (de_lst (da_cons (de_lst da_nil) da_nil)) nd)
  (dss_cons (ds_for hp rfl (di_seq (de_var 0)) (dg_name 2 nd) (dss_one (ds_set 1 (de_add (de_var 1) (DF.de (df_lc rfl nd (di_seq (de_var 1)) (own := [("head", 3)]) (blkOk_by (by kernel_rfl)) (by decide) (fun _ => (dg_name 3 nd)) (fun _ => dts_nil) (fun _ => (de_add (de_var 3) (de_lst (da_cons (de_var 2) da_nil))))))) nd)))
  (dss_one (ds_ret (de_var 1)))))
abbrev st_parts_by : Stmt := topS 58
theorem sc_parts_by : FnScope ["values", "some", "best", "rest", "part", "others", "house"] ["values", "some"] (defScope st_parts_by) := ⟨rfl, rfl, rfl, by decide +kernel, rfl, by decide +kernel, by decide +kernel⟩
theorem ok1_parts_by {k : Nat} {g : FX} (hk : 1 ≤ k) (B : Bu mg) (e : En K mg "parts_by" "parts_by" "parts_by" st_parts_by ["values", "some"]) (c_lots_of : ClP P w K mg base 1 "lots_of" ["some"] g_lots_of) (c_is_even : ClP P w K mg base 1 "is_even" ["values", "some"] g_is_even) (c_parts_by : ClP P w K mg base k "parts_by" ["values", "some"] g) : ClP P w K mg base (k + 1) "parts_by" ["values", "some"] (fnP 2 7 (x_parts_by g)) :=
  cl_P e sc_parts_by (by decide) fun f cdv A outer s H E hr => by
  have tk : Takes (cxOf (L2.CX P w) P w K mg base ["values", "some", "best", "rest", "part", "others", "house"] "parts_by" (defScope st_parts_by) f cdv A outer s H E) (WD E) := takes_of rfl rfl rfl rfl
  have hp : PassesOwn (model P w) (cxOf (L2.CX P w) P w K mg base ["values", "some", "best", "rest", "part", "others", "house"] "parts_by" (defScope st_parts_by) f cdv A outer s H E).A (cxOf (L2.CX P w) P w K mg base ["values", "some", "best", "rest", "part", "others", "house"] "parts_by" (defScope st_parts_by) f cdv A outer s H E).env (cxOf (L2.CX P w) P w K mg base ["values", "some", "best", "rest", "part", "others", "house"] "parts_by" (defScope st_parts_by) f cdv A outer s H E).xe := passes_of rfl
  have nd := sc_parts_by.nd
  have hu := hr.units
  exact (dss_cons (ds_if (tc hu (de_var 1) (de_lst da_nil)) (dss_one (ds_ret (de_lst da_nil))) dss_nil)
  (dss_cons (ds_set 2 de_non nd)
  (dss_cons (ds_for hp rfl (di_seq (dcP c_lots_of hr (by omega) tk (da_cons (de_sl (de_var 1) (do_some de_int) do_none) da_nil))) (dg_name 3 nd) (dss_cons (ds_set 4 (de_add (de_sl (de_var 1) do_none (do_some de_int)) (de_var 3)) nd)
  (dss_one (ds_if (dt_val (dcP c_is_even hr (by omega) tk (da_cons (de_var 0) (da_cons (de_var 4) da_nil)))) (dss_cons (ds_set 5 (dcP c_parts_by hr (Nat.le_refl _) tk (da_cons (de_var 0) (da_cons (DF.de (df_lc rfl nd (di_seq (de_var 1)) (own := [("house", 6)]) (blkOk_by (by kernel_rfl)) (by decide) (fun _ => (dg_name 6 nd)) (fun _ => (dts_one (tc hu (de_var 6) (de_var 4)))) (fun _ => (de_var 6)))) da_nil))) nd)
  (dss_one (ds_if (dw_dt (dw_and (tc hu (de_var 5) de_non) (dw_and1 (dw_dt (dw_or (tc hu (de_var 2) de_non) (dw_or1 (tc hu (de_add (bLen (da_cons (de_var 5) da_nil) B.b_len) de_int) (bLen (da_cons (de_var 2) da_nil) B.b_len)))))))) (dss_one (ds_set 2 (de_add (de_lst (da_cons (de_var 4) da_nil)) (de_var 5)) nd)) dss_nil))) dss_nil))))
  (dss_one (ds_ret (de_var 2))))))
theorem ok0_parts_by (e : En K mg "parts_by" "parts_by" "parts_by" st_parts_by ["values", "some"]) : ClP P w K mg base 2 "parts_by" ["values", "some"] (gl_parts_by 0) :=
  cl_P e sc_parts_by (by decide) fun f cdv A outer s H E hr => dss_no
theorem okn_parts_by (B : Bu mg) (e : En K mg "parts_by" "parts_by" "parts_by" st_parts_by ["values", "some"]) (c_lots_of : ClP P w K mg base 1 "lots_of" ["some"] g_lots_of) (c_is_even : ClP P w K mg base 1 "is_even" ["values", "some"] g_is_even) : ∀ n : Nat, ClP P w K mg base (2 + n) "parts_by" ["values", "some"] (gl_parts_by n)
  | 0 => ok0_parts_by e
  | n + 1 => ok1_parts_by (k := 2 + n) (by omega) B e c_lots_of c_is_even (okn_parts_by B e c_lots_of c_is_even n)
theorem ok_parts_by (B : Bu mg) (e : En K mg "parts_by" "parts_by" "parts_by" st_parts_by ["values", "some"]) (c_lots_of : ClP P w K mg base 1 "lots_of" ["some"] g_lots_of) (c_is_even : ClP P w K mg base 1 "is_even" ["values", "some"] g_is_even) : ClP P w K mg base 10 "parts_by" ["values", "some"] g_parts_by := okn_parts_by B e c_lots_of c_is_even 8
abbrev st_parts_of : Stmt := topS 59
theorem sc_parts_of : FnScope ["values"] ["values"] (defScope st_parts_of) := ⟨rfl, rfl, rfl, by decide +kernel, rfl, by decide +kernel, by decide +kernel⟩
theorem ok_parts_of (B : Bu mg) (e : En K mg "parts_of" "parts_of" "parts_of" st_parts_of ["values"]) (c_parts_by : ClP P w K mg base 10 "parts_by" ["values", "some"] g_parts_by) : ClP P w K mg base 11 "parts_of" ["values"] (g_parts_of) :=
  cl_P e sc_parts_of (by decide) fun f cdv A outer s H E hr => by
  have tk : Takes (cxOf (L2.CX P w) P w K mg base ["values"] "parts_of" (defScope st_parts_of) f cdv A outer s H E) (WD E) := takes_of rfl rfl rfl rfl
  have hp : PassesOwn (model P w) (cxOf (L2.CX P w) P w K mg base ["values"] "parts_of" (defScope st_parts_of) f cdv A outer s H E).A (cxOf (L2.CX P w) P w K mg base ["values"] "parts_of" (defScope st_parts_of) f cdv A outer s H E).env (cxOf (L2.CX P w) P w K mg base ["values"] "parts_of" (defScope st_parts_of) f cdv A outer s H E).xe := passes_of rfl
  have nd := sc_parts_of.nd
  have hu := hr.units
  exact (dss_one (ds_ret (dcP c_parts_by hr (by omega) tk (da_cons (de_var 0) (da_cons (de_listRg rfl (bLen (da_cons (de_var 0) da_nil) B.b_len) (by rfl) B.b_list (by rfl) B.b_range) da_nil)))))
abbrev st_moves_of : Stmt := topS 60
theorem sc_moves_of : FnScope ["values", "parts", "found", "part", "hubs", "house", "many"] ["values", "parts"] (defScope st_moves_of) := ⟨rfl, rfl, rfl, by decide +kernel, rfl, by decide +kernel, by decide +kernel⟩
theorem ok_moves_of (B : Bu mg) (e : En K mg "moves_of" "moves_of" "moves_of" st_moves_of ["values", "parts"])  : ClP P w K mg base 1 "moves_of" ["values", "parts"] (g_moves_of) :=
  cl_P e sc_moves_of (by decide) fun f cdv A outer s H E hr => by
  have tk : Takes (cxOf (L2.CX P w) P w K mg base ["values", "parts", "found", "part", "hubs", "house", "many"] "moves_of" (defScope st_moves_of) f cdv A outer s H E) (WD E) := takes_of rfl rfl rfl rfl
  have hp : PassesOwn (model P w) (cxOf (L2.CX P w) P w K mg base ["values", "parts", "found", "part", "hubs", "house", "many"] "moves_of" (defScope st_moves_of) f cdv A outer s H E).A (cxOf (L2.CX P w) P w K mg base ["values", "parts", "found", "part", "hubs", "house", "many"] "moves_of" (defScope st_moves_of) f cdv A outer s H E).env (cxOf (L2.CX P w) P w K mg base ["values", "parts", "found", "part", "hubs", "house", "many"] "moves_of" (defScope st_moves_of) f cdv A outer s H E).xe := passes_of rfl
  have nd := sc_moves_of.nd
  have hu := hr.units
  exact (dss_cons (DF.own 2 (df_lst da_nil) nd)
  (dss_cons (ds_for hp rfl (di_seq (de_var 1)) (dg_name 3 nd) (dss_cons (ds_set 4 (de_add (DF.de (df_lc rfl nd (di_seq (de_var 3)) (own := [("house", 5)]) (blkOk_by (by kernel_rfl)) (by decide) (fun _ => (dg_name 5 nd)) (fun _ => (dts_one (tc hu (di (de_var 0) (de_var 5)) de_non))) (fun _ => (de_var 5)))) (de_var 3)) nd)
  (dss_one (ds_for hp rfl (di_seq (de_var 3)) (dg_name 5 nd) (dss_one (ds_if (dw_dt (dw_and (tc hu (de_var 5) (di (de_var 4) de_int)) (dw_and (tc hu (di (de_var 0) (de_var 5)) de_non) (dw_and1 (tc hu (di (de_var 0) (de_var 5)) de_int))))) (dss_cons (ds_set 6 (di (de_var 0) (de_var 5)) nd)
  (dss_one (ds_append 2 (de_if (tc hu (de_var 6) de_int) (de_tup (da_cons (di (de_var 4) de_int) (da_cons (de_var 5) (da_cons (de_var 6) da_nil)))) (de_tup (da_cons (de_var 5) (da_cons (di (de_var 4) de_int) (da_cons (de_neg (de_var 6)) da_nil)))))))) dss_nil))))))
  (dss_one (ds_ret (de_var 2)))))
abbrev st_fewest_wrong : Stmt := topS 61
theorem sc_fewest_wrong : FnScope ["book", "parts"] ["book"] (defScope st_fewest_wrong) := ⟨rfl, rfl, rfl, by decide +kernel, rfl, by decide +kernel, by decide +kernel⟩
theorem ok_fewest_wrong (B : Bu mg) (e : En K mg "fewest_wrong" "fewest_wrong" "fewest_wrong" st_fewest_wrong ["book"]) (c_need_book : ClP P w K mg base 4 "need_book" ["value"] g_need_book) (c_parts_of : ClP P w K mg base 11 "parts_of" ["values"] g_parts_of) (c_lacks_of : ClP P w K mg base 3 "lacks_of" ["book"] g_lacks_of) : ClP P w K mg base 12 "fewest_wrong" ["book"] (g_fewest_wrong) :=
  cl_P e sc_fewest_wrong (by decide) fun f cdv A outer s H E hr => by
  have tk : Takes (cxOf (L2.CX P w) P w K mg base ["book", "parts"] "fewest_wrong" (defScope st_fewest_wrong) f cdv A outer s H E) (WD E) := takes_of rfl rfl rfl rfl
  have hp : PassesOwn (model P w) (cxOf (L2.CX P w) P w K mg base ["book", "parts"] "fewest_wrong" (defScope st_fewest_wrong) f cdv A outer s H E).A (cxOf (L2.CX P w) P w K mg base ["book", "parts"] "fewest_wrong" (defScope st_fewest_wrong) f cdv A outer s H E).env (cxOf (L2.CX P w) P w K mg base ["book", "parts"] "fewest_wrong" (defScope st_fewest_wrong) f cdv A outer s H E).xe := passes_of rfl
  have nd := sc_fewest_wrong.nd
  have hu := hr.units
  exact (dss_cons (ds_expr (dcP c_need_book hr (by omega) tk (da_cons (de_var 0) da_nil)))
  (dss_cons (ds_set 1 (dcP c_parts_of hr (by omega) tk (da_cons (dcP c_lacks_of hr (by omega) tk (da_cons (de_var 0) da_nil)) da_nil)) nd)
  (dss_one (ds_ret (de_if (tc hu (de_var 1) de_non) de_non (de_sub (di (de_var 0) de_int) (bLen (da_cons (de_var 1) da_nil) B.b_len)))))))
abbrev st_few_truth : Stmt := topS 62
theorem sc_few_truth : FnScope ["book", "lacks", "parts"] ["book"] (defScope st_few_truth) := ⟨rfl, rfl, rfl, by decide +kernel, rfl, by decide +kernel, by decide +kernel⟩
theorem ok_few_truth (B : Bu mg) (e : En K mg "few_truth" "few_truth" "few_truth" st_few_truth ["book"]) (c_need_book : ClP P w K mg base 4 "need_book" ["value"] g_need_book) (c_lacks_of : ClP P w K mg base 3 "lacks_of" ["book"] g_lacks_of) (c_parts_of : ClP P w K mg base 11 "parts_of" ["values"] g_parts_of) (c_truth_by : ClP P w K mg base 3 "truth_by" ["book", "moves"] g_truth_by) (c_moves_of : ClP P w K mg base 1 "moves_of" ["values", "parts"] g_moves_of) : ClP P w K mg base 12 "few_truth" ["book"] (g_few_truth) :=
  cl_P e sc_few_truth (by decide) fun f cdv A outer s H E hr => by
  have tk : Takes (cxOf (L2.CX P w) P w K mg base ["book", "lacks", "parts"] "few_truth" (defScope st_few_truth) f cdv A outer s H E) (WD E) := takes_of rfl rfl rfl rfl
  have hp : PassesOwn (model P w) (cxOf (L2.CX P w) P w K mg base ["book", "lacks", "parts"] "few_truth" (defScope st_few_truth) f cdv A outer s H E).A (cxOf (L2.CX P w) P w K mg base ["book", "lacks", "parts"] "few_truth" (defScope st_few_truth) f cdv A outer s H E).env (cxOf (L2.CX P w) P w K mg base ["book", "lacks", "parts"] "few_truth" (defScope st_few_truth) f cdv A outer s H E).xe := passes_of rfl
  have nd := sc_few_truth.nd
  have hu := hr.units
  exact (dss_cons (ds_expr (dcP c_need_book hr (by omega) tk (da_cons (de_var 0) da_nil)))
  (dss_cons (ds_set 1 (dcP c_lacks_of hr (by omega) tk (da_cons (de_var 0) da_nil)) nd)
  (dss_cons (ds_set 2 (dcP c_parts_of hr (by omega) tk (da_cons (de_var 1) da_nil)) nd)
  (dss_one (ds_ret (de_if (tc hu (de_var 2) de_non) de_non (dcP c_truth_by hr (by omega) tk (da_cons (de_var 0) (da_cons (dcP c_moves_of hr (by omega) tk (da_cons (de_var 1) (da_cons (de_var 2) da_nil))) da_nil)))))))))
abbrev st_is_let_counting : Stmt := topS 64
theorem sc_is_let_counting : FnScope ["lacks", "house", "lack", "slack", "least"] ["lacks", "house", "lack", "slack"] (defScope st_is_let_counting) := ⟨rfl, rfl, rfl, by decide +kernel, rfl, by decide +kernel, by decide +kernel⟩
theorem ok_is_let_counting (B : Bu mg) (e : En K mg "is_let_counting" "is_let" "is_let" st_is_let_counting ["lacks", "house", "lack", "slack"]) (c_least_by : ClP P w K mg base 2 "least_by" ["lacks"] g_least_by) : ClP P w K mg base 3 "is_let_counting" ["lacks", "house", "lack", "slack"] (g_is_let_counting) :=
  cl_P e sc_is_let_counting (by decide) fun f cdv A outer s H E hr => by
  have tk : Takes (cxOf (L2.CX P w) P w K mg base ["lacks", "house", "lack", "slack", "least"] "is_let" (defScope st_is_let_counting) f cdv A outer s H E) (WD E) := takes_of rfl rfl rfl rfl
  have hp : PassesOwn (model P w) (cxOf (L2.CX P w) P w K mg base ["lacks", "house", "lack", "slack", "least"] "is_let" (defScope st_is_let_counting) f cdv A outer s H E).A (cxOf (L2.CX P w) P w K mg base ["lacks", "house", "lack", "slack", "least"] "is_let" (defScope st_is_let_counting) f cdv A outer s H E).env (cxOf (L2.CX P w) P w K mg base ["lacks", "house", "lack", "slack", "least"] "is_let" (defScope st_is_let_counting) f cdv A outer s H E).xe := passes_of rfl
  have nd := sc_is_let_counting.nd
  have hu := hr.units
  exact (dss_cons (ds_set 4 (dcP c_least_by hr (by omega) tk (da_cons (de_add (de_add (de_sl (de_var 0) do_none (do_some (de_var 1))) (de_lst (da_cons (de_var 2) da_nil))) (de_sl (de_var 0) (do_some (de_add (de_var 1) de_int)) do_none)) da_nil)) nd)
  (dss_one (ds_ret (de_and (dc hu (de_var 4) de_non) (de_one (dc hu (de_var 4) (de_var 3)))))))
abbrev st_most_lack : Stmt := topS 66
theorem sc_most_lack : FnScope ["lacks", "house", "begin", "slack", "sign", "low", "high", "middle"] ["lacks", "house", "begin", "slack", "sign"] (defScope st_most_lack) := ⟨rfl, rfl, rfl, by decide +kernel, rfl, by decide +kernel, by decide +kernel⟩
theorem ok_most_lack (B : Bu mg) (e : En K mg "most_lack" "most_lack" "most_lack" st_most_lack ["lacks", "house", "begin", "slack", "sign"]) (c_is_let_counting : ClP P w K mg base 3 "is_let_counting" ["lacks", "house", "lack", "slack"] g_is_let_counting) : ClP P w K mg base 4 "most_lack" ["lacks", "house", "begin", "slack", "sign"] (g_most_lack) :=
  cl_P e sc_most_lack (by decide) fun f cdv A outer s H E hr => by
  have tk : Takes (cxOf (L2.CX P w) P w K mg base ["lacks", "house", "begin", "slack", "sign", "low", "high", "middle"] "most_lack" (defScope st_most_lack) f cdv A outer s H E) (WD E) := takes_of rfl rfl rfl rfl
  have hp : PassesOwn (model P w) (cxOf (L2.CX P w) P w K mg base ["lacks", "house", "begin", "slack", "sign", "low", "high", "middle"] "most_lack" (defScope st_most_lack) f cdv A outer s H E).A (cxOf (L2.CX P w) P w K mg base ["lacks", "house", "begin", "slack", "sign", "low", "high", "middle"] "most_lack" (defScope st_most_lack) f cdv A outer s H E).env (cxOf (L2.CX P w) P w K mg base ["lacks", "house", "begin", "slack", "sign", "low", "high", "middle"] "most_lack" (defScope st_most_lack) f cdv A outer s H E).xe := passes_of rfl
  have nd := sc_most_lack.nd
  have hu := hr.units
  exact (dss_cons (ds_par 5 6 rfl nd (da_cons de_int (da_cons (de_add (de_mul de_int (de_var 3)) de_int) da_nil)))
  (dss_cons (ds_while 200 hp (tc hu (de_add (de_var 5) de_int) (de_var 6)) (dss_cons (ds_set 7 (de_div (de_add (de_var 5) (de_var 6)) de_int) nd)
  (dss_one (ds_if (dt_val (dcP c_is_let_counting hr (by omega) tk (da_cons (de_var 0) (da_cons (de_var 1) (da_cons (de_add (de_var 2) (de_mul (de_var 4) (de_var 7))) (da_cons (de_var 3) da_nil)))))) (dss_one (ds_set 5 (de_var 7) nd)) (dss_one (ds_set 6 (de_var 7) nd))))))
  (dss_one (ds_ret (de_add (de_var 2) (de_mul (de_var 4) (de_var 5)))))))
abbrev st_count_by : Stmt := topS 67
theorem sc_count_by : FnScope ["book", "slack", "house", "lacks", "gain", "begin", "least", "most", "sign"] ["book", "slack", "house"] (defScope st_count_by) := ⟨rfl, rfl, rfl, by decide +kernel, rfl, by decide +kernel, by decide +kernel⟩
theorem ok_count_by (B : Bu mg) (e : En K mg "count_by" "count_by" "count_by" st_count_by ["book", "slack", "house"]) (c_lacks_of : ClP P w K mg base 3 "lacks_of" ["book"] g_lacks_of) (c_need_truth : ClP P w K mg base 3 "need_truth" ["lacks", "slack"] g_need_truth) (c_gains_of : ClP P w K mg base 2 "gains_of" ["houses", "some"] g_gains_of) (c_nets_of : ClP P w K mg base 2 "nets_of" ["houses", "notes"] g_nets_of) (c_moves_by : ClP P w K mg base 4 "moves_by" ["lacks"] g_moves_by) (c_most_lack : ClP P w K mg base 4 "most_lack" ["lacks", "house", "begin", "slack", "sign"] g_most_lack) : ClP P w K mg base 5 "count_by" ["book", "slack", "house"] (g_count_by) :=
  cl_P e sc_count_by (by decide) fun f cdv A outer s H E hr => by
  have tk : Takes (cxOf (L2.CX P w) P w K mg base ["book", "slack", "house", "lacks", "gain", "begin", "least", "most", "sign"] "count_by" (defScope st_count_by) f cdv A outer s H E) (WD E) := takes_of rfl rfl rfl rfl
  have hp : PassesOwn (model P w) (cxOf (L2.CX P w) P w K mg base ["book", "slack", "house", "lacks", "gain", "begin", "least", "most", "sign"] "count_by" (defScope st_count_by) f cdv A outer s H E).A (cxOf (L2.CX P w) P w K mg base ["book", "slack", "house", "lacks", "gain", "begin", "least", "most", "sign"] "count_by" (defScope st_count_by) f cdv A outer s H E).env (cxOf (L2.CX P w) P w K mg base ["book", "slack", "house", "lacks", "gain", "begin", "least", "most", "sign"] "count_by" (defScope st_count_by) f cdv A outer s H E).xe := passes_of rfl
  have nd := sc_count_by.nd
  have hu := hr.units
  exact (dss_cons (ds_set 3 (dcP c_lacks_of hr (by omega) tk (da_cons (de_var 0) da_nil)) nd)
  (dss_cons (ds_expr (dcP c_need_truth hr (by omega) tk (da_cons (de_var 3) (da_cons (de_var 1) da_nil))))
  (dss_cons (ds_if (tc hu (di (di (de_var 0) de_int) (de_var 2)) de_non) (dss_one (ds_ret (de_tup (da_cons (di (di (de_var 0) de_int) (de_var 2)) (da_cons (di (di (de_var 0) de_int) (de_var 2)) da_nil))))) dss_nil)
  (dss_cons (ds_set 4 (di (dcP c_gains_of hr (by omega) tk (da_cons (di (de_var 0) de_int) (da_cons (dcP c_nets_of hr (by omega) tk (da_cons (di (de_var 0) de_int) (da_cons (di (de_var 0) de_int) da_nil))) da_nil))) (de_var 2)) nd)
  (dss_cons (ds_set 5 (di (dcP c_gains_of hr (by omega) tk (da_cons (di (de_var 0) de_int) (da_cons (dcP c_nets_of hr (by omega) tk (da_cons (di (de_var 0) de_int) (da_cons (dcP c_moves_by hr (by omega) tk (da_cons (de_var 3) da_nil)) da_nil))) da_nil))) (de_var 2)) nd)
  (dss_cons (ds_unp (DF.de (df_lc rfl nd (di_seq (de_tup (da_cons (de_neg de_int) (da_cons de_int da_nil)))) (own := [("sign", 8)]) (blkOk_by (by kernel_rfl)) (by decide) (fun _ => (dg_name 8 nd)) (fun _ => dts_nil) (fun _ => (dcP c_most_lack hr (by omega) takes0 (da_cons (de_var 3) (da_cons (de_var 2) (da_cons (de_var 5) (da_cons (de_var 1) (da_cons (de_var 8) da_nil))))))))) (dg_lst rfl (dgs_cons 6 (dgs_cons 7 dgs_nil nd) nd)))
  (dss_one (ds_ret (de_tup (da_cons (de_add (de_var 4) (de_var 6)) (da_cons (de_add (de_var 4) (de_var 7)) da_nil)))))))))))
abbrev st_count_of : Stmt := topS 68
theorem sc_count_of : FnScope ["book", "slack", "house"] ["book", "slack", "house"] (defScope st_count_of) := ⟨rfl, rfl, rfl, by decide +kernel, rfl, by decide +kernel, by decide +kernel⟩
theorem ok_count_of (B : Bu mg) (e : En K mg "count_of" "count_of" "count_of" st_count_of ["book", "slack", "house"]) (c_need_book : ClP P w K mg base 4 "need_book" ["value"] g_need_book) (c_need_slack : ClP P w K mg base 2 "need_slack" ["value"] g_need_slack) (c_is_integer : ClP P w K mg base 1 "is_integer" ["value", "low", "high"] g_is_integer) (c_count_by : ClP P w K mg base 5 "count_by" ["book", "slack", "house"] g_count_by) : ClP P w K mg base 6 "count_of" ["book", "slack", "house"] (g_count_of) :=
  cl_P e sc_count_of (by decide) fun f cdv A outer s H E hr => by
  have tk : Takes (cxOf (L2.CX P w) P w K mg base ["book", "slack", "house"] "count_of" (defScope st_count_of) f cdv A outer s H E) (WD E) := takes_of rfl rfl rfl rfl
  have hp : PassesOwn (model P w) (cxOf (L2.CX P w) P w K mg base ["book", "slack", "house"] "count_of" (defScope st_count_of) f cdv A outer s H E).A (cxOf (L2.CX P w) P w K mg base ["book", "slack", "house"] "count_of" (defScope st_count_of) f cdv A outer s H E).env (cxOf (L2.CX P w) P w K mg base ["book", "slack", "house"] "count_of" (defScope st_count_of) f cdv A outer s H E).xe := passes_of rfl
  have nd := sc_count_of.nd
  have hu := hr.units
  exact (dss_cons (ds_expr (dcP c_need_book hr (by omega) tk (da_cons (de_var 0) da_nil)))
  (dss_cons (ds_expr (dcP c_need_slack hr (by omega) tk (da_cons (de_var 1) da_nil)))
  (dss_cons (ds_if (dt_not (dt_val (dcP c_is_integer hr (by omega) tk (da_cons (de_var 2) (da_cons de_int (da_cons (de_sub (di (de_var 0) de_int) de_int) da_nil)))))) (dss_one ds_no) dss_nil)
  (dss_one (ds_ret (dcP c_count_by hr (by omega) tk (da_cons (de_var 0) (da_cons (de_var 1) (da_cons (de_var 2) da_nil)))))))))
abbrev st_best_counted : Stmt := topS 69
theorem sc_best_counted : FnScope ["book", "slack", "best", "found", "house", "least", "most"] ["book", "slack"] (defScope st_best_counted) := ⟨rfl, rfl, rfl, by decide +kernel, rfl, by decide +kernel, by decide +kernel⟩
theorem ok_best_counted (B : Bu mg) (e : En K mg "best_counted" "best_counted" "best_counted" st_best_counted ["book", "slack"]) (c_need_book : ClP P w K mg base 4 "need_book" ["value"] g_need_book) (c_need_slack : ClP P w K mg base 2 "need_slack" ["value"] g_need_slack) (c_need_truth : ClP P w K mg base 3 "need_truth" ["lacks", "slack"] g_need_truth) (c_lacks_of : ClP P w K mg base 3 "lacks_of" ["book"] g_lacks_of) (c_count_by : ClP P w K mg base 5 "count_by" ["book", "slack", "house"] g_count_by) : ClP P w K mg base 6 "best_counted" ["book", "slack"] (g_best_counted) :=
  cl_P e sc_best_counted (by decide) fun f cdv A outer s H E hr => by
  have tk : Takes (cxOf (L2.CX P w) P w K mg base ["book", "slack", "best", "found", "house", "least", "most"] "best_counted" (defScope st_best_counted) f cdv A outer s H E) (WD E) := takes_of rfl rfl rfl rfl
  have hp : PassesOwn (model P w) (cxOf (L2.CX P w) P w K mg base ["book", "slack", "best", "found", "house", "least", "most"] "best_counted" (defScope st_best_counted) f cdv A outer s H E).A (cxOf (L2.CX P w) P w K mg base ["book", "slack", "best", "found", "house", "least", "most"] "best_counted" (defScope st_best_counted) f cdv A outer s H E).env (cxOf (L2.CX P w) P w K mg base ["book", "slack", "best", "found", "house", "least", "most"] "best_counted" (defScope st_best_counted) f cdv A outer s H E).xe := passes_of rfl
  have nd := sc_best_counted.nd
  have hu := hr.units
  exact (dss_cons (ds_expr (dcP c_need_book hr (by omega) tk (da_cons (de_var 0) da_nil)))
  (dss_cons (ds_expr (dcP c_need_slack hr (by omega) tk (da_cons (de_var 1) da_nil)))
  (dss_cons (ds_expr (dcP c_need_truth hr (by omega) tk (da_cons (dcP c_lacks_of hr (by omega) tk (da_cons (de_var 0) da_nil)) (da_cons (de_var 1) da_nil))))
  (dss_cons (ds_unp (de_tup (da_cons (de_neg de_int) (da_cons de_non da_nil))) (dg_tup rfl (dgs_cons 2 (dgs_cons 3 dgs_nil nd) nd)))
  (dss_cons (ds_for hp rfl (di_range1 (da_cons (di (de_var 0) de_int) da_nil) (by rfl) B.b_range) (dg_name 4 nd) (dss_cons (ds_unp (dcP c_count_by hr (by omega) tk (da_cons (de_var 0) (da_cons (de_var 1) (da_cons (de_var 4) da_nil)))) (dg_tup rfl (dgs_cons 5 (dgs_cons 6 dgs_nil nd) nd)))
  (dss_one (ds_if (dw_dt (dw_and (tc hu (di (di (de_var 0) de_int) (de_var 4)) de_non) (dw_and1 (tc hu (de_sub (de_var 6) (de_var 5)) (de_var 2))))) (dss_one (ds_par 2 3 rfl nd (da_cons (de_sub (de_var 6) (de_var 5)) (da_cons (de_var 4) da_nil)))) dss_nil))))
  (dss_one (ds_ret (de_var 3))))))))
abbrev st_needless : Stmt := topS 70
theorem sc_needless : FnScope ["book"] ["book"] (defScope st_needless) := ⟨rfl, rfl, rfl, by decide +kernel, rfl, by decide +kernel, by decide +kernel⟩
theorem ok_needless (B : Bu mg) (e : En K mg "needless" "needless" "needless" st_needless ["book"]) (c_need_book : ClP P w K mg base 4 "need_book" ["value"] g_need_book) : ClP P w K mg base 5 "needless" ["book"] (g_needless) :=
  cl_P e sc_needless (by decide) fun f cdv A outer s H E hr => by
  have tk : Takes (cxOf (L2.CX P w) P w K mg base ["book"] "needless" (defScope st_needless) f cdv A outer s H E) (WD E) := takes_of rfl rfl rfl rfl
  have hp : PassesOwn (model P w) (cxOf (L2.CX P w) P w K mg base ["book"] "needless" (defScope st_needless) f cdv A outer s H E).A (cxOf (L2.CX P w) P w K mg base ["book"] "needless" (defScope st_needless) f cdv A outer s H E).env (cxOf (L2.CX P w) P w K mg base ["book"] "needless" (defScope st_needless) f cdv A outer s H E).xe := passes_of rfl
  have nd := sc_needless.nd
  have hu := hr.units
  exact (dss_cons (ds_expr (dcP c_need_book hr (by omega) tk (da_cons (de_var 0) da_nil)))
  (dss_cons (ds_if (dw_dt (dw_or (tc hu de_non (di (de_var 0) de_int)) (dw_or1 (tc hu (bSum rfl (da_cons (di (de_var 0) de_int) da_nil) B.b_sum) de_int)))) (dss_one (ds_ret (de_lst da_nil))) dss_nil)
  (dss_one (ds_ret (de_listRg rfl (di (de_var 0) de_int) (by rfl) B.b_list (by rfl) B.b_range)))))
abbrev st_need_balances : Stmt := topS 72
theorem sc_need_balances : FnScope ["value", "balance"] ["value"] (defScope st_need_balances) := ⟨rfl, rfl, rfl, by decide +kernel, rfl, by decide +kernel, by decide +kernel⟩
theorem ok_need_balances (B : Bu mg) (e : En K mg "need_balances" "need_balances" "need_balances" st_need_balances ["value"]) (c_is_integer : ClP P w K mg base 1 "is_integer" ["value", "low", "high"] g_is_integer) : ClP P w K mg base 2 "need_balances" ["value"] (g_need_balances) :=
  cl_P e sc_need_balances (by decide) fun f cdv A outer s H E hr => by
  have tk : Takes (cxOf (L2.CX P w) P w K mg base ["value", "balance"] "need_balances" (defScope st_need_balances) f cdv A outer s H E) (WD E) := takes_of rfl rfl rfl rfl
  have hp : PassesOwn (model P w) (cxOf (L2.CX P w) P w K mg base ["value", "balance"] "need_balances" (defScope st_need_balances) f cdv A outer s H E).A (cxOf (L2.CX P w) P w K mg base ["value", "balance"] "need_balances" (defScope st_need_balances) f cdv A outer s H E).env (cxOf (L2.CX P w) P w K mg base ["value", "balance"] "need_balances" (defScope st_need_balances) f cdv A outer s H E).xe := passes_of rfl
  have nd := sc_need_balances.nd
  have hu := hr.units
  exact (dss_cons (ds_if (dw_dt (dw_or (dt_not (dt_val (bIsi .tuple bt_tuple (de_var 0) B.b_isinstance B.b_tuple))) (dw_or1 (dt_not (tch hu de_int (bLen (da_cons (de_var 0) da_nil) B.b_len) de_int))))) (dss_one ds_no) dss_nil)
  (dss_one (ds_if (dw_dt (dw_or (dt_not (dt_val (bAll rfl (da_cons (DF.de (df_lc rfl nd (di_seq (de_var 0)) (own := [("balance", 1)]) (blkOk_by (by kernel_rfl)) (by decide) (fun _ => (dg_name 1 nd)) (fun _ => dts_nil) (fun _ => (dcP c_is_integer hr (by omega) takes0 (da_cons (de_var 1) (da_cons (de_neg (dgI B.g_GREAT)) (da_cons (dgI B.g_GREAT) da_nil))))))) da_nil) B.b_all))) (dw_or1 (tc hu (bSum rfl (da_cons (de_var 0) da_nil) B.b_sum) de_int)))) (dss_one ds_no) dss_nil)))
abbrev st_ways_by : Stmt := topS 73
theorem sc_ways_by : FnScope ["balances", "values", "balance"] ["balances"] (defScope st_ways_by) := ⟨rfl, rfl, rfl, by decide +kernel, rfl, by decide +kernel, by decide +kernel⟩
theorem ok_ways_by (B : Bu mg) (e : En K mg "ways_by" "ways_by" "ways_by" st_ways_by ["balances"]) (c_moves_of : ClP P w K mg base 1 "moves_of" ["values", "parts"] g_moves_of) (c_parts_of : ClP P w K mg base 11 "parts_of" ["values"] g_parts_of) : ClP P w K mg base 12 "ways_by" ["balances"] (g_ways_by) :=
  cl_P e sc_ways_by (by decide) fun f cdv A outer s H E hr => by
  have tk : Takes (cxOf (L2.CX P w) P w K mg base ["balances", "values", "balance"] "ways_by" (defScope st_ways_by) f cdv A outer s H E) (WD E) := takes_of rfl rfl rfl rfl
  have hp : PassesOwn (model P w) (cxOf (L2.CX P w) P w K mg base ["balances", "values", "balance"] "ways_by" (defScope st_ways_by) f cdv A outer s H E).A (cxOf (L2.CX P w) P w K mg base ["balances", "values", "balance"] "ways_by" (defScope st_ways_by) f cdv A outer s H E).env (cxOf (L2.CX P w) P w K mg base ["balances", "values", "balance"] "ways_by" (defScope st_ways_by) f cdv A outer s H E).xe := passes_of rfl
  have nd := sc_ways_by.nd
  have hu := hr.units
  exact (dss_cons (ds_setLc 1 rfl nd rfl (di_seq (de_var 0)) (own := [("balance", 2)]) (blkOk_by (by kernel_rfl)) (by decide) (fun _ => (dg_name 2 nd)) (fun _ => dts_nil) (fun _ => (de_neg (de_var 2))) (sw_true rfl rfl rfl rfl))
  (dss_one (ds_ret (bTup (da_cons (bSort (da_cons (dcP c_moves_of hr (by omega) tk (da_cons (de_var 1) (da_cons (dcP c_parts_of hr (by omega) tk (da_cons (de_var 1) da_nil)) da_nil))) da_nil) B.b_sorted) da_nil) B.b_tuple))))
abbrev st_fewest_ways : Stmt := topS 74
theorem sc_fewest_ways : FnScope ["balances"] ["balances"] (defScope st_fewest_ways) := ⟨rfl, rfl, rfl, by decide +kernel, rfl, by decide +kernel, by decide +kernel⟩
theorem ok_fewest_ways (B : Bu mg) (e : En K mg "fewest_ways" "fewest_ways" "fewest_ways" st_fewest_ways ["balances"]) (c_need_balances : ClP P w K mg base 2 "need_balances" ["value"] g_need_balances) (c_ways_by : ClP P w K mg base 12 "ways_by" ["balances"] g_ways_by) : ClP P w K mg base 13 "fewest_ways" ["balances"] (g_fewest_ways) :=
  cl_P e sc_fewest_ways (by decide) fun f cdv A outer s H E hr => by
  have tk : Takes (cxOf (L2.CX P w) P w K mg base ["balances"] "fewest_ways" (defScope st_fewest_ways) f cdv A outer s H E) (WD E) := takes_of rfl rfl rfl rfl
  have hp : PassesOwn (model P w) (cxOf (L2.CX P w) P w K mg base ["balances"] "fewest_ways" (defScope st_fewest_ways) f cdv A outer s H E).A (cxOf (L2.CX P w) P w K mg base ["balances"] "fewest_ways" (defScope st_fewest_ways) f cdv A outer s H E).env (cxOf (L2.CX P w) P w K mg base ["balances"] "fewest_ways" (defScope st_fewest_ways) f cdv A outer s H E).xe := passes_of rfl
  have nd := sc_fewest_ways.nd
  have hu := hr.units
  exact (dss_cons (ds_expr (dcP c_need_balances hr (by omega) tk (da_cons (de_var 0) da_nil)))
  (dss_one (ds_ret (bLen (da_cons (dcP c_ways_by hr (by omega) tk (da_cons (de_var 0) da_nil)) da_nil) B.b_len))))
abbrev st_ways : Stmt := topS 75
theorem sc_ways : FnScope ["balances"] ["balances"] (defScope st_ways) := ⟨rfl, rfl, rfl, by decide +kernel, rfl, by decide +kernel, by decide +kernel⟩
theorem ok_ways (B : Bu mg) (e : En K mg "ways" "ways" "ways" st_ways ["balances"]) (c_need_balances : ClP P w K mg base 2 "need_balances" ["value"] g_need_balances) (c_ways_by : ClP P w K mg base 12 "ways_by" ["balances"] g_ways_by) : ClP P w K mg base 13 "ways" ["balances"] (g_ways) :=
  cl_P e sc_ways (by decide) fun f cdv A outer s H E hr => by
  have tk : Takes (cxOf (L2.CX P w) P w K mg base ["balances"] "ways" (defScope st_ways) f cdv A outer s H E) (WD E) := takes_of rfl rfl rfl rfl
  have hp : PassesOwn (model P w) (cxOf (L2.CX P w) P w K mg base ["balances"] "ways" (defScope st_ways) f cdv A outer s H E).A (cxOf (L2.CX P w) P w K mg base ["balances"] "ways" (defScope st_ways) f cdv A outer s H E).env (cxOf (L2.CX P w) P w K mg base ["balances"] "ways" (defScope st_ways) f cdv A outer s H E).xe := passes_of rfl
  have nd := sc_ways.nd
  have hu := hr.units
  exact (dss_cons (ds_expr (dcP c_need_balances hr (by omega) tk (da_cons (de_var 0) da_nil)))
  (dss_one (ds_ret (dcP c_ways_by hr (by omega) tk (da_cons (de_var 0) da_nil)))))
abbrev st_is_way : Stmt := topS 76
theorem sc_is_way : FnScope ["houses", "value", "giver", "taker", "many", "item"] ["houses", "value"] (defScope st_is_way) := ⟨rfl, rfl, rfl, by decide +kernel, rfl, by decide +kernel, by decide +kernel⟩
theorem ok_is_way (B : Bu mg) (e : En K mg "is_way" "is_way" "is_way" st_is_way ["houses", "value"])  : ClP P w K mg base 1 "is_way" ["houses", "value"] (g_is_way) :=
  cl_P e sc_is_way (by decide) fun f cdv A outer s H E hr => by
  have tk : Takes (cxOf (L2.CX P w) P w K mg base ["houses", "value", "giver", "taker", "many", "item"] "is_way" (defScope st_is_way) f cdv A outer s H E) (WD E) := takes_of rfl rfl rfl rfl
  have hp : PassesOwn (model P w) (cxOf (L2.CX P w) P w K mg base ["houses", "value", "giver", "taker", "many", "item"] "is_way" (defScope st_is_way) f cdv A outer s H E).A (cxOf (L2.CX P w) P w K mg base ["houses", "value", "giver", "taker", "many", "item"] "is_way" (defScope st_is_way) f cdv A outer s H E).env (cxOf (L2.CX P w) P w K mg base ["houses", "value", "giver", "taker", "many", "item"] "is_way" (defScope st_is_way) f cdv A outer s H E).xe := passes_of rfl
  have nd := sc_is_way.nd
  have hu := hr.units
  exact (dss_cons (ds_if (dw_dt (dw_or (dt_not (dt_val (bIsi .tuple bt_tuple (de_var 1) B.b_isinstance B.b_tuple))) (dw_or1 (tc hu (bLen (da_cons (de_var 1) da_nil) B.b_len) de_int)))) (dss_one (ds_ret de_bl)) dss_nil)
  (dss_cons (ds_if (dt_not (dt_val (bAll rfl (da_cons (DF.de (df_lc rfl nd (di_seq (de_var 1)) (own := [("item", 5)]) (blkOk_by (by kernel_rfl)) (by decide) (fun _ => (dg_name 5 nd)) (fun _ => dts_nil) (fun _ => (de_and (bIsi .int bt_int (de_var 5) B.b_isinstance B.b_int) (de_one (de_not (bIsi .bool bt_bool (de_var 5) B.b_isinstance B.b_bool))))))) da_nil) B.b_all))) (dss_one (ds_ret de_bl)) dss_nil)
  (dss_cons (ds_unp (de_var 1) (dg_tup rfl (dgs_cons 2 (dgs_cons 3 (dgs_cons 4 dgs_nil nd) nd) nd)))
  (dss_one (ds_ret (de_and (dch hu de_int (de_var 2) (de_var 0)) (de_and (dch hu de_int (de_var 3) (de_var 0)) (de_and (dc hu (de_var 2) (de_var 3)) (de_one (dc hu (de_var 4) de_int))))))))))
abbrev st_evens : Stmt := topS 77
theorem sc_evens : FnScope ["balances", "value", "given", "giver", "taker", "many", "sooner", "later", "way"] ["balances", "value"] (defScope st_evens) := ⟨rfl, rfl, rfl, by decide +kernel, rfl, by decide +kernel, by decide +kernel⟩
theorem ok_evens (B : Bu mg) (e : En K mg "evens" "evens" "evens" st_evens ["balances", "value"]) (c_need_balances : ClP P w K mg base 2 "need_balances" ["value"] g_need_balances) (c_is_way : ClP P w K mg base 1 "is_way" ["houses", "value"] g_is_way) : ClP P w K mg base 3 "evens" ["balances", "value"] (g_evens) :=
  cl_P e sc_evens (by decide) fun f cdv A outer s H E hr => by
  have tk : Takes (cxOf (L2.CX P w) P w K mg base ["balances", "value", "given", "giver", "taker", "many", "sooner", "later", "way"] "evens" (defScope st_evens) f cdv A outer s H E) (WD E) := takes_of rfl rfl rfl rfl
  have hp : PassesOwn (model P w) (cxOf (L2.CX P w) P w K mg base ["balances", "value", "given", "giver", "taker", "many", "sooner", "later", "way"] "evens" (defScope st_evens) f cdv A outer s H E).A (cxOf (L2.CX P w) P w K mg base ["balances", "value", "given", "giver", "taker", "many", "sooner", "later", "way"] "evens" (defScope st_evens) f cdv A outer s H E).env (cxOf (L2.CX P w) P w K mg base ["balances", "value", "given", "giver", "taker", "many", "sooner", "later", "way"] "evens" (defScope st_evens) f cdv A outer s H E).xe := passes_of rfl
  have nd := sc_evens.nd
  have hu := hr.units
  exact (dss_cons (ds_expr (dcP c_need_balances hr (by omega) tk (da_cons (de_var 0) da_nil)))
  (dss_cons (ds_if (dw_dt (dw_or (dt_not (dt_val (bIsi .tuple bt_tuple (de_var 1) B.b_isinstance B.b_tuple))) (dw_or1 (dt_not (dt_val (bAll rfl (da_cons (DF.de (df_lc rfl nd (di_seq (de_var 1)) (own := [("way", 8)]) (blkOk_by (by kernel_rfl)) (by decide) (fun _ => (dg_name 8 nd)) (fun _ => dts_nil) (fun _ => (dcP c_is_way hr (by omega) takes0 (da_cons (bLen (da_cons (de_var 0) da_nil) B.b_len) (da_cons (de_var 8) da_nil)))))) da_nil) B.b_all)))))) (dss_one (ds_ret de_bl)) dss_nil)
  (dss_cons (ds_if (dt_not (dt_val (bAll rfl (da_cons (DF.de (df_lc rfl nd (di_zip (da_cons (de_var 1) (da_cons (de_sl (de_var 1) (do_some de_int) do_none) da_nil)) (by rfl) B.b_zip) (own := [("sooner", 6), ("later", 7)]) (blkOk_by (by kernel_rfl)) (by decide) (fun _ => (dg_tup rfl (dgs_cons 6 (dgs_cons 7 dgs_nil nd) nd))) (fun _ => dts_nil) (fun _ => (dcLtT hu (de_var 6) (de_var 7))))) da_nil) B.b_all))) (dss_one (ds_ret de_bl)) dss_nil)
  (dss_cons (DF.own 2 (df_list1 (by rfl) B.b_list (da_cons (de_var 0) da_nil)) nd)
  (dss_cons (ds_for hp rfl (di_seq (de_var 1)) (dg_tup rfl (dgs_cons 3 (dgs_cons 4 (dgs_cons 5 dgs_nil nd) nd) nd)) (dss_one (ds_st2 2 2 rfl (de_tup (da_cons (de_sub (dix 2 (de_var 3)) (de_var 5)) (da_cons (de_add (dix 2 (de_var 4)) (de_var 5)) da_nil))) (de_var 3) (de_var 4))))
  (dss_one (ds_ret (dc hu (de_var 2) (de_repL (da_cons de_int da_nil) (bLen (da_cons (de_var 0) da_nil) B.b_len))))))))))
abbrev st_number_of : Stmt := topS 80
theorem sc_number_of : FnScope ["word", "figures", "sign"] ["word"] (defScope st_number_of) := ⟨rfl, rfl, rfl, by decide +kernel, rfl, by decide +kernel, by decide +kernel⟩
theorem ok_number_of (B : Bu mg) (e : En K mg "number_of" "number_of" "number_of" st_number_of ["word"])  : ClP P w K mg base 1 "number_of" ["word"] (g_number_of) :=
  cl_P e sc_number_of (by decide) fun f cdv A outer s H E hr => by
  have tk : Takes (cxOf (L2.CX P w) P w K mg base ["word", "figures", "sign"] "number_of" (defScope st_number_of) f cdv A outer s H E) (WD E) := takes_of rfl rfl rfl rfl
  have hp : PassesOwn (model P w) (cxOf (L2.CX P w) P w K mg base ["word", "figures", "sign"] "number_of" (defScope st_number_of) f cdv A outer s H E).A (cxOf (L2.CX P w) P w K mg base ["word", "figures", "sign"] "number_of" (defScope st_number_of) f cdv A outer s H E).env (cxOf (L2.CX P w) P w K mg base ["word", "figures", "sign"] "number_of" (defScope st_number_of) f cdv A outer s H E).xe := passes_of rfl
  have nd := sc_number_of.nd
  have hu := hr.units
  exact (dss_cons (ds_set 1 (de_if (tc hu (de_slS (de_var 0) do_none (do_some de_int)) de_str) (de_slS (de_var 0) (do_some de_int) do_none) (de_var 0)) nd)
  (dss_cons (ds_if (dw_dt (dw_or (dt_not (tch hu de_int (bLen (da_cons (de_var 1) da_nil) B.b_len) de_int)) (dw_or1 (dt_not (dt_val (bAll rfl (da_cons (DF.de (df_lc rfl nd (di_str (de_var 1)) (own := [("sign", 2)]) (blkOk_by (by kernel_rfl)) (by decide) (fun _ => (dg_name 2 nd)) (fun _ => dts_nil) (fun _ => (dcInS (de_var 2) de_str)))) da_nil) B.b_all)))))) (dss_one (ds_ret (de_var 0))) dss_nil)
  (dss_one (ds_ret (de_if (tc hu (bStr (da_cons (bInt (da_cons (de_var 0) da_nil) B.b_int) da_nil) B.b_str) (de_var 0)) (bInt (da_cons (de_var 0) da_nil) B.b_int) (de_var 0))))))
abbrev st_text_of : Stmt := topS 81
theorem sc_text_of : FnScope ["book", "rows", "giver", "taker", "many", "count"] ["book"] (defScope st_text_of) := ⟨rfl, rfl, rfl, by decide +kernel, rfl, by decide +kernel, by decide +kernel⟩
theorem ok_text_of (B : Bu mg) (e : En K mg "text_of" "text_of" "text_of" st_text_of ["book"])  : ClP P w K mg base 1 "text_of" ["book"] (g_text_of) :=
  cl_P e sc_text_of (by decide) fun f cdv A outer s H E hr => by
  have tk : Takes (cxOf (L2.CX P w) P w K mg base ["book", "rows", "giver", "taker", "many", "count"] "text_of" (defScope st_text_of) f cdv A outer s H E) (WD E) := takes_of rfl rfl rfl rfl
  have hp : PassesOwn (model P w) (cxOf (L2.CX P w) P w K mg base ["book", "rows", "giver", "taker", "many", "count"] "text_of" (defScope st_text_of) f cdv A outer s H E).A (cxOf (L2.CX P w) P w K mg base ["book", "rows", "giver", "taker", "many", "count"] "text_of" (defScope st_text_of) f cdv A outer s H E).env (cxOf (L2.CX P w) P w K mg base ["book", "rows", "giver", "taker", "many", "count"] "text_of" (defScope st_text_of) f cdv A outer s H E).xe := passes_of rfl
  have nd := sc_text_of.nd
  have hu := hr.units
  exact (dss_cons (ds_set 1 (de_add (de_lst (da_cons (de_joined (dj_cons de_str (dj_cons (de_fmt (di (de_var 0) de_int)) dj_nil))) da_nil)) (DF.de (df_lc rfl nd (di_seq (di (de_var 0) de_int)) (own := [("giver", 2), ("taker", 3), ("many", 4)]) (blkOk_by (by kernel_rfl)) (by decide) (fun _ => (dg_tup rfl (dgs_cons 2 (dgs_cons 3 (dgs_cons 4 dgs_nil nd) nd) nd))) (fun _ => dts_nil) (fun _ => (de_joined (dj_cons de_str (dj_cons (de_fmt (de_var 2)) (dj_cons de_str (dj_cons (de_fmt (de_var 3)) (dj_cons de_str (dj_cons (de_fmt (de_var 4)) dj_nil))))))))))) nd)
  (dss_one (ds_ret (de_join de_str (da_cons (de_add (de_var 1) (de_lst (da_cons (de_join de_str (da_cons (de_add (de_lst (da_cons de_str da_nil)) (DF.de (df_lc rfl nd (di_seq (di (de_var 0) de_int)) (own := [("count", 5)]) (blkOk_by (by kernel_rfl)) (by decide) (fun _ => (dg_name 5 nd)) (fun _ => dts_nil) (fun _ => (de_if (tc hu (de_var 5) de_non) (dgS B.g_STAR) (bStr (da_cons (de_var 5) da_nil) B.b_str)))))) da_nil)) da_nil))) da_nil)))))
abbrev st_book_text : Stmt := topS 82
theorem sc_book_text : FnScope ["book"] ["book"] (defScope st_book_text) := ⟨rfl, rfl, rfl, by decide +kernel, rfl, by decide +kernel, by decide +kernel⟩
theorem ok_book_text (B : Bu mg) (e : En K mg "book_text" "book_text" "book_text" st_book_text ["book"]) (c_need_book : ClP P w K mg base 4 "need_book" ["value"] g_need_book) (c_text_of : ClP P w K mg base 1 "text_of" ["book"] g_text_of) : ClP P w K mg base 5 "book_text" ["book"] (g_book_text) :=
  cl_P e sc_book_text (by decide) fun f cdv A outer s H E hr => by
  have tk : Takes (cxOf (L2.CX P w) P w K mg base ["book"] "book_text" (defScope st_book_text) f cdv A outer s H E) (WD E) := takes_of rfl rfl rfl rfl
  have hp : PassesOwn (model P w) (cxOf (L2.CX P w) P w K mg base ["book"] "book_text" (defScope st_book_text) f cdv A outer s H E).A (cxOf (L2.CX P w) P w K mg base ["book"] "book_text" (defScope st_book_text) f cdv A outer s H E).env (cxOf (L2.CX P w) P w K mg base ["book"] "book_text" (defScope st_book_text) f cdv A outer s H E).xe := passes_of rfl
  have nd := sc_book_text.nd
  have hu := hr.units
  exact (dss_cons (ds_expr (dcP c_need_book hr (by omega) tk (da_cons (de_var 0) da_nil)))
  (dss_one (ds_ret (dcP c_text_of hr (by omega) tk (da_cons (de_var 0) da_nil)))))
abbrev st_book_in : Stmt := topS 83
theorem sc_book_in : FnScope ["value", "rows", "notes", "counts", "line", "row", "word"] ["value"] (defScope st_book_in) := ⟨rfl, rfl, rfl, by decide +kernel, rfl, by decide +kernel, by decide +kernel⟩
theorem ok_book_in (B : Bu mg) (e : En K mg "book_in" "book_in" "book_in" st_book_in ["value"]) (c_number_of : ClP P w K mg base 1 "number_of" ["word"] g_number_of) : ClP P w K mg base 2 "book_in" ["value"] (g_book_in) :=
  cl_P e sc_book_in (by decide) fun f cdv A outer s H E hr => by
  have tk : Takes (cxOf (L2.CX P w) P w K mg base ["value", "rows", "notes", "counts", "line", "row", "word"] "book_in" (defScope st_book_in) f cdv A outer s H E) (WD E) := takes_of rfl rfl rfl rfl
  have hp : PassesOwn (model P w) (cxOf (L2.CX P w) P w K mg base ["value", "rows", "notes", "counts", "line", "row", "word"] "book_in" (defScope st_book_in) f cdv A outer s H E).A (cxOf (L2.CX P w) P w K mg base ["value", "rows", "notes", "counts", "line", "row", "word"] "book_in" (defScope st_book_in) f cdv A outer s H E).env (cxOf (L2.CX P w) P w K mg base ["value", "rows", "notes", "counts", "line", "row", "word"] "book_in" (defScope st_book_in) f cdv A outer s H E).xe := passes_of rfl
  have nd := sc_book_in.nd
  have hu := hr.units
  exact (dss_cons (ds_setLc 1 rfl nd rfl (di_seq (de_split (de_var 0) (da_cons de_str da_nil))) (own := [("line", 4)]) (blkOk_by (by kernel_rfl)) (by decide) (fun _ => (dg_name 4 nd)) (fun _ => dts_nil) (fun _ => (de_split (de_var 4) (da_cons de_str da_nil))) (sw_true rfl rfl rfl rfl))
  (dss_cons (ds_if (dw_dt (dw_or (tc hu (bLen (da_cons (de_var 1) da_nil) B.b_len) de_int) (dw_or (tc hu (bLen (da_cons (di (de_var 1) de_int) da_nil) B.b_len) de_int) (dw_or (tc hu (di (di (de_var 1) de_int) de_int) de_str) (dw_or1 (tc hu (di (di (de_var 1) (de_neg de_int)) de_int) de_str)))))) (dss_one (ds_ret (de_tup da_nil))) dss_nil)
  (dss_cons (ds_if (dt_not (dt_val (bAll rfl (da_cons (DF.de (df_lc rfl nd (di_seq (de_sl (de_var 1) (do_some de_int) (do_some (de_neg de_int)))) (own := [("row", 5)]) (blkOk_by (by kernel_rfl)) (by decide) (fun _ => (dg_name 5 nd)) (fun _ => dts_nil) (fun _ => (dc hu (di (de_var 5) de_int) de_str)))) da_nil) B.b_all))) (dss_one (ds_ret (de_tup da_nil))) dss_nil)
  (dss_cons (ds_set 2 (bTup (da_cons (DF.de (df_lc rfl nd (di_seq (de_sl (de_var 1) (do_some de_int) (do_some (de_neg de_int)))) (own := [("row", 5)]) (blkOk_by (by kernel_rfl)) (by decide) (fun _ => (dg_name 5 nd)) (fun _ => dts_nil) (fun _ => (bTup (da_cons (DF.de (df_lc rfl nd (di_seq (de_sl (de_var 5) (do_some de_int) do_none)) (own := [("word", 6)]) (blkOk_by (by kernel_rfl)) (by decide) (fun _ => (dg_name 6 nd)) (fun _ => dts_nil) (fun _ => (dcP c_number_of hr (by omega) takes0 (da_cons (de_var 6) da_nil))))) da_nil) B.b_tuple)))) da_nil) B.b_tuple) nd)
  (dss_cons (ds_set 3 (bTup (da_cons (DF.de (df_lc rfl nd (di_seq (de_sl (di (de_var 1) (de_neg de_int)) (do_some de_int) do_none)) (own := [("word", 6)]) (blkOk_by (by kernel_rfl)) (by decide) (fun _ => (dg_name 6 nd)) (fun _ => dts_nil) (fun _ => (de_if (tc hu (de_var 6) (dgS B.g_STAR)) de_non (dcP c_number_of hr (by omega) takes0 (da_cons (de_var 6) da_nil)))))) da_nil) B.b_tuple) nd)
  (dss_one (ds_ret (de_tup (da_cons (dcP c_number_of hr (by omega) tk (da_cons (di (di (de_var 1) de_int) de_int) da_nil)) (da_cons (de_var 2) (da_cons (de_var 3) da_nil)))))))))))
abbrev st_read_book : Stmt := topS 84
theorem sc_read_book : FnScope ["value", "found"] ["value"] (defScope st_read_book) := ⟨rfl, rfl, rfl, by decide +kernel, rfl, by decide +kernel, by decide +kernel⟩
theorem ok_read_book (B : Bu mg) (e : En K mg "read_book" "read_book" "read_book" st_read_book ["value"]) (c_book_in : ClP P w K mg base 2 "book_in" ["value"] g_book_in) (c_is_book : ClP P w K mg base 3 "is_book" ["value"] g_is_book) : ClP P w K mg base 4 "read_book" ["value"] (g_read_book) :=
  cl_P e sc_read_book (by decide) fun f cdv A outer s H E hr => by
  have tk : Takes (cxOf (L2.CX P w) P w K mg base ["value", "found"] "read_book" (defScope st_read_book) f cdv A outer s H E) (WD E) := takes_of rfl rfl rfl rfl
  have hp : PassesOwn (model P w) (cxOf (L2.CX P w) P w K mg base ["value", "found"] "read_book" (defScope st_read_book) f cdv A outer s H E).A (cxOf (L2.CX P w) P w K mg base ["value", "found"] "read_book" (defScope st_read_book) f cdv A outer s H E).env (cxOf (L2.CX P w) P w K mg base ["value", "found"] "read_book" (defScope st_read_book) f cdv A outer s H E).xe := passes_of rfl
  have nd := sc_read_book.nd
  have hu := hr.units
  exact (dss_cons (ds_set 1 (de_if (dt_val (bIsi .str bt_str (de_var 0) B.b_isinstance B.b_str)) (dcP c_book_in hr (by omega) tk (da_cons (de_var 0) da_nil)) (de_tup da_nil)) nd)
  (dss_cons (ds_if (dt_not (dt_val (dcP c_is_book hr (by omega) tk (da_cons (de_var 1) da_nil)))) (dss_one ds_no) dss_nil)
  (dss_one (ds_ret (de_var 1)))))
abbrev st__law_bin : Stmt := topS 86
theorem sc__law_bin : FnScope ["_law_script", "_law_k", "_law_cell"] ["_law_script", "_law_k"] (defScope st__law_bin) := ⟨rfl, rfl, rfl, by decide +kernel, rfl, by decide +kernel, by decide +kernel⟩
theorem ok__law_bin (B : Bu mg) (e : En K mg "_law_bin" "_law_bin" "_law_bin" st__law_bin ["_law_script", "_law_k"])  : ClF P w K mg base 1 "_law_bin" ["_law_script", "_law_k"] (g__law_bin) :=
  cl_F e sc__law_bin (by decide) fun f cdv A outer s H E hr => by
  have tk : Takes (cxOf (L2.CX P w) P w K mg base ["_law_script", "_law_k", "_law_cell"] "_law_bin" (defScope st__law_bin) f cdv A outer s H E) (WD E) := takes_of rfl rfl rfl rfl
  have hp : PassesOwn (model P w) (cxOf (L2.CX P w) P w K mg base ["_law_script", "_law_k", "_law_cell"] "_law_bin" (defScope st__law_bin) f cdv A outer s H E).A (cxOf (L2.CX P w) P w K mg base ["_law_script", "_law_k", "_law_cell"] "_law_bin" (defScope st__law_bin) f cdv A outer s H E).env (cxOf (L2.CX P w) P w K mg base ["_law_script", "_law_k", "_law_cell"] "_law_bin" (defScope st__law_bin) f cdv A outer s H E).xe := passes_of rfl
  have nd := sc__law_bin.nd
  have hu := hr.units
  exact (dss_cons (ds_set 2 (de_if (tc hu (de_var 1) (bLen (da_cons (de_var 0) da_nil) B.b_len)) (bAbs (da_cons (bInt (da_cons (di (de_var 0) (de_var 1)) da_nil) B.b_int) da_nil) B.b_abs) (de_add (de_mul de_int (de_var 1)) de_int)) nd)
  (dss_one (ds_retLst (da_cons (de_if (tc hu (de_var 2) (de_pow de_int de_int)) (de_var 2) de_int) (da_cons (de_add (de_mod (bInt (da_cons (de_add (de_add (de_mul (de_var 2) de_int) (de_mul de_int (de_var 1))) de_int) da_nil) B.b_int) de_int) de_int) da_nil)))))
abbrev st__law_grab : Stmt := topS 87
theorem sc__law_grab : FnScope ["_law_urn", "_law_wide", "_law_part", "_law_far"] ["_law_urn", "_law_wide"] (defScope st__law_grab) := ⟨rfl, rfl, rfl, by decide +kernel, rfl, by decide +kernel, by decide +kernel⟩
theorem ok__law_grab (B : Bu mg) (e : En K mg "_law_grab" "_law_grab" "_law_grab" st__law_grab ["_law_urn", "_law_wide"])  : ClU P w K mg base 1 "_law_grab" ["_law_urn", "_law_wide"] (g__law_grab) :=
  cl_U e sc__law_grab (by decide) fun f cdv A outer s H E hr => by
  have tk : Takes (cxOf (L2.CX P w) P w K mg base ["_law_urn", "_law_wide", "_law_part", "_law_far"] "_law_grab" (defScope st__law_grab) f cdv A outer s H E) (WD E) := takes_of rfl rfl rfl rfl
  have hp : PassesOwn (model P w) (cxOf (L2.CX P w) P w K mg base ["_law_urn", "_law_wide", "_law_part", "_law_far"] "_law_grab" (defScope st__law_grab) f cdv A outer s H E).A (cxOf (L2.CX P w) P w K mg base ["_law_urn", "_law_wide", "_law_part", "_law_far"] "_law_grab" (defScope st__law_grab) f cdv A outer s H E).env (cxOf (L2.CX P w) P w K mg base ["_law_urn", "_law_wide", "_law_part", "_law_far"] "_law_grab" (defScope st__law_grab) f cdv A outer s H E).xe := passes_of rfl
  have nd := sc__law_grab.nd
  have hu := hr.units
  exact (dss_cons (ds_if (tc hu (dix 0 de_int) de_int) (dss_cons (ds_set 2 (de_mod (bInt (da_cons (dix 0 de_int) da_nil) B.b_int) (de_var 1)) nd)
  (dss_cons (ds_store 0 (de_div (dix 0 de_int) (de_var 1)) de_int)
  (dss_one (ds_ret (de_var 2))))) dss_nil)
  (dss_cons (ds_store 0 (de_mod (bInt (da_cons (de_add (de_mul (dix 0 de_int) de_int) de_int) da_nil) B.b_int) de_int) de_int)
  (dss_cons (ds_set 3 (de_mod (bInt (da_cons (de_mul (dix 0 de_int) (de_add (de_div (dix 0 de_int) de_int) de_int)) da_nil) B.b_int) de_int) nd)
  (dss_one (ds_ret (de_mod (bInt (da_cons (de_div (de_var 3) de_int) da_nil) B.b_int) (de_var 1)))))))
abbrev st__law_chain : Stmt := topS 89
theorem sc__law_chain : FnScope ["_law_many", "_law_book", "_law_open_so", "_law_found"] ["_law_many"] (defScope st__law_chain) := ⟨rfl, rfl, rfl, by decide +kernel, rfl, by decide +kernel, by decide +kernel⟩
theorem ok__law_chain (B : Bu mg) (e : En K mg "_law_chain" "_law_chain" "_law_chain" st__law_chain ["_law_many"]) (c_nets : ClP P w K mg base 5 "nets" ["book"] g_nets) (c_lacks : ClP P w K mg base 5 "lacks" ["book"] g_lacks) (c_least_error : ClP P w K mg base 5 "least_error" ["book"] g_least_error) (c_truth : ClP P w K mg base 5 "truth" ["book"] g_truth) (c_shown : ClP P w K mg base 5 "shown" ["book", "prices"] g_shown) (c_owes : ClP P w K mg base 9 "owes" ["book", "slack", "house", "other"] g_owes) (c_is_wrong : ClP P w K mg base 9 "is_wrong" ["book", "slack", "house", "other"] g_is_wrong) (c_count_of : ClP P w K mg base 6 "count_of" ["book", "slack", "house"] g_count_of) (c_best_counted : ClP P w K mg base 6 "best_counted" ["book", "slack"] g_best_counted) (c_needless : ClP P w K mg base 5 "needless" ["book"] g_needless) (c_fewest_wrong : ClP P w K mg base 12 "fewest_wrong" ["book"] g_fewest_wrong) : ClP P w K mg base 13 "_law_chain" ["_law_many"] (g__law_chain) :=
  cl_P e sc__law_chain (by decide) fun f cdv A outer s H E hr => by
  have tk : Takes (cxOf (L2.CX P w) P w K mg base ["_law_many", "_law_book", "_law_open_so", "_law_found"] "_law_chain" (defScope st__law_chain) f cdv A outer s H E) (WD E) := takes_of rfl rfl rfl rfl
  have hp : PassesOwn (model P w) (cxOf (L2.CX P w) P w K mg base ["_law_many", "_law_book", "_law_open_so", "_law_found"] "_law_chain" (defScope st__law_chain) f cdv A outer s H E).A (cxOf (L2.CX P w) P w K mg base ["_law_many", "_law_book", "_law_open_so", "_law_found"] "_law_chain" (defScope st__law_chain) f cdv A outer s H E).env (cxOf (L2.CX P w) P w K mg base ["_law_many", "_law_book", "_law_open_so", "_law_found"] "_law_chain" (defScope st__law_chain) f cdv A outer s H E).xe := passes_of rfl
  have nd := sc__law_chain.nd
  have hu := hr.units
  exact (dss_cons (ds_set 1 (de_tup (da_cons de_int (da_cons (de_tup (da_cons (de_tup (da_cons de_int (da_cons de_int (da_cons (de_add de_int (de_var 0)) da_nil)))) (da_cons (de_tup (da_cons de_int (da_cons de_int (da_cons de_int da_nil)))) da_nil))) (da_cons (de_tup (da_cons (de_sub (de_neg de_int) (de_var 0)) (da_cons (de_add de_int (de_var 0)) (da_cons de_int da_nil)))) da_nil)))) nd)
  (dss_cons (ds_set 2 (de_add (de_sl (de_var 1) do_none (do_some de_int)) (de_tup (da_cons (de_tup (da_cons de_non (da_cons (de_add de_int (de_var 0)) (da_cons de_non da_nil)))) da_nil))) nd)
  (dss_cons (DF.own 3 (df_lst (da_cons (dc hu (dcP c_nets hr (by omega) tk (da_cons (de_var 1) da_nil)) (de_tup (da_cons (de_add de_int (de_var 0)) (da_cons de_int (da_cons de_int da_nil))))) (da_cons (dc hu (dcP c_lacks hr (by omega) tk (da_cons (de_var 1) da_nil)) (de_tup (da_cons de_int (da_cons (de_neg de_int) (da_cons de_int da_nil))))) (da_cons (dc hu (dcP c_least_error hr (by omega) tk (da_cons (de_var 1) da_nil)) de_int) da_nil)))) nd)
  (dss_cons (ds_append 3 (de_and (dc hu (dcP c_truth hr (by omega) tk (da_cons (de_var 1) da_nil)) (de_tup (da_cons (de_add de_int (de_var 0)) (da_cons de_int (da_cons de_int da_nil))))) (de_and (dc hu (dcP c_shown hr (by omega) tk (da_cons (de_var 1) (da_cons (de_tup (da_cons de_int (da_cons de_int (da_cons de_int da_nil)))) da_nil))) de_int) (de_one (dc hu (dcP c_shown hr (by omega) tk (da_cons (de_var 1) (da_cons (de_tup (da_cons de_int (da_cons (de_neg de_int) (da_cons de_int da_nil)))) da_nil))) de_int)))))
  (dss_cons (ds_append 3 (de_and (dc hu (dcP c_owes hr (by omega) tk (da_cons (de_var 1) (da_cons de_int (da_cons de_int (da_cons de_int da_nil))))) (de_tup (da_cons (de_add de_int (de_var 0)) (da_cons (de_add de_int (de_var 0)) da_nil)))) (de_one (dc hu (dcP c_owes hr (by omega) tk (da_cons (de_var 1) (da_cons de_int (da_cons de_int (da_cons de_int da_nil))))) (de_tup (da_cons (de_add de_int (de_var 0)) (da_cons (de_add de_int (de_var 0)) da_nil)))))))
  (dss_cons (ds_append 3 (de_and (dc hu (dcP c_owes hr (by omega) tk (da_cons (de_var 1) (da_cons de_int (da_cons de_int (da_cons de_int da_nil))))) (de_tup (da_cons (de_add de_int (de_var 0)) (da_cons (de_add de_int (de_var 0)) da_nil)))) (de_one (dc hu (dcP c_owes hr (by omega) tk (da_cons (de_var 1) (da_cons de_int (da_cons de_int (da_cons de_int da_nil))))) (de_tup (da_cons de_int (da_cons de_int da_nil)))))))
  (dss_cons (ds_append 3 (de_and (dc hu (dcP c_owes hr (by omega) tk (da_cons (de_var 2) (da_cons de_int (da_cons de_int (da_cons de_int da_nil))))) (de_tup (da_cons (de_add de_int (de_var 0)) (da_cons (de_add de_int (de_var 0)) da_nil)))) (de_one (dc hu (dcP c_is_wrong hr (by omega) tk (da_cons (de_var 2) (da_cons de_int (da_cons de_int (da_cons de_int da_nil))))) de_str))))
  (dss_cons (ds_append 3 (de_and (dc hu (dcP c_is_wrong hr (by omega) tk (da_cons (de_var 1) (da_cons de_int (da_cons de_int (da_cons de_int da_nil))))) de_str) (de_one (dc hu (dcP c_is_wrong hr (by omega) tk (da_cons (de_var 1) (da_cons de_int (da_cons de_int (da_cons de_int da_nil))))) de_str))))
  (dss_cons (ds_append 3 (dc hu (dcP c_count_of hr (by omega) tk (da_cons (de_var 2) (da_cons de_int (da_cons de_int da_nil)))) (de_tup (da_cons (de_sub (de_neg de_int) (de_var 0)) (da_cons (de_sub (de_neg de_int) (de_var 0)) da_nil)))))
  (dss_cons (ds_append 3 (dc hu (dcP c_count_of hr (by omega) tk (da_cons (de_var 2) (da_cons de_int (da_cons de_int da_nil)))) (de_tup (da_cons (de_sub (de_neg de_int) (de_var 0)) (da_cons (de_sub (de_neg de_int) (de_var 0)) da_nil)))))
  (dss_one (ds_ret (de_add (de_var 3) (de_lst (da_cons (de_and (dc hu (dcP c_best_counted hr (by omega) tk (da_cons (de_var 2) (da_cons de_int da_nil))) de_int) (de_and (dc hu (dcP c_needless hr (by omega) tk (da_cons (de_var 1) da_nil)) (de_lst (da_cons de_int (da_cons de_int (da_cons de_int da_nil))))) (de_one (dc hu (dcP c_fewest_wrong hr (by omega) tk (da_cons (de_var 1) da_nil)) de_int)))) da_nil)))))))))))))))
abbrev st__law_doubled : Stmt := topS 90
theorem sc__law_doubled : FnScope ["_law_many", "_law_twice", "_law_found", "_law_due"] ["_law_many"] (defScope st__law_doubled) := ⟨rfl, rfl, rfl, by decide +kernel, rfl, by decide +kernel, by decide +kernel⟩
theorem ok__law_doubled (B : Bu mg) (e : En K mg "_law_doubled" "_law_doubled" "_law_doubled" st__law_doubled ["_law_many"]) (c_least_error : ClP P w K mg base 5 "least_error" ["book"] g_least_error) (c_truth : ClP P w K mg base 5 "truth" ["book"] g_truth) (c_owes : ClP P w K mg base 9 "owes" ["book", "slack", "house", "other"] g_owes) (c_fewest_wrong : ClP P w K mg base 12 "fewest_wrong" ["book"] g_fewest_wrong) (c_prices : ClP P w K mg base 5 "prices" ["book"] g_prices) : ClP P w K mg base 13 "_law_doubled" ["_law_many"] (g__law_doubled) :=
  cl_P e sc__law_doubled (by decide) fun f cdv A outer s H E hr => by
  have tk : Takes (cxOf (L2.CX P w) P w K mg base ["_law_many", "_law_twice", "_law_found", "_law_due"] "_law_doubled" (defScope st__law_doubled) f cdv A outer s H E) (WD E) := takes_of rfl rfl rfl rfl
  have hp : PassesOwn (model P w) (cxOf (L2.CX P w) P w K mg base ["_law_many", "_law_twice", "_law_found", "_law_due"] "_law_doubled" (defScope st__law_doubled) f cdv A outer s H E).A (cxOf (L2.CX P w) P w K mg base ["_law_many", "_law_twice", "_law_found", "_law_due"] "_law_doubled" (defScope st__law_doubled) f cdv A outer s H E).env (cxOf (L2.CX P w) P w K mg base ["_law_many", "_law_twice", "_law_found", "_law_due"] "_law_doubled" (defScope st__law_doubled) f cdv A outer s H E).xe := passes_of rfl
  have nd := sc__law_doubled.nd
  have hu := hr.units
  exact (dss_cons (ds_set 1 (de_tup (da_cons (de_tup (da_cons de_int (da_cons de_int (da_cons (de_var 0) da_nil)))) (da_cons (de_tup (da_cons de_int (da_cons de_int (da_cons (de_var 0) da_nil)))) da_nil))) nd)
  (dss_cons (DF.own 2 (df_lst (da_cons (dc hu (dcP c_least_error hr (by omega) tk (da_cons (de_tup (da_cons de_int (da_cons (de_var 1) (da_cons (de_tup (da_cons de_non (da_cons (de_var 0) da_nil))) da_nil)))) da_nil)) (de_var 0)) (da_cons (dc hu (dcP c_truth hr (by omega) tk (da_cons (de_tup (da_cons de_int (da_cons (de_var 1) (da_cons (de_tup (da_cons (de_neg (de_var 0)) (da_cons (de_var 0) da_nil))) da_nil)))) da_nil)) (de_tup (da_cons (de_var 0) da_nil))) da_nil))) nd)
  (dss_cons (ds_append 2 (dc hu (dcP c_least_error hr (by omega) tk (da_cons (de_tup (da_cons de_int (da_cons (de_var 1) (da_cons (de_tup (da_cons (de_neg (de_var 0)) (da_cons (de_mul de_int (de_var 0)) da_nil))) da_nil)))) da_nil)) de_non))
  (dss_cons (ds_append 2 (dc hu (dcP c_owes hr (by omega) tk (da_cons (de_tup (da_cons de_int (da_cons (de_var 1) (da_cons (de_tup (da_cons de_non (da_cons (de_var 0) da_nil))) da_nil)))) (da_cons (de_var 0) (da_cons de_int (da_cons de_int da_nil))))) (de_tup (da_cons (de_var 0) (da_cons (de_var 0) da_nil)))))
  (dss_cons (ds_append 2 (dc hu (dcP c_owes hr (by omega) tk (da_cons (de_tup (da_cons de_int (da_cons (de_var 1) (da_cons (de_tup (da_cons de_non (da_cons (de_var 0) (da_cons de_non da_nil)))) da_nil)))) (da_cons (de_var 0) (da_cons de_int (da_cons de_int da_nil))))) (de_tup (da_cons (de_var 0) (da_cons (de_mul de_int (de_var 0)) da_nil)))))
  (dss_cons (ds_append 2 (dc hu (dcP c_owes hr (by omega) tk (da_cons (de_tup (da_cons de_int (da_cons (de_var 1) (da_cons (de_tup (da_cons de_non (da_cons (de_var 0) (da_cons de_int da_nil)))) da_nil)))) (da_cons (de_var 0) (da_cons de_int (da_cons de_int da_nil))))) (de_tup (da_cons (de_var 0) (da_cons (de_var 0) da_nil)))))
  (dss_cons (ds_set 3 (de_tup (da_cons (de_sub (de_mul de_int (de_var 0)) (de_div (de_mul de_int (de_var 0)) de_int)) (da_cons (de_add (de_mul de_int (de_var 0)) (de_div (de_var 0) de_int)) da_nil))) nd)
  (dss_cons (ds_append 2 (dc hu (dcP c_owes hr (by omega) tk (da_cons (de_tup (da_cons de_int (da_cons (de_var 1) (da_cons (de_tup (da_cons de_non (da_cons (de_var 0) (da_cons de_int da_nil)))) da_nil)))) (da_cons (de_mul de_int (de_var 0)) (da_cons de_int (da_cons de_int da_nil))))) (de_var 3)))
  (dss_one (ds_ret (de_add (de_var 2) (de_lst (da_cons (de_and (dc hu (dcP c_fewest_wrong hr (by omega) tk (da_cons (de_tup (da_cons de_int (da_cons (de_var 1) (da_cons (de_tup (da_cons de_non (da_cons (de_var 0) (da_cons de_int da_nil)))) da_nil)))) da_nil)) de_int) (de_one (dc hu (dcP c_prices hr (by omega) tk (da_cons (de_tup (da_cons de_int (da_cons (de_var 1) (da_cons (de_tup (da_cons de_non (da_cons (de_var 0) da_nil))) da_nil)))) da_nil)) (de_tup (da_cons de_int (da_cons (de_neg de_int) da_nil)))))) da_nil)))))))))))))
abbrev st__law_evened : Stmt := topS 91
theorem sc__law_evened : FnScope ["_law_many", "_law_found"] ["_law_many"] (defScope st__law_evened) := ⟨rfl, rfl, rfl, by decide +kernel, rfl, by decide +kernel, by decide +kernel⟩
theorem ok__law_evened (B : Bu mg) (e : En K mg "_law_evened" "_law_evened" "_law_evened" st__law_evened ["_law_many"]) (c_fewest_ways : ClP P w K mg base 13 "fewest_ways" ["balances"] g_fewest_ways) (c_ways : ClP P w K mg base 13 "ways" ["balances"] g_ways) (c_evens : ClP P w K mg base 3 "evens" ["balances", "value"] g_evens) : ClP P w K mg base 14 "_law_evened" ["_law_many"] (g__law_evened) :=
  cl_P e sc__law_evened (by decide) fun f cdv A outer s H E hr => by
  have tk : Takes (cxOf (L2.CX P w) P w K mg base ["_law_many", "_law_found"] "_law_evened" (defScope st__law_evened) f cdv A outer s H E) (WD E) := takes_of rfl rfl rfl rfl
  have hp : PassesOwn (model P w) (cxOf (L2.CX P w) P w K mg base ["_law_many", "_law_found"] "_law_evened" (defScope st__law_evened) f cdv A outer s H E).A (cxOf (L2.CX P w) P w K mg base ["_law_many", "_law_found"] "_law_evened" (defScope st__law_evened) f cdv A outer s H E).env (cxOf (L2.CX P w) P w K mg base ["_law_many", "_law_found"] "_law_evened" (defScope st__law_evened) f cdv A outer s H E).xe := passes_of rfl
  have nd := sc__law_evened.nd
  have hu := hr.units
  exact (dss_cons (DF.own 1 (df_lst (da_cons (dc hu (dcP c_fewest_ways hr (by omega) tk (da_cons (de_tup (da_cons (de_mul de_int (de_var 0)) (da_cons (de_mul (de_neg de_int) (de_var 0)) da_nil))) da_nil)) de_int) (da_cons (dc hu (dcP c_ways hr (by omega) tk (da_cons (de_tup (da_cons (de_mul de_int (de_var 0)) (da_cons (de_mul (de_neg de_int) (de_var 0)) da_nil))) da_nil)) (de_tup (da_cons (de_tup (da_cons de_int (da_cons de_int (da_cons (de_mul de_int (de_var 0)) da_nil)))) da_nil))) da_nil))) nd)
  (dss_cons (ds_append 1 (dc hu (dcP c_fewest_ways hr (by omega) tk (da_cons (de_tup (da_cons (de_mul de_int (de_var 0)) (da_cons (de_mul de_int (de_var 0)) (da_cons (de_mul (de_neg de_int) (de_var 0)) (da_cons (de_mul (de_neg de_int) (de_var 0)) da_nil))))) da_nil)) de_int))
  (dss_cons (ds_append 1 (dc hu (dcP c_fewest_ways hr (by omega) tk (da_cons (de_tup (da_cons (de_mul de_int (de_var 0)) (da_cons (de_mul de_int (de_var 0)) (da_cons (de_mul (de_neg de_int) (de_var 0)) (da_cons (de_mul (de_neg de_int) (de_var 0)) (da_cons (de_mul (de_neg de_int) (de_var 0)) da_nil)))))) da_nil)) de_int))
  (dss_cons (ds_append 1 (dcP c_evens hr (by omega) tk (da_cons (de_tup (da_cons (de_mul de_int (de_var 0)) (da_cons (de_mul (de_neg de_int) (de_var 0)) (da_cons (de_mul (de_neg de_int) (de_var 0)) da_nil)))) (da_cons (de_tup (da_cons (de_tup (da_cons de_int (da_cons de_int (da_cons (de_mul de_int (de_var 0)) da_nil)))) (da_cons (de_tup (da_cons de_int (da_cons de_int (da_cons (de_mul de_int (de_var 0)) da_nil)))) da_nil))) da_nil))))
  (dss_cons (ds_append 1 (dcP c_evens hr (by omega) tk (da_cons (de_tup (da_cons (de_mul de_int (de_var 0)) (da_cons (de_mul (de_neg de_int) (de_var 0)) (da_cons (de_mul (de_neg de_int) (de_var 0)) da_nil)))) (da_cons (de_tup (da_cons (de_tup (da_cons de_int (da_cons de_int (da_cons (de_mul de_int (de_var 0)) da_nil)))) (da_cons (de_tup (da_cons de_int (da_cons de_int (da_cons (de_mul de_int (de_var 0)) da_nil)))) da_nil))) da_nil))))
  (dss_one (ds_ret (de_add (de_var 1) (de_lst (da_cons (de_and (de_not (dcP c_evens hr (by omega) tk (da_cons (de_tup (da_cons (de_mul de_int (de_var 0)) (da_cons (de_mul (de_neg de_int) (de_var 0)) (da_cons (de_mul (de_neg de_int) (de_var 0)) da_nil)))) (da_cons (de_tup (da_cons (de_tup (da_cons de_int (da_cons de_int (da_cons (de_mul de_int (de_var 0)) da_nil)))) da_nil)) da_nil)))) (de_one (dc hu (dcP c_ways hr (by omega) tk (da_cons (de_tup (da_cons de_int (da_cons de_int (da_cons de_int da_nil)))) da_nil)) (de_tup da_nil)))) da_nil))))))))))
abbrev st__law_written : Stmt := topS 92
theorem sc__law_written : FnScope ["_law_four", "_law_two", "_law_found"] [] (defScope st__law_written) := ⟨rfl, rfl, rfl, by decide +kernel, rfl, by decide +kernel, by decide +kernel⟩
theorem ok__law_written (B : Bu mg) (e : En K mg "_law_written" "_law_written" "_law_written" st__law_written []) (c_nets : ClP P w K mg base 5 "nets" ["book"] g_nets) (c_lacks : ClP P w K mg base 5 "lacks" ["book"] g_lacks) (c_least_error : ClP P w K mg base 5 "least_error" ["book"] g_least_error) (c_owes : ClP P w K mg base 9 "owes" ["book", "slack", "house", "other"] g_owes) (c_count_of : ClP P w K mg base 6 "count_of" ["book", "slack", "house"] g_count_of) (c_fewest_wrong : ClP P w K mg base 12 "fewest_wrong" ["book"] g_fewest_wrong) (c_few_truth : ClP P w K mg base 12 "few_truth" ["book"] g_few_truth) (c_error_of : ClP P w K mg base 5 "error_of" ["book", "value"] g_error_of) (c_who_owes : ClP P w K mg base 9 "who_owes" ["book", "slack", "house", "other"] g_who_owes) (c_book_text : ClP P w K mg base 5 "book_text" ["book"] g_book_text) (c_read_book : ClP P w K mg base 4 "read_book" ["value"] g_read_book) : ClP P w K mg base 13 "_law_written" [] (g__law_written) :=
  cl_P e sc__law_written (by decide) fun f cdv A outer s H E hr => by
  have tk : Takes (cxOf (L2.CX P w) P w K mg base ["_law_four", "_law_two", "_law_found"] "_law_written" (defScope st__law_written) f cdv A outer s H E) (WD E) := takes_of rfl rfl rfl rfl
  have hp : PassesOwn (model P w) (cxOf (L2.CX P w) P w K mg base ["_law_four", "_law_two", "_law_found"] "_law_written" (defScope st__law_written) f cdv A outer s H E).A (cxOf (L2.CX P w) P w K mg base ["_law_four", "_law_two", "_law_found"] "_law_written" (defScope st__law_written) f cdv A outer s H E).env (cxOf (L2.CX P w) P w K mg base ["_law_four", "_law_two", "_law_found"] "_law_written" (defScope st__law_written) f cdv A outer s H E).xe := passes_of rfl
  have nd := sc__law_written.nd
  have hu := hr.units
  exact (dss_cons (ds_unp (de_tup (da_cons (de_tup (da_cons de_int (da_cons (de_tup (da_cons (de_tup (da_cons de_int (da_cons de_int (da_cons de_int da_nil)))) (da_cons (de_tup (da_cons de_int (da_cons de_int (da_cons de_int da_nil)))) (da_cons (de_tup (da_cons de_int (da_cons de_int (da_cons de_int da_nil)))) da_nil)))) (da_cons (de_tup (da_cons (de_neg de_int) (da_cons de_int (da_cons (de_neg de_int) (da_cons de_non da_nil))))) da_nil)))) (da_cons (de_tup (da_cons de_int (da_cons (de_tup (da_cons (de_tup (da_cons de_int (da_cons de_int (da_cons de_int da_nil)))) da_nil)) (da_cons (de_tup (da_cons de_non (da_cons de_non da_nil))) da_nil)))) da_nil))) (dg_tup rfl (dgs_cons 0 (dgs_cons 1 dgs_nil nd) nd)))
  (dss_cons (DF.own 2 (df_lst (da_cons (dc hu (dcP c_nets hr (by omega) tk (da_cons (de_var 0) da_nil)) (de_tup (da_cons de_int (da_cons de_int (da_cons de_int (da_cons de_int (da_cons de_int (da_cons de_int da_nil)))))))) (da_cons (dc hu (dcP c_lacks hr (by omega) tk (da_cons (de_var 0) da_nil)) (de_tup (da_cons de_int (da_cons de_int (da_cons (de_neg de_int) (da_cons de_non da_nil)))))) (da_cons (dc hu (dcP c_least_error hr (by omega) tk (da_cons (de_var 0) da_nil)) de_int) da_nil)))) nd)
  (dss_cons (ds_append 2 (de_and (dc hu (dcP c_owes hr (by omega) tk (da_cons (de_var 0) (da_cons de_int (da_cons de_int (da_cons de_int da_nil))))) (de_tup (da_cons de_int (da_cons de_int da_nil)))) (de_and (dc hu (dcP c_count_of hr (by omega) tk (da_cons (de_var 0) (da_cons de_int (da_cons de_int da_nil)))) (de_tup (da_cons de_int (da_cons de_int da_nil)))) (de_one (dc hu (dcP c_fewest_wrong hr (by omega) tk (da_cons (de_var 0) da_nil)) de_int)))))
  (dss_cons (ds_append 2 (de_and (dc hu (dcP c_few_truth hr (by omega) tk (da_cons (de_var 0) da_nil)) (de_tup (da_cons de_int (da_cons de_int (da_cons de_int (da_cons (de_neg de_int) (da_cons de_int (da_cons de_int da_nil)))))))) (de_and (dc hu (dcP c_owes hr (by omega) tk (da_cons (de_var 1) (da_cons de_int (da_cons de_int (da_cons de_int da_nil))))) (de_tup (da_cons de_int (da_cons de_int da_nil)))) (de_one (dc hu (dcP c_error_of hr (by omega) tk (da_cons (de_var 1) (da_cons (de_tup (da_cons (de_neg de_int) da_nil)) da_nil))) de_int)))))
  (dss_cons (ds_append 2 (de_and (dc hu (dcP c_who_owes hr (by omega) tk (da_cons (de_var 1) (da_cons de_int (da_cons de_int (da_cons de_int da_nil))))) de_str) (de_one (dc hu (dcP c_who_owes hr (by omega) tk (da_cons (de_var 1) (da_cons de_int (da_cons de_int (da_cons de_int da_nil))))) de_str))))
  (dss_cons (ds_append 2 (de_and (dc hu (dcP c_who_owes hr (by omega) tk (da_cons (de_var 1) (da_cons de_int (da_cons de_int (da_cons de_int da_nil))))) de_str) (de_one (dc hu (dcP c_who_owes hr (by omega) tk (da_cons (de_var 1) (da_cons de_int (da_cons de_int (da_cons de_int da_nil))))) de_str))))
  (dss_cons (ds_append 2 (de_and (dc hu (dcP c_fewest_wrong hr (by omega) tk (da_cons (de_tup (da_cons de_int (da_cons (de_tup da_nil) (da_cons (de_tup (da_cons de_int (da_cons (de_neg de_int) (da_cons de_int (da_cons (de_neg de_int) da_nil))))) da_nil)))) da_nil)) de_int) (de_one (dc hu (dcP c_fewest_wrong hr (by omega) tk (da_cons (de_tup (da_cons de_int (da_cons (de_tup da_nil) (da_cons (de_tup (da_cons de_int (da_cons de_int (da_cons de_int (da_cons (de_neg de_int) da_nil))))) da_nil)))) da_nil)) de_int))))
  (dss_one (ds_ret (de_add (de_var 2) (de_lst (da_cons (de_and (dc hu (dcP c_book_text hr (by omega) tk (da_cons (de_var 1) da_nil)) de_str) (de_one (dc hu (dcP c_read_book hr (by omega) tk (da_cons (dcP c_book_text hr (by omega) tk (da_cons (de_var 0) da_nil)) da_nil)) (de_var 0)))) da_nil))))))))))))
abbrev st_law : Stmt := topS 93
theorem sc_law : FnScope ["_law_script", "_law_k", "_law_urn", "_law_many"] ["_law_script"] (defScope st_law) := ⟨rfl, rfl, rfl, by decide +kernel, rfl, by decide +kernel, by decide +kernel⟩
theorem okx_law {f : Addr} {fd : FuncData} (B : Bu mg) (F : Fun K "law" "law" st_law f fd) (c__law_bin : ClF P w K mg base 1 "_law_bin" ["_law_script", "_law_k"] g__law_bin) (c__law_grab : ClU P w K mg base 1 "_law_grab" ["_law_urn", "_law_wide"] g__law_grab) (c__law_chain : ClP P w K mg base 13 "_law_chain" ["_law_many"] g__law_chain) (c__law_doubled : ClP P w K mg base 13 "_law_doubled" ["_law_many"] g__law_doubled) (c__law_evened : ClP P w K mg base 14 "_law_evened" ["_law_many"] g__law_evened) (c__law_written : ClP P w K mg base 13 "_law_written" [] g__law_written) : FnOk P w K mg base (L2.CX P w) 15 f fd ["_law_script"] (spP K mg (g_law)) :=
  fn_P F sc_law (by decide) fun cdv A outer s H E hr => by
  have tk : Takes (cxOf (L2.CX P w) P w K mg base ["_law_script", "_law_k", "_law_urn", "_law_many"] "law" (defScope st_law) f cdv A outer s H E) (WD E) := takes_of rfl rfl rfl rfl
  have hp : PassesOwn (model P w) (cxOf (L2.CX P w) P w K mg base ["_law_script", "_law_k", "_law_urn", "_law_many"] "law" (defScope st_law) f cdv A outer s H E).A (cxOf (L2.CX P w) P w K mg base ["_law_script", "_law_k", "_law_urn", "_law_many"] "law" (defScope st_law) f cdv A outer s H E).env (cxOf (L2.CX P w) P w K mg base ["_law_script", "_law_k", "_law_urn", "_law_many"] "law" (defScope st_law) f cdv A outer s H E).xe := passes_of rfl
  have nd := sc_law.nd
  have hu := hr.units
  exact (dss_cons (ds_for hp rfl (di_range1 (da_cons (bMax2 rfl (da_cons de_int (da_cons (bMin2 rfl (da_cons de_int (da_cons (bLen (da_cons (de_var 0) da_nil) B.b_len) da_nil)) B.b_min) da_nil)) B.b_max) da_nil) (by rfl) B.b_range) (dg_name 1 nd) (dss_cons (DF.own 2 (dcF c__law_bin hr (by omega) tk (da_cons (de_var 0) (da_cons (de_var 1) da_nil))) nd)
  (dss_one (ds_for hp rfl (di_seq (de_tup (da_cons de_int (da_cons (de_add de_int (dcU (i := 2) c__law_grab hr (by omega) tk (da_cons de_int da_nil))) (da_cons (de_add de_int (dcU (i := 2) c__law_grab hr (by omega) tk (da_cons (de_pow de_int de_int) da_nil))) da_nil))))) (dg_name 3 nd) (dss_one (ds_if (dw_dt (dw_or (tc hu de_bl (dcP c__law_chain hr (by omega) tk (da_cons (de_var 3) da_nil))) (dw_or (tc hu de_bl (dcP c__law_doubled hr (by omega) tk (da_cons (de_var 3) da_nil))) (dw_or1 (tc hu de_bl (dcP c__law_evened hr (by omega) tk (da_cons (de_var 3) da_nil))))))) (dss_one (ds_ret de_bl)) dss_nil))))))
  (dss_one (ds_ret (dc hu de_bl (dcP0 c__law_written hr (by omega) tk)))))
end
end Ev
set_option maxHeartbeats 200000
set_option maxHeartbeats 0
namespace Ev
open PySem PySem.Spec L2
section
variable {K : PySem.W.Frag} {mg : Str → Option Value} {h : Heap}
theorem en_is_integer (X : K.In h) (G : h.Ns mainGlobals mg) (c : He.SaysD faAll fnAll K) : En K mg "is_integer" "is_integer" "is_integer" (topS 15) ["value", "low", "high"] := by
  obtain ⟨fd, F⟩ := c.def_ 0 (d := d_is_integer) rfl
  have F : Fun K "is_integer" "is_integer" (topS 15) (He.fAd K ("is_integer", none)) fd := fun_of_D (kws := []) F
  exact ⟨_, fd, F, He.glo_ok X G (c.fact 0 (f := .glo "is_integer") rfl), F.kp, F.binds (fun _ _ _ _ _ _ us hl => match us, hl with | [_, _, _], _ => rfl)⟩
theorem en_is_note (X : K.In h) (G : h.Ns mainGlobals mg) (c : He.SaysD faAll fnAll K) : En K mg "is_note" "is_note" "is_note" (topS 16) ["houses", "value"] := by
  obtain ⟨fd, F⟩ := c.def_ 1 (d := d_is_note) rfl
  have F : Fun K "is_note" "is_note" (topS 16) (He.fAd K ("is_note", none)) fd := fun_of_D (kws := []) F
  exact ⟨_, fd, F, He.glo_ok X G (c.fact 1 (f := .glo "is_note") rfl), F.kp, F.binds (fun _ _ _ _ _ _ us hl => match us, hl with | [_, _], _ => rfl)⟩
theorem en_is_count (X : K.In h) (G : h.Ns mainGlobals mg) (c : He.SaysD faAll fnAll K) : En K mg "is_count" "is_count" "is_count" (topS 17) ["value"] := by
  obtain ⟨fd, F⟩ := c.def_ 2 (d := d_is_count) rfl
  have F : Fun K "is_count" "is_count" (topS 17) (He.fAd K ("is_count", none)) fd := fun_of_D (kws := []) F
  exact ⟨_, fd, F, He.glo_ok X G (c.fact 2 (f := .glo "is_count") rfl), F.kp, F.binds (fun _ _ _ _ _ _ us hl => match us, hl with | [_], _ => rfl)⟩
theorem en_is_book (X : K.In h) (G : h.Ns mainGlobals mg) (c : He.SaysD faAll fnAll K) : En K mg "is_book" "is_book" "is_book" (topS 18) ["value"] := by
  obtain ⟨fd, F⟩ := c.def_ 3 (d := d_is_book) rfl
  have F : Fun K "is_book" "is_book" (topS 18) (He.fAd K ("is_book", none)) fd := fun_of_D (kws := []) F
  exact ⟨_, fd, F, He.glo_ok X G (c.fact 3 (f := .glo "is_book") rfl), F.kp, F.binds (fun _ _ _ _ _ _ us hl => match us, hl with | [_], _ => rfl)⟩
theorem en_need_book (X : K.In h) (G : h.Ns mainGlobals mg) (c : He.SaysD faAll fnAll K) : En K mg "need_book" "need_book" "need_book" (topS 19) ["value"] := by
  obtain ⟨fd, F⟩ := c.def_ 4 (d := d_need_book) rfl
  have F : Fun K "need_book" "need_book" (topS 19) (He.fAd K ("need_book", none)) fd := fun_of_D (kws := []) F
  exact ⟨_, fd, F, He.glo_ok X G (c.fact 4 (f := .glo "need_book") rfl), F.kp, F.binds (fun _ _ _ _ _ _ us hl => match us, hl with | [_], _ => rfl)⟩
theorem en_need_houses (X : K.In h) (G : h.Ns mainGlobals mg) (c : He.SaysD faAll fnAll K) : En K mg "need_houses" "need_houses" "need_houses" (topS 20) ["houses", "house", "other"] := by
  obtain ⟨fd, F⟩ := c.def_ 5 (d := d_need_houses) rfl
  have F : Fun K "need_houses" "need_houses" (topS 20) (He.fAd K ("need_houses", none)) fd := fun_of_D (kws := []) F
  exact ⟨_, fd, F, He.glo_ok X G (c.fact 5 (f := .glo "need_houses") rfl), F.kp, F.binds (fun _ _ _ _ _ _ us hl => match us, hl with | [_, _, _], _ => rfl)⟩
theorem en_need_slack (X : K.In h) (G : h.Ns mainGlobals mg) (c : He.SaysD faAll fnAll K) : En K mg "need_slack" "need_slack" "need_slack" (topS 21) ["value"] := by
  obtain ⟨fd, F⟩ := c.def_ 6 (d := d_need_slack) rfl
  have F : Fun K "need_slack" "need_slack" (topS 21) (He.fAd K ("need_slack", none)) fd := fun_of_D (kws := []) F
  exact ⟨_, fd, F, He.glo_ok X G (c.fact 6 (f := .glo "need_slack") rfl), F.kp, F.binds (fun _ _ _ _ _ _ us hl => match us, hl with | [_], _ => rfl)⟩
theorem en_pairs_of (X : K.In h) (G : h.Ns mainGlobals mg) (c : He.SaysD faAll fnAll K) : En K mg "pairs_of" "pairs_of" "pairs_of" (topS 22) ["houses"] := by
  obtain ⟨fd, F⟩ := c.def_ 7 (d := d_pairs_of) rfl
  have F : Fun K "pairs_of" "pairs_of" (topS 22) (He.fAd K ("pairs_of", none)) fd := fun_of_D (kws := []) F
  exact ⟨_, fd, F, He.glo_ok X G (c.fact 7 (f := .glo "pairs_of") rfl), F.kp, F.binds (fun _ _ _ _ _ _ us hl => match us, hl with | [_], _ => rfl)⟩
theorem en_gone (X : K.In h) (G : h.Ns mainGlobals mg) (c : He.SaysD faAll fnAll K) : En K mg "gone" "gone" "gone" (topS 23) ["notes", "giver", "taker"] := by
  obtain ⟨fd, F⟩ := c.def_ 8 (d := d_gone) rfl
  have F : Fun K "gone" "gone" (topS 23) (He.fAd K ("gone", none)) fd := fun_of_D (kws := []) F
  exact ⟨_, fd, F, He.glo_ok X G (c.fact 8 (f := .glo "gone") rfl), F.kp, F.binds (fun _ _ _ _ _ _ us hl => match us, hl with | [_, _, _], _ => rfl)⟩
theorem en_nets_of (X : K.In h) (G : h.Ns mainGlobals mg) (c : He.SaysD faAll fnAll K) : En K mg "nets_of" "nets_of" "nets_of" (topS 24) ["houses", "notes"] := by
  obtain ⟨fd, F⟩ := c.def_ 9 (d := d_nets_of) rfl
  have F : Fun K "nets_of" "nets_of" (topS 24) (He.fAd K ("nets_of", none)) fd := fun_of_D (kws := []) F
  exact ⟨_, fd, F, He.glo_ok X G (c.fact 9 (f := .glo "nets_of") rfl), F.kp, F.binds (fun _ _ _ _ _ _ us hl => match us, hl with | [_, _], _ => rfl)⟩
theorem en_gain_of (X : K.In h) (G : h.Ns mainGlobals mg) (c : He.SaysD faAll fnAll K) : En K mg "gain_of" "gain_of" "gain_of" (topS 25) ["pairs", "some", "house"] := by
  obtain ⟨fd, F⟩ := c.def_ 10 (d := d_gain_of) rfl
  have F : Fun K "gain_of" "gain_of" (topS 25) (He.fAd K ("gain_of", none)) fd := fun_of_D (kws := []) F
  exact ⟨_, fd, F, He.glo_ok X G (c.fact 10 (f := .glo "gain_of") rfl), F.kp, F.binds (fun _ _ _ _ _ _ us hl => match us, hl with | [_, _, _], _ => rfl)⟩
theorem en_gains_of (X : K.In h) (G : h.Ns mainGlobals mg) (c : He.SaysD faAll fnAll K) : En K mg "gains_of" "gains_of" "gains_of" (topS 26) ["houses", "some"] := by
  obtain ⟨fd, F⟩ := c.def_ 11 (d := d_gains_of) rfl
  have F : Fun K "gains_of" "gains_of" (topS 26) (He.fAd K ("gains_of", none)) fd := fun_of_D (kws := []) F
  exact ⟨_, fd, F, He.glo_ok X G (c.fact 11 (f := .glo "gains_of") rfl), F.kp, F.binds (fun _ _ _ _ _ _ us hl => match us, hl with | [_, _], _ => rfl)⟩
theorem en_lacks_of (X : K.In h) (G : h.Ns mainGlobals mg) (c : He.SaysD faAll fnAll K) : En K mg "lacks_of" "lacks_of" "lacks_of" (topS 27) ["book"] := by
  obtain ⟨fd, F⟩ := c.def_ 12 (d := d_lacks_of) rfl
  have F : Fun K "lacks_of" "lacks_of" (topS 27) (He.fAd K ("lacks_of", none)) fd := fun_of_D (kws := []) F
  exact ⟨_, fd, F, He.glo_ok X G (c.fact 12 (f := .glo "lacks_of") rfl), F.kp, F.binds (fun _ _ _ _ _ _ us hl => match us, hl with | [_], _ => rfl)⟩
theorem en_nets (X : K.In h) (G : h.Ns mainGlobals mg) (c : He.SaysD faAll fnAll K) : En K mg "nets" "nets" "nets" (topS 28) ["book"] := by
  obtain ⟨fd, F⟩ := c.def_ 13 (d := d_nets) rfl
  have F : Fun K "nets" "nets" (topS 28) (He.fAd K ("nets", none)) fd := fun_of_D (kws := []) F
  exact ⟨_, fd, F, He.glo_ok X G (c.fact 13 (f := .glo "nets") rfl), F.kp, F.binds (fun _ _ _ _ _ _ us hl => match us, hl with | [_], _ => rfl)⟩
theorem en_lacks (X : K.In h) (G : h.Ns mainGlobals mg) (c : He.SaysD faAll fnAll K) : En K mg "lacks" "lacks" "lacks" (topS 29) ["book"] := by
  obtain ⟨fd, F⟩ := c.def_ 14 (d := d_lacks) rfl
  have F : Fun K "lacks" "lacks" (topS 29) (He.fAd K ("lacks", none)) fd := fun_of_D (kws := []) F
  exact ⟨_, fd, F, He.glo_ok X G (c.fact 14 (f := .glo "lacks") rfl), F.kp, F.binds (fun _ _ _ _ _ _ us hl => match us, hl with | [_], _ => rfl)⟩
theorem en_sums_of (X : K.In h) (G : h.Ns mainGlobals mg) (c : He.SaysD faAll fnAll K) : En K mg "sums_of" "sums_of" "sums_of" (topS 31) ["lacks"] := by
  obtain ⟨fd, F⟩ := c.def_ 15 (d := d_sums_of) rfl
  have F : Fun K "sums_of" "sums_of" (topS 31) (He.fAd K ("sums_of", none)) fd := fun_of_D (kws := []) F
  exact ⟨_, fd, F, He.glo_ok X G (c.fact 15 (f := .glo "sums_of") rfl), F.kp, F.binds (fun _ _ _ _ _ _ us hl => match us, hl with | [_], _ => rfl)⟩
theorem en_least_by (X : K.In h) (G : h.Ns mainGlobals mg) (c : He.SaysD faAll fnAll K) : En K mg "least_by" "least_by" "least_by" (topS 32) ["lacks"] := by
  obtain ⟨fd, F⟩ := c.def_ 16 (d := d_least_by) rfl
  have F : Fun K "least_by" "least_by" (topS 32) (He.fAd K ("least_by", none)) fd := fun_of_D (kws := []) F
  exact ⟨_, fd, F, He.glo_ok X G (c.fact 16 (f := .glo "least_by") rfl), F.kp, F.binds (fun _ _ _ _ _ _ us hl => match us, hl with | [_], _ => rfl)⟩
theorem en_moves_by (X : K.In h) (G : h.Ns mainGlobals mg) (c : He.SaysD faAll fnAll K) : En K mg "moves_by" "moves_by" "moves_by" (topS 33) ["lacks"] := by
  obtain ⟨fd, F⟩ := c.def_ 17 (d := d_moves_by) rfl
  have F : Fun K "moves_by" "moves_by" (topS 33) (He.fAd K ("moves_by", none)) fd := fun_of_D (kws := []) F
  exact ⟨_, fd, F, He.glo_ok X G (c.fact 17 (f := .glo "moves_by") rfl), F.kp, F.binds (fun _ _ _ _ _ _ us hl => match us, hl with | [_], _ => rfl)⟩
theorem en_truth_by (X : K.In h) (G : h.Ns mainGlobals mg) (c : He.SaysD faAll fnAll K) : En K mg "truth_by" "truth_by" "truth_by" (topS 34) ["book", "moves"] := by
  obtain ⟨fd, F⟩ := c.def_ 18 (d := d_truth_by) rfl
  have F : Fun K "truth_by" "truth_by" (topS 34) (He.fAd K ("truth_by", none)) fd := fun_of_D (kws := []) F
  exact ⟨_, fd, F, He.glo_ok X G (c.fact 18 (f := .glo "truth_by") rfl), F.kp, F.binds (fun _ _ _ _ _ _ us hl => match us, hl with | [_, _], _ => rfl)⟩
theorem en_is_truth (X : K.In h) (G : h.Ns mainGlobals mg) (c : He.SaysD faAll fnAll K) : En K mg "is_truth" "is_truth" "is_truth" (topS 35) ["book", "value"] := by
  obtain ⟨fd, F⟩ := c.def_ 19 (d := d_is_truth) rfl
  have F : Fun K "is_truth" "is_truth" (topS 35) (He.fAd K ("is_truth", none)) fd := fun_of_D (kws := []) F
  exact ⟨_, fd, F, He.glo_ok X G (c.fact 19 (f := .glo "is_truth") rfl), F.kp, F.binds (fun _ _ _ _ _ _ us hl => match us, hl with | [_, _], _ => rfl)⟩
theorem en_least_error (X : K.In h) (G : h.Ns mainGlobals mg) (c : He.SaysD faAll fnAll K) : En K mg "least_error" "least_error" "least_error" (topS 36) ["book"] := by
  obtain ⟨fd, F⟩ := c.def_ 20 (d := d_least_error) rfl
  have F : Fun K "least_error" "least_error" (topS 36) (He.fAd K ("least_error", none)) fd := fun_of_D (kws := []) F
  exact ⟨_, fd, F, He.glo_ok X G (c.fact 20 (f := .glo "least_error") rfl), F.kp, F.binds (fun _ _ _ _ _ _ us hl => match us, hl with | [_], _ => rfl)⟩
theorem en_truth (X : K.In h) (G : h.Ns mainGlobals mg) (c : He.SaysD faAll fnAll K) : En K mg "truth" "truth" "truth" (topS 37) ["book"] := by
  obtain ⟨fd, F⟩ := c.def_ 21 (d := d_truth) rfl
  have F : Fun K "truth" "truth" (topS 37) (He.fAd K ("truth", none)) fd := fun_of_D (kws := []) F
  exact ⟨_, fd, F, He.glo_ok X G (c.fact 21 (f := .glo "truth") rfl), F.kp, F.binds (fun _ _ _ _ _ _ us hl => match us, hl with | [_], _ => rfl)⟩
theorem en_error_of (X : K.In h) (G : h.Ns mainGlobals mg) (c : He.SaysD faAll fnAll K) : En K mg "error_of" "error_of" "error_of" (topS 38) ["book", "value"] := by
  obtain ⟨fd, F⟩ := c.def_ 22 (d := d_error_of) rfl
  have F : Fun K "error_of" "error_of" (topS 38) (He.fAd K ("error_of", none)) fd := fun_of_D (kws := []) F
  exact ⟨_, fd, F, He.glo_ok X G (c.fact 22 (f := .glo "error_of") rfl), F.kp, F.binds (fun _ _ _ _ _ _ us hl => match us, hl with | [_, _], _ => rfl)⟩
theorem en_are_prices (X : K.In h) (G : h.Ns mainGlobals mg) (c : He.SaysD faAll fnAll K) : En K mg "are_prices" "are_prices" "are_prices" (topS 39) ["book", "value"] := by
  obtain ⟨fd, F⟩ := c.def_ 23 (d := d_are_prices) rfl
  have F : Fun K "are_prices" "are_prices" (topS 39) (He.fAd K ("are_prices", none)) fd := fun_of_D (kws := []) F
  exact ⟨_, fd, F, He.glo_ok X G (c.fact 23 (f := .glo "are_prices") rfl), F.kp, F.binds (fun _ _ _ _ _ _ us hl => match us, hl with | [_, _], _ => rfl)⟩
theorem en_shown (X : K.In h) (G : h.Ns mainGlobals mg) (c : He.SaysD faAll fnAll K) : En K mg "shown" "shown" "shown" (topS 40) ["book", "prices"] := by
  obtain ⟨fd, F⟩ := c.def_ 24 (d := d_shown) rfl
  have F : Fun K "shown" "shown" (topS 40) (He.fAd K ("shown", none)) fd := fun_of_D (kws := []) F
  exact ⟨_, fd, F, He.glo_ok X G (c.fact 24 (f := .glo "shown") rfl), F.kp, F.binds (fun _ _ _ _ _ _ us hl => match us, hl with | [_, _], _ => rfl)⟩
theorem en_prices (X : K.In h) (G : h.Ns mainGlobals mg) (c : He.SaysD faAll fnAll K) : En K mg "prices" "prices" "prices" (topS 41) ["book"] := by
  obtain ⟨fd, F⟩ := c.def_ 25 (d := d_prices) rfl
  have F : Fun K "prices" "prices" (topS 41) (He.fAd K ("prices", none)) fd := fun_of_D (kws := []) F
  exact ⟨_, fd, F, He.glo_ok X G (c.fact 25 (f := .glo "prices") rfl), F.kp, F.binds (fun _ _ _ _ _ _ us hl => match us, hl with | [_], _ => rfl)⟩
theorem en_detour_of (X : K.In h) (G : h.Ns mainGlobals mg) (c : He.SaysD faAll fnAll K) : En K mg "detour_of" "detour_of" "detour_of" (topS 43) ["lacks", "one", "other"] := by
  obtain ⟨fd, F⟩ := c.def_ 26 (d := d_detour_of) rfl
  have F : Fun K "detour_of" "detour_of" (topS 43) (He.fAd K ("detour_of", none)) fd := fun_of_D (kws := []) F
  exact ⟨_, fd, F, He.glo_ok X G (c.fact 26 (f := .glo "detour_of") rfl), F.kp, F.binds (fun _ _ _ _ _ _ us hl => match us, hl with | [_, _, _], _ => rfl)⟩
theorem en_least_shut (X : K.In h) (G : h.Ns mainGlobals mg) (c : He.SaysD faAll fnAll K) : En K mg "least_shut" "least_shut" "least_shut" (topS 44) ["lacks", "one", "other"] := by
  obtain ⟨fd, F⟩ := c.def_ 27 (d := d_least_shut) rfl
  have F : Fun K "least_shut" "least_shut" (topS 44) (He.fAd K ("least_shut", none)) fd := fun_of_D (kws := []) F
  exact ⟨_, fd, F, He.glo_ok X G (c.fact 27 (f := .glo "least_shut") rfl), F.kp, F.binds (fun _ _ _ _ _ _ us hl => match us, hl with | [_, _, _], _ => rfl)⟩
theorem en_error_with (X : K.In h) (G : h.Ns mainGlobals mg) (c : He.SaysD faAll fnAll K) : En K mg "error_with" "error_with" "error_with" (topS 45) ["lacks", "one", "other", "more"] := by
  obtain ⟨fd, F⟩ := c.def_ 28 (d := d_error_with) rfl
  have F : Fun K "error_with" "error_with" (topS 45) (He.fAd K ("error_with", none)) fd := fun_of_D (kws := []) F
  exact ⟨_, fd, F, He.glo_ok X G (c.fact 28 (f := .glo "error_with") rfl), F.kp, F.binds (fun _ _ _ _ _ _ us hl => match us, hl with | [_, _, _, _], _ => rfl)⟩
theorem en_is_let_owing (X : K.In h) (G : h.Ns mainGlobals mg) (c : He.SaysD faAll fnAll K) : En K mg "is_let_owing" "is_let" "is_let" (topS 46) ["lacks", "one", "other", "more", "slack"] := by
  obtain ⟨fd, F⟩ := c.def_ 29 (d := d_is_let_owing) rfl
  have F : Fun K "is_let" "is_let" (topS 46) (He.fAd K ("is_let_owing", none)) fd := fun_of_D (kws := []) F
  exact ⟨_, fd, F, He.glo_ok X G (c.fact 29 (f := .glo "is_let_owing") rfl), F.kp, F.binds (fun _ _ _ _ _ _ us hl => match us, hl with | [_, _, _, _, _], _ => rfl)⟩
theorem en_most_more (X : K.In h) (G : h.Ns mainGlobals mg) (c : He.SaysD faAll fnAll K) : En K mg "most_more" "most_more" "most_more" (topS 48) ["lacks", "one", "other", "begin", "slack"] := by
  obtain ⟨fd, F⟩ := c.def_ 30 (d := d_most_more) rfl
  have F : Fun K "most_more" "most_more" (topS 48) (He.fAd K ("most_more", none)) fd := fun_of_D (kws := []) F
  exact ⟨_, fd, F, He.glo_ok X G (c.fact 30 (f := .glo "most_more") rfl), F.kp, F.binds (fun _ _ _ _ _ _ us hl => match us, hl with | [_, _, _, _, _], _ => rfl)⟩
theorem en_need_truth (X : K.In h) (G : h.Ns mainGlobals mg) (c : He.SaysD faAll fnAll K) : En K mg "need_truth" "need_truth" "need_truth" (topS 49) ["lacks", "slack"] := by
  obtain ⟨fd, F⟩ := c.def_ 31 (d := d_need_truth) rfl
  have F : Fun K "need_truth" "need_truth" (topS 49) (He.fAd K ("need_truth", none)) fd := fun_of_D (kws := []) F
  exact ⟨_, fd, F, He.glo_ok X G (c.fact 31 (f := .glo "need_truth") rfl), F.kp, F.binds (fun _ _ _ _ _ _ us hl => match us, hl with | [_, _], _ => rfl)⟩
theorem en_nets_by (X : K.In h) (G : h.Ns mainGlobals mg) (c : He.SaysD faAll fnAll K) : En K mg "nets_by" "nets_by" "nets_by" (topS 50) ["book", "slack", "one", "other"] := by
  obtain ⟨fd, F⟩ := c.def_ 32 (d := d_nets_by) rfl
  have F : Fun K "nets_by" "nets_by" (topS 50) (He.fAd K ("nets_by", none)) fd := fun_of_D (kws := []) F
  exact ⟨_, fd, F, He.glo_ok X G (c.fact 32 (f := .glo "nets_by") rfl), F.kp, F.binds (fun _ _ _ _ _ _ us hl => match us, hl with | [_, _, _, _], _ => rfl)⟩
theorem en_owes_by (X : K.In h) (G : h.Ns mainGlobals mg) (c : He.SaysD faAll fnAll K) : En K mg "owes_by" "owes_by" "owes_by" (topS 51) ["book", "slack", "house", "other"] := by
  obtain ⟨fd, F⟩ := c.def_ 33 (d := d_owes_by) rfl
  have F : Fun K "owes_by" "owes_by" (topS 51) (He.fAd K ("owes_by", none)) fd := fun_of_D (kws := []) F
  exact ⟨_, fd, F, He.glo_ok X G (c.fact 33 (f := .glo "owes_by") rfl), F.kp, F.binds (fun _ _ _ _ _ _ us hl => match us, hl with | [_, _, _, _], _ => rfl)⟩
theorem en_owes (X : K.In h) (G : h.Ns mainGlobals mg) (c : He.SaysD faAll fnAll K) : En K mg "owes" "owes" "owes" (topS 52) ["book", "slack", "house", "other"] := by
  obtain ⟨fd, F⟩ := c.def_ 34 (d := d_owes) rfl
  have F : Fun K "owes" "owes" (topS 52) (He.fAd K ("owes", none)) fd := fun_of_D (kws := []) F
  exact ⟨_, fd, F, He.glo_ok X G (c.fact 34 (f := .glo "owes") rfl), F.kp, F.binds (fun _ _ _ _ _ _ us hl => match us, hl with | [_, _, _, _], _ => rfl)⟩
theorem en_who_owes (X : K.In h) (G : h.Ns mainGlobals mg) (c : He.SaysD faAll fnAll K) : En K mg "who_owes" "who_owes" "who_owes" (topS 53) ["book", "slack", "house", "other"] := by
  obtain ⟨fd, F⟩ := c.def_ 35 (d := d_who_owes) rfl
  have F : Fun K "who_owes" "who_owes" (topS 53) (He.fAd K ("who_owes", none)) fd := fun_of_D (kws := []) F
  exact ⟨_, fd, F, He.glo_ok X G (c.fact 35 (f := .glo "who_owes") rfl), F.kp, F.binds (fun _ _ _ _ _ _ us hl => match us, hl with | [_, _, _, _], _ => rfl)⟩
theorem en_is_wrong (X : K.In h) (G : h.Ns mainGlobals mg) (c : He.SaysD faAll fnAll K) : En K mg "is_wrong" "is_wrong" "is_wrong" (topS 54) ["book", "slack", "house", "other"] := by
  obtain ⟨fd, F⟩ := c.def_ 36 (d := d_is_wrong) rfl
  have F : Fun K "is_wrong" "is_wrong" (topS 54) (He.fAd K ("is_wrong", none)) fd := fun_of_D (kws := []) F
  exact ⟨_, fd, F, He.glo_ok X G (c.fact 36 (f := .glo "is_wrong") rfl), F.kp, F.binds (fun _ _ _ _ _ _ us hl => match us, hl with | [_, _, _, _], _ => rfl)⟩
theorem en_is_even (X : K.In h) (G : h.Ns mainGlobals mg) (c : He.SaysD faAll fnAll K) : En K mg "is_even" "is_even" "is_even" (topS 56) ["values", "some"] := by
  obtain ⟨fd, F⟩ := c.def_ 37 (d := d_is_even) rfl
  have F : Fun K "is_even" "is_even" (topS 56) (He.fAd K ("is_even", none)) fd := fun_of_D (kws := []) F
  exact ⟨_, fd, F, He.glo_ok X G (c.fact 37 (f := .glo "is_even") rfl), F.kp, F.binds (fun _ _ _ _ _ _ us hl => match us, hl with | [_, _], _ => rfl)⟩
theorem en_lots_of (X : K.In h) (G : h.Ns mainGlobals mg) (c : He.SaysD faAll fnAll K) : En K mg "lots_of" "lots_of" "lots_of" (topS 57) ["some"] := by
  obtain ⟨fd, F⟩ := c.def_ 38 (d := d_lots_of) rfl
  have F : Fun K "lots_of" "lots_of" (topS 57) (He.fAd K ("lots_of", none)) fd := fun_of_D (kws := []) F
  exact ⟨_, fd, F, He.glo_ok X G (c.fact 38 (f := .glo "lots_of") rfl), F.kp, F.binds (fun _ _ _ _ _ _ us hl => match us, hl with | [_], _ => rfl)⟩
theorem en_parts_by (X : K.In h) (G : h.Ns mainGlobals mg) (c : He.SaysD faAll fnAll K) : En K mg "parts_by" "parts_by" "parts_by" (topS 58) ["values", "some"] := by
  obtain ⟨fd, F⟩ := c.def_ 39 (d := d_parts_by) rfl
  have F : Fun K "parts_by" "parts_by" (topS 58) (He.fAd K ("parts_by", none)) fd := fun_of_D (kws := []) F
  exact ⟨_, fd, F, He.glo_ok X G (c.fact 39 (f := .glo "parts_by") rfl), F.kp, F.binds (fun _ _ _ _ _ _ us hl => match us, hl with | [_, _], _ => rfl)⟩
theorem en_parts_of (X : K.In h) (G : h.Ns mainGlobals mg) (c : He.SaysD faAll fnAll K) : En K mg "parts_of" "parts_of" "parts_of" (topS 59) ["values"] := by
  obtain ⟨fd, F⟩ := c.def_ 40 (d := d_parts_of) rfl
  have F : Fun K "parts_of" "parts_of" (topS 59) (He.fAd K ("parts_of", none)) fd := fun_of_D (kws := []) F
  exact ⟨_, fd, F, He.glo_ok X G (c.fact 40 (f := .glo "parts_of") rfl), F.kp, F.binds (fun _ _ _ _ _ _ us hl => match us, hl with | [_], _ => rfl)⟩
theorem en_moves_of (X : K.In h) (G : h.Ns mainGlobals mg) (c : He.SaysD faAll fnAll K) : En K mg "moves_of" "moves_of" "moves_of" (topS 60) ["values", "parts"] := by
  obtain ⟨fd, F⟩ := c.def_ 41 (d := d_moves_of) rfl
  have F : Fun K "moves_of" "moves_of" (topS 60) (He.fAd K ("moves_of", none)) fd := fun_of_D (kws := []) F
  exact ⟨_, fd, F, He.glo_ok X G (c.fact 41 (f := .glo "moves_of") rfl), F.kp, F.binds (fun _ _ _ _ _ _ us hl => match us, hl with | [_, _], _ => rfl)⟩
theorem en_fewest_wrong (X : K.In h) (G : h.Ns mainGlobals mg) (c : He.SaysD faAll fnAll K) : En K mg "fewest_wrong" "fewest_wrong" "fewest_wrong" (topS 61) ["book"] := by
  obtain ⟨fd, F⟩ := c.def_ 42 (d := d_fewest_wrong) rfl
  have F : Fun K "fewest_wrong" "fewest_wrong" (topS 61) (He.fAd K ("fewest_wrong", none)) fd := fun_of_D (kws := []) F
  exact ⟨_, fd, F, He.glo_ok X G (c.fact 42 (f := .glo "fewest_wrong") rfl), F.kp, F.binds (fun _ _ _ _ _ _ us hl => match us, hl with | [_], _ => rfl)⟩
theorem en_few_truth (X : K.In h) (G : h.Ns mainGlobals mg) (c : He.SaysD faAll fnAll K) : En K mg "few_truth" "few_truth" "few_truth" (topS 62) ["book"] := by
  obtain ⟨fd, F⟩ := c.def_ 43 (d := d_few_truth) rfl
  have F : Fun K "few_truth" "few_truth" (topS 62) (He.fAd K ("few_truth", none)) fd := fun_of_D (kws := []) F
  exact ⟨_, fd, F, He.glo_ok X G (c.fact 43 (f := .glo "few_truth") rfl), F.kp, F.binds (fun _ _ _ _ _ _ us hl => match us, hl with | [_], _ => rfl)⟩
theorem en_is_let_counting (X : K.In h) (G : h.Ns mainGlobals mg) (c : He.SaysD faAll fnAll K) : En K mg "is_let_counting" "is_let" "is_let" (topS 64) ["lacks", "house", "lack", "slack"] := by
  obtain ⟨fd, F⟩ := c.def_ 44 (d := d_is_let_counting) rfl
  have F : Fun K "is_let" "is_let" (topS 64) (He.fAd K ("is_let_counting", none)) fd := fun_of_D (kws := []) F
  exact ⟨_, fd, F, He.glo_ok X G (c.fact 44 (f := .glo "is_let_counting") rfl), F.kp, F.binds (fun _ _ _ _ _ _ us hl => match us, hl with | [_, _, _, _], _ => rfl)⟩
theorem en_most_lack (X : K.In h) (G : h.Ns mainGlobals mg) (c : He.SaysD faAll fnAll K) : En K mg "most_lack" "most_lack" "most_lack" (topS 66) ["lacks", "house", "begin", "slack", "sign"] := by
  obtain ⟨fd, F⟩ := c.def_ 45 (d := d_most_lack) rfl
  have F : Fun K "most_lack" "most_lack" (topS 66) (He.fAd K ("most_lack", none)) fd := fun_of_D (kws := []) F
  exact ⟨_, fd, F, He.glo_ok X G (c.fact 45 (f := .glo "most_lack") rfl), F.kp, F.binds (fun _ _ _ _ _ _ us hl => match us, hl with | [_, _, _, _, _], _ => rfl)⟩
theorem en_count_by (X : K.In h) (G : h.Ns mainGlobals mg) (c : He.SaysD faAll fnAll K) : En K mg "count_by" "count_by" "count_by" (topS 67) ["book", "slack", "house"] := by
  obtain ⟨fd, F⟩ := c.def_ 46 (d := d_count_by) rfl
  have F : Fun K "count_by" "count_by" (topS 67) (He.fAd K ("count_by", none)) fd := fun_of_D (kws := []) F
  exact ⟨_, fd, F, He.glo_ok X G (c.fact 46 (f := .glo "count_by") rfl), F.kp, F.binds (fun _ _ _ _ _ _ us hl => match us, hl with | [_, _, _], _ => rfl)⟩
theorem en_count_of (X : K.In h) (G : h.Ns mainGlobals mg) (c : He.SaysD faAll fnAll K) : En K mg "count_of" "count_of" "count_of" (topS 68) ["book", "slack", "house"] := by
  obtain ⟨fd, F⟩ := c.def_ 47 (d := d_count_of) rfl
  have F : Fun K "count_of" "count_of" (topS 68) (He.fAd K ("count_of", none)) fd := fun_of_D (kws := []) F
  exact ⟨_, fd, F, He.glo_ok X G (c.fact 47 (f := .glo "count_of") rfl), F.kp, F.binds (fun _ _ _ _ _ _ us hl => match us, hl with | [_, _, _], _ => rfl)⟩
theorem en_best_counted (X : K.In h) (G : h.Ns mainGlobals mg) (c : He.SaysD faAll fnAll K) : En K mg "best_counted" "best_counted" "best_counted" (topS 69) ["book", "slack"] := by
  obtain ⟨fd, F⟩ := c.def_ 48 (d := d_best_counted) rfl
  have F : Fun K "best_counted" "best_counted" (topS 69) (He.fAd K ("best_counted", none)) fd := fun_of_D (kws := []) F
  exact ⟨_, fd, F, He.glo_ok X G (c.fact 48 (f := .glo "best_counted") rfl), F.kp, F.binds (fun _ _ _ _ _ _ us hl => match us, hl with | [_, _], _ => rfl)⟩
theorem en_needless (X : K.In h) (G : h.Ns mainGlobals mg) (c : He.SaysD faAll fnAll K) : En K mg "needless" "needless" "needless" (topS 70) ["book"] := by
  obtain ⟨fd, F⟩ := c.def_ 49 (d := d_needless) rfl
  have F : Fun K "needless" "needless" (topS 70) (He.fAd K ("needless", none)) fd := fun_of_D (kws := []) F
  exact ⟨_, fd, F, He.glo_ok X G (c.fact 49 (f := .glo "needless") rfl), F.kp, F.binds (fun _ _ _ _ _ _ us hl => match us, hl with | [_], _ => rfl)⟩
theorem en_need_balances (X : K.In h) (G : h.Ns mainGlobals mg) (c : He.SaysD faAll fnAll K) : En K mg "need_balances" "need_balances" "need_balances" (topS 72) ["value"] := by
  obtain ⟨fd, F⟩ := c.def_ 50 (d := d_need_balances) rfl
  have F : Fun K "need_balances" "need_balances" (topS 72) (He.fAd K ("need_balances", none)) fd := fun_of_D (kws := []) F
  exact ⟨_, fd, F, He.glo_ok X G (c.fact 50 (f := .glo "need_balances") rfl), F.kp, F.binds (fun _ _ _ _ _ _ us hl => match us, hl with | [_], _ => rfl)⟩
theorem en_ways_by (X : K.In h) (G : h.Ns mainGlobals mg) (c : He.SaysD faAll fnAll K) : En K mg "ways_by" "ways_by" "ways_by" (topS 73) ["balances"] := by
  obtain ⟨fd, F⟩ := c.def_ 51 (d := d_ways_by) rfl
  have F : Fun K "ways_by" "ways_by" (topS 73) (He.fAd K ("ways_by", none)) fd := fun_of_D (kws := []) F
  exact ⟨_, fd, F, He.glo_ok X G (c.fact 51 (f := .glo "ways_by") rfl), F.kp, F.binds (fun _ _ _ _ _ _ us hl => match us, hl with | [_], _ => rfl)⟩
theorem en_fewest_ways (X : K.In h) (G : h.Ns mainGlobals mg) (c : He.SaysD faAll fnAll K) : En K mg "fewest_ways" "fewest_ways" "fewest_ways" (topS 74) ["balances"] := by
  obtain ⟨fd, F⟩ := c.def_ 52 (d := d_fewest_ways) rfl
  have F : Fun K "fewest_ways" "fewest_ways" (topS 74) (He.fAd K ("fewest_ways", none)) fd := fun_of_D (kws := []) F
  exact ⟨_, fd, F, He.glo_ok X G (c.fact 52 (f := .glo "fewest_ways") rfl), F.kp, F.binds (fun _ _ _ _ _ _ us hl => match us, hl with | [_], _ => rfl)⟩
theorem en_ways (X : K.In h) (G : h.Ns mainGlobals mg) (c : He.SaysD faAll fnAll K) : En K mg "ways" "ways" "ways" (topS 75) ["balances"] := by
  obtain ⟨fd, F⟩ := c.def_ 53 (d := d_ways) rfl
  have F : Fun K "ways" "ways" (topS 75) (He.fAd K ("ways", none)) fd := fun_of_D (kws := []) F
  exact ⟨_, fd, F, He.glo_ok X G (c.fact 53 (f := .glo "ways") rfl), F.kp, F.binds (fun _ _ _ _ _ _ us hl => match us, hl with | [_], _ => rfl)⟩
theorem en_is_way (X : K.In h) (G : h.Ns mainGlobals mg) (c : He.SaysD faAll fnAll K) : En K mg "is_way" "is_way" "is_way" (topS 76) ["houses", "value"] := by
  obtain ⟨fd, F⟩ := c.def_ 54 (d := d_is_way) rfl
  have F : Fun K "is_way" "is_way" (topS 76) (He.fAd K ("is_way", none)) fd := fun_of_D (kws := []) F
  exact ⟨_, fd, F, He.glo_ok X G (c.fact 54 (f := .glo "is_way") rfl), F.kp, F.binds (fun _ _ _ _ _ _ us hl => match us, hl with | [_, _], _ => rfl)⟩
theorem en_evens (X : K.In h) (G : h.Ns mainGlobals mg) (c : He.SaysD faAll fnAll K) : En K mg "evens" "evens" "evens" (topS 77) ["balances", "value"] := by
  obtain ⟨fd, F⟩ := c.def_ 55 (d := d_evens) rfl
  have F : Fun K "evens" "evens" (topS 77) (He.fAd K ("evens", none)) fd := fun_of_D (kws := []) F
  exact ⟨_, fd, F, He.glo_ok X G (c.fact 55 (f := .glo "evens") rfl), F.kp, F.binds (fun _ _ _ _ _ _ us hl => match us, hl with | [_, _], _ => rfl)⟩
theorem en_number_of (X : K.In h) (G : h.Ns mainGlobals mg) (c : He.SaysD faAll fnAll K) : En K mg "number_of" "number_of" "number_of" (topS 80) ["word"] := by
  obtain ⟨fd, F⟩ := c.def_ 56 (d := d_number_of) rfl
  have F : Fun K "number_of" "number_of" (topS 80) (He.fAd K ("number_of", none)) fd := fun_of_D (kws := []) F
  exact ⟨_, fd, F, He.glo_ok X G (c.fact 56 (f := .glo "number_of") rfl), F.kp, F.binds (fun _ _ _ _ _ _ us hl => match us, hl with | [_], _ => rfl)⟩
theorem en_text_of (X : K.In h) (G : h.Ns mainGlobals mg) (c : He.SaysD faAll fnAll K) : En K mg "text_of" "text_of" "text_of" (topS 81) ["book"] := by
  obtain ⟨fd, F⟩ := c.def_ 57 (d := d_text_of) rfl
  have F : Fun K "text_of" "text_of" (topS 81) (He.fAd K ("text_of", none)) fd := fun_of_D (kws := []) F
  exact ⟨_, fd, F, He.glo_ok X G (c.fact 57 (f := .glo "text_of") rfl), F.kp, F.binds (fun _ _ _ _ _ _ us hl => match us, hl with | [_], _ => rfl)⟩
theorem en_book_text (X : K.In h) (G : h.Ns mainGlobals mg) (c : He.SaysD faAll fnAll K) : En K mg "book_text" "book_text" "book_text" (topS 82) ["book"] := by
  obtain ⟨fd, F⟩ := c.def_ 58 (d := d_book_text) rfl
  have F : Fun K "book_text" "book_text" (topS 82) (He.fAd K ("book_text", none)) fd := fun_of_D (kws := []) F
  exact ⟨_, fd, F, He.glo_ok X G (c.fact 58 (f := .glo "book_text") rfl), F.kp, F.binds (fun _ _ _ _ _ _ us hl => match us, hl with | [_], _ => rfl)⟩
theorem en_book_in (X : K.In h) (G : h.Ns mainGlobals mg) (c : He.SaysD faAll fnAll K) : En K mg "book_in" "book_in" "book_in" (topS 83) ["value"] := by
  obtain ⟨fd, F⟩ := c.def_ 59 (d := d_book_in) rfl
  have F : Fun K "book_in" "book_in" (topS 83) (He.fAd K ("book_in", none)) fd := fun_of_D (kws := []) F
  exact ⟨_, fd, F, He.glo_ok X G (c.fact 59 (f := .glo "book_in") rfl), F.kp, F.binds (fun _ _ _ _ _ _ us hl => match us, hl with | [_], _ => rfl)⟩
theorem en_read_book (X : K.In h) (G : h.Ns mainGlobals mg) (c : He.SaysD faAll fnAll K) : En K mg "read_book" "read_book" "read_book" (topS 84) ["value"] := by
  obtain ⟨fd, F⟩ := c.def_ 60 (d := d_read_book) rfl
  have F : Fun K "read_book" "read_book" (topS 84) (He.fAd K ("read_book", none)) fd := fun_of_D (kws := []) F
  exact ⟨_, fd, F, He.glo_ok X G (c.fact 60 (f := .glo "read_book") rfl), F.kp, F.binds (fun _ _ _ _ _ _ us hl => match us, hl with | [_], _ => rfl)⟩
theorem en__law_bin (X : K.In h) (G : h.Ns mainGlobals mg) (c : He.SaysD faAll fnAll K) : En K mg "_law_bin" "_law_bin" "_law_bin" (topS 86) ["_law_script", "_law_k"] := by
  obtain ⟨fd, F⟩ := c.def_ 61 (d := d__law_bin) rfl
  have F : Fun K "_law_bin" "_law_bin" (topS 86) (He.fAd K ("_law_bin", none)) fd := fun_of_D (kws := []) F
  exact ⟨_, fd, F, He.glo_ok X G (c.fact 61 (f := .glo "_law_bin") rfl), F.kp, F.binds (fun _ _ _ _ _ _ us hl => match us, hl with | [_, _], _ => rfl)⟩
theorem en__law_grab (X : K.In h) (G : h.Ns mainGlobals mg) (c : He.SaysD faAll fnAll K) : En K mg "_law_grab" "_law_grab" "_law_grab" (topS 87) ["_law_urn", "_law_wide"] := by
  obtain ⟨fd, F⟩ := c.def_ 62 (d := d__law_grab) rfl
  have F : Fun K "_law_grab" "_law_grab" (topS 87) (He.fAd K ("_law_grab", none)) fd := fun_of_D (kws := []) F
  exact ⟨_, fd, F, He.glo_ok X G (c.fact 62 (f := .glo "_law_grab") rfl), F.kp, F.binds (fun _ _ _ _ _ _ us hl => match us, hl with | [_, _], _ => rfl)⟩
theorem en__law_chain (X : K.In h) (G : h.Ns mainGlobals mg) (c : He.SaysD faAll fnAll K) : En K mg "_law_chain" "_law_chain" "_law_chain" (topS 89) ["_law_many"] := by
  obtain ⟨fd, F⟩ := c.def_ 63 (d := d__law_chain) rfl
  have F : Fun K "_law_chain" "_law_chain" (topS 89) (He.fAd K ("_law_chain", none)) fd := fun_of_D (kws := []) F
  exact ⟨_, fd, F, He.glo_ok X G (c.fact 63 (f := .glo "_law_chain") rfl), F.kp, F.binds (fun _ _ _ _ _ _ us hl => match us, hl with | [_], _ => rfl)⟩
theorem en__law_doubled (X : K.In h) (G : h.Ns mainGlobals mg) (c : He.SaysD faAll fnAll K) : En K mg "_law_doubled" "_law_doubled" "_law_doubled" (topS 90) ["_law_many"] := by
  obtain ⟨fd, F⟩ := c.def_ 64 (d := d__law_doubled) rfl
  have F : Fun K "_law_doubled" "_law_doubled" (topS 90) (He.fAd K ("_law_doubled", none)) fd := fun_of_D (kws := []) F
  exact ⟨_, fd, F, He.glo_ok X G (c.fact 64 (f := .glo "_law_doubled") rfl), F.kp, F.binds (fun _ _ _ _ _ _ us hl => match us, hl with | [_], _ => rfl)⟩
theorem en__law_evened (X : K.In h) (G : h.Ns mainGlobals mg) (c : He.SaysD faAll fnAll K) : En K mg "_law_evened" "_law_evened" "_law_evened" (topS 91) ["_law_many"] := by
  obtain ⟨fd, F⟩ := c.def_ 65 (d := d__law_evened) rfl
  have F : Fun K "_law_evened" "_law_evened" (topS 91) (He.fAd K ("_law_evened", none)) fd := fun_of_D (kws := []) F
  exact ⟨_, fd, F, He.glo_ok X G (c.fact 65 (f := .glo "_law_evened") rfl), F.kp, F.binds (fun _ _ _ _ _ _ us hl => match us, hl with | [_], _ => rfl)⟩
theorem en__law_written (X : K.In h) (G : h.Ns mainGlobals mg) (c : He.SaysD faAll fnAll K) : En K mg "_law_written" "_law_written" "_law_written" (topS 92) [] := by
  obtain ⟨fd, F⟩ := c.def_ 66 (d := d__law_written) rfl
  have F : Fun K "_law_written" "_law_written" (topS 92) (He.fAd K ("_law_written", none)) fd := fun_of_D (kws := []) F
  exact ⟨_, fd, F, He.glo_ok X G (c.fact 66 (f := .glo "_law_written") rfl), F.kp, F.binds (fun _ _ _ _ _ _ us hl => match us, hl with | [], _ => rfl)⟩
theorem en_law (X : K.In h) (G : h.Ns mainGlobals mg) (c : He.SaysD faAll fnAll K) : En K mg "law" "law" "law" (topS 93) ["_law_script"] := by
  obtain ⟨fd, F⟩ := c.def_ 67 (d := d_law) rfl
  have F : Fun K "law" "law" (topS 93) (He.fAd K ("law", none)) fd := fun_of_D (kws := []) F
  exact ⟨_, fd, F, He.glo_ok X G (c.fact 67 (f := .glo "law") rfl), F.kp, F.binds (fun _ _ _ _ _ _ us hl => match us, hl with | [_], _ => rfl)⟩
theorem bu_of (X : K.In h) (G : h.Ns mainGlobals mg) (c : He.SaysD faAll fnAll K) : Bu mg where
  b_isinstance := He.free_ok X G (c.fact 68 (f := .free "isinstance") rfl)
  b_int := He.free_ok X G (c.fact 69 (f := .free "int") rfl)
  b_bool := He.free_ok X G (c.fact 70 (f := .free "bool") rfl)
  b_tuple := He.free_ok X G (c.fact 71 (f := .free "tuple") rfl)
  b_len := He.free_ok X G (c.fact 72 (f := .free "len") rfl)
  b_all := He.free_ok X G (c.fact 73 (f := .free "all") rfl)
  b_range := He.free_ok X G (c.fact 74 (f := .free "range") rfl)
  b_sum := He.free_ok X G (c.fact 75 (f := .free "sum") rfl)
  b_zip := He.free_ok X G (c.fact 76 (f := .free "zip") rfl)
  b_max := He.free_ok X G (c.fact 77 (f := .free "max") rfl)
  b_enumerate := He.free_ok X G (c.fact 78 (f := .free "enumerate") rfl)
  b_min := He.free_ok X G (c.fact 79 (f := .free "min") rfl)
  b_abs := He.free_ok X G (c.fact 80 (f := .free "abs") rfl)
  b_list := He.free_ok X G (c.fact 81 (f := .free "list") rfl)
  b_sorted := He.free_ok X G (c.fact 82 (f := .free "sorted") rfl)
  b_str := He.free_ok X G (c.fact 83 (f := .free "str") rfl)
  g_GREAT := He.int_ok X G (c.fact 84 (f := .int "GREAT" 1000000000000000000000000000000) rfl)
  g_MOST_SLACK := He.int_ok X G (c.fact 85 (f := .int "MOST_SLACK" 100000000000000000000000000000000) rfl)
  g_MOST_HOUSES := He.int_ok X G (c.fact 86 (f := .int "MOST_HOUSES" 5) rfl)
  g_MOST_NOTES := He.int_ok X G (c.fact 87 (f := .int "MOST_NOTES" 12) rfl)
  g_STAR := He.str_ok X G (c.fact 88 (f := .str "STAR" "*") rfl)
end
theorem law_ok {P : Program} {w : World} {K : PySem.W.Frag} {mg : Str → Option Value} {h base : Heap} {fa : Addr} (X : K.In h) (G : h.Ns mainGlobals mg) (c : He.SaysD faAll fnAll K) (hfa : mg "law" = some (.ref fa)) :
    ∃ fd : FuncData, (∀ (s : Shared) (u : Value), BindsTo s fd ⟨[u], []⟩ [("_law_script", u)]) ∧ ∀ base : Heap, FnOk P w K mg base (L2.CX P w) 15 fa fd ["_law_script"] (spP K mg g_law) := by
  obtain ⟨fd, F⟩ := c.def_ 67 (d := d_law) rfl
  have e := hfa.symm.trans (He.glo_ok X G (c.fact 67 (f := .glo "law") rfl))
  cases e
  have b := FunD.bindsA (ps := ["_law_script"]) F fun _ _ _ _ _ _ us hl => match us, hl with | [_], _ => rfl
  refine ⟨fd, fun s v => b s [v] rfl, fun base => ?_⟩
  have B := bu_of X G c
  have c_is_integer := ok_is_integer (P := P) (w := w) (base := base) B (en_is_integer X G c) 
  have c_is_note := ok_is_note (P := P) (w := w) (base := base) B (en_is_note X G c) c_is_integer
  have c_is_count := ok_is_count (P := P) (w := w) (base := base) B (en_is_count X G c) c_is_integer
  have c_is_book := ok_is_book (P := P) (w := w) (base := base) B (en_is_book X G c) c_is_integer c_is_note c_is_count
  have c_need_book := ok_need_book (P := P) (w := w) (base := base) B (en_need_book X G c) c_is_book
  have c_need_houses := ok_need_houses (P := P) (w := w) (base := base) B (en_need_houses X G c) c_is_integer
  have c_need_slack := ok_need_slack (P := P) (w := w) (base := base) B (en_need_slack X G c) c_is_integer
  have c_pairs_of := ok_pairs_of (P := P) (w := w) (base := base) B (en_pairs_of X G c) 
  have c_gone := ok_gone (P := P) (w := w) (base := base) B (en_gone X G c) 
  have c_nets_of := ok_nets_of (P := P) (w := w) (base := base) B (en_nets_of X G c) c_pairs_of c_gone
  have c_gain_of := ok_gain_of (P := P) (w := w) (base := base) B (en_gain_of X G c) 
  have c_gains_of := ok_gains_of (P := P) (w := w) (base := base) B (en_gains_of X G c) c_gain_of c_pairs_of
  have c_lacks_of := ok_lacks_of (P := P) (w := w) (base := base) B (en_lacks_of X G c) c_gains_of c_nets_of
  have c_nets := ok_nets (P := P) (w := w) (base := base) B (en_nets X G c) c_need_book c_nets_of
  have c_lacks := ok_lacks (P := P) (w := w) (base := base) B (en_lacks X G c) c_need_book c_lacks_of
  have c_sums_of := ok_sums_of (P := P) (w := w) (base := base) B (en_sums_of X G c) 
  have c_least_by := ok_least_by (P := P) (w := w) (base := base) B (en_least_by X G c) c_sums_of
  have c_moves_by := ok_moves_by (P := P) (w := w) (base := base) B (en_moves_by X G c) c_sums_of
  have c_truth_by := ok_truth_by (P := P) (w := w) (base := base) B (en_truth_by X G c) c_nets_of
  have c_is_truth := ok_is_truth (P := P) (w := w) (base := base) B (en_is_truth X G c) c_pairs_of c_gains_of
  have c_least_error := ok_least_error (P := P) (w := w) (base := base) B (en_least_error X G c) c_need_book c_least_by c_lacks_of
  have c_truth := ok_truth (P := P) (w := w) (base := base) B (en_truth X G c) c_need_book c_lacks_of c_least_by c_truth_by c_moves_by
  have c_error_of := ok_error_of (P := P) (w := w) (base := base) B (en_error_of X G c) c_need_book c_is_truth c_nets_of
  have c_are_prices := ok_are_prices (P := P) (w := w) (base := base) B (en_are_prices X G c) 
  have c_shown := ok_shown (P := P) (w := w) (base := base) B (en_shown X G c) c_need_book c_are_prices c_lacks_of
  have c_prices := ok_prices (P := P) (w := w) (base := base) B (en_prices X G c) c_need_book c_lacks_of c_least_by c_sums_of
  have c_detour_of := ok_detour_of (P := P) (w := w) (base := base) B (en_detour_of X G c) c_sums_of
  have c_least_shut := ok_least_shut (P := P) (w := w) (base := base) B (en_least_shut X G c) c_least_by c_detour_of
  have c_error_with := ok_error_with (P := P) (w := w) (base := base) B (en_error_with X G c) c_least_shut
  have c_is_let_owing := ok_is_let_owing (P := P) (w := w) (base := base) B (en_is_let_owing X G c) c_error_with
  have c_most_more := ok_most_more (P := P) (w := w) (base := base) B (en_most_more X G c) c_is_let_owing
  have c_need_truth := ok_need_truth (P := P) (w := w) (base := base) B (en_need_truth X G c) c_least_by
  have c_nets_by := ok_nets_by (P := P) (w := w) (base := base) B (en_nets_by X G c) c_lacks_of c_need_truth c_pairs_of c_nets_of c_moves_by c_most_more
  have c_owes_by := ok_owes_by (P := P) (w := w) (base := base) B (en_owes_by X G c) c_nets_by
  have c_owes := ok_owes (P := P) (w := w) (base := base) B (en_owes X G c) c_need_book c_need_slack c_need_houses c_owes_by
  have c_who_owes := ok_who_owes (P := P) (w := w) (base := base) B (en_who_owes X G c) c_need_book c_need_slack c_need_houses c_owes_by
  have c_is_wrong := ok_is_wrong (P := P) (w := w) (base := base) B (en_is_wrong X G c) c_need_book c_need_slack c_need_houses c_owes_by
  have c_is_even := ok_is_even (P := P) (w := w) (base := base) B (en_is_even X G c) 
  have c_lots_of := ok_lots_of (P := P) (w := w) (base := base) B (en_lots_of X G c) 
  have c_parts_by := ok_parts_by (P := P) (w := w) (base := base) B (en_parts_by X G c) c_lots_of c_is_even
  have c_parts_of := ok_parts_of (P := P) (w := w) (base := base) B (en_parts_of X G c) c_parts_by
  have c_moves_of := ok_moves_of (P := P) (w := w) (base := base) B (en_moves_of X G c) 
  have c_fewest_wrong := ok_fewest_wrong (P := P) (w := w) (base := base) B (en_fewest_wrong X G c) c_need_book c_parts_of c_lacks_of
  have c_few_truth := ok_few_truth (P := P) (w := w) (base := base) B (en_few_truth X G c) c_need_book c_lacks_of c_parts_of c_truth_by c_moves_of
  have c_is_let_counting := ok_is_let_counting (P := P) (w := w) (base := base) B (en_is_let_counting X G c) c_least_by
  have c_most_lack := ok_most_lack (P := P) (w := w) (base := base) B (en_most_lack X G c) c_is_let_counting
  have c_count_by := ok_count_by (P := P) (w := w) (base := base) B (en_count_by X G c) c_lacks_of c_need_truth c_gains_of c_nets_of c_moves_by c_most_lack
  have c_count_of := ok_count_of (P := P) (w := w) (base := base) B (en_count_of X G c) c_need_book c_need_slack c_is_integer c_count_by
  have c_best_counted := ok_best_counted (P := P) (w := w) (base := base) B (en_best_counted X G c) c_need_book c_need_slack c_need_truth c_lacks_of c_count_by
  have c_needless := ok_needless (P := P) (w := w) (base := base) B (en_needless X G c) c_need_book
  have c_need_balances := ok_need_balances (P := P) (w := w) (base := base) B (en_need_balances X G c) c_is_integer
  have c_ways_by := ok_ways_by (P := P) (w := w) (base := base) B (en_ways_by X G c) c_moves_of c_parts_of
  have c_fewest_ways := ok_fewest_ways (P := P) (w := w) (base := base) B (en_fewest_ways X G c) c_need_balances c_ways_by
  have c_ways := ok_ways (P := P) (w := w) (base := base) B (en_ways X G c) c_need_balances c_ways_by
  have c_is_way := ok_is_way (P := P) (w := w) (base := base) B (en_is_way X G c) 
  have c_evens := ok_evens (P := P) (w := w) (base := base) B (en_evens X G c) c_need_balances c_is_way
  have c_number_of := ok_number_of (P := P) (w := w) (base := base) B (en_number_of X G c) 
  have c_text_of := ok_text_of (P := P) (w := w) (base := base) B (en_text_of X G c) 
  have c_book_text := ok_book_text (P := P) (w := w) (base := base) B (en_book_text X G c) c_need_book c_text_of
  have c_book_in := ok_book_in (P := P) (w := w) (base := base) B (en_book_in X G c) c_number_of
  have c_read_book := ok_read_book (P := P) (w := w) (base := base) B (en_read_book X G c) c_book_in c_is_book
  have c__law_bin := ok__law_bin (P := P) (w := w) (base := base) B (en__law_bin X G c) 
  have c__law_grab := ok__law_grab (P := P) (w := w) (base := base) B (en__law_grab X G c) 
  have c__law_chain := ok__law_chain (P := P) (w := w) (base := base) B (en__law_chain X G c) c_nets c_lacks c_least_error c_truth c_shown c_owes c_is_wrong c_count_of c_best_counted c_needless c_fewest_wrong
  have c__law_doubled := ok__law_doubled (P := P) (w := w) (base := base) B (en__law_doubled X G c) c_least_error c_truth c_owes c_fewest_wrong c_prices
  have c__law_evened := ok__law_evened (P := P) (w := w) (base := base) B (en__law_evened X G c) c_fewest_ways c_ways c_evens
  have c__law_written := ok__law_written (P := P) (w := w) (base := base) B (en__law_written X G c) c_nets c_lacks c_least_error c_owes c_count_of c_fewest_wrong c_few_truth c_error_of c_who_owes c_book_text c_read_book
  exact okx_law B (fun_of_D (st := topS 93) F) c__law_bin c__law_grab c__law_chain c__law_doubled c__law_evened c__law_written
theorem holds_of (ht : ∀ ns : List Int, ns.length ≤ 63 → (∀ z ∈ ns, Builtin.Int.intBits z ≤ 1048576) → g_law [.list (ns.map PyData.int)] = .ok (.bool true)) : PySem.Challenge.rw_palletsowed_k13_known_books_by_hand.Holds := by
  open PySem.W PySem.Calls PyProof.Rows in
  w_on; o_law
  refine HandSHeadRun.head_any (r := PySem.W.OpenLaw.row PySem.Challenge.rw_palletsowed_k13_known_books_by_hand) (q := PySem.W.view (PySem.W.OpenLaw.row PySem.Challenge.rw_palletsowed_k13_known_books_by_hand).prog [93]) (H := hk) (ob := ob) (M := 6000) (loose := loAll) (d := HandSHeadRun.topDef (PySem.W.OpenLaw.row PySem.Challenge.rw_palletsowed_k13_known_books_by_hand).prog 93) (kwd := []) ob_eq
    (by kernel_rfl) (fun s => by kernel_rfl) run (by kernel_rfl) (by kernel_rfl) (by kernel_rfl) (by rfl) (by first | assumption | decide +kernel) (by decide +kernel) ⟨rfl, rfl, rfl, rfl, rfl, by decide +kernel⟩ ?hw ?hc
  case hw => w_witness2
  case hc =>
    refine walk_end (l := PySem.Challenge.rw_palletsowed_k13_known_books_by_hand) (n := 63) (k := 15) (x := "_law_script") (CX := fun w => L2.CX (PySem.Challenge.rw_palletsowed_k13_known_books_by_hand).prog w) rfl (by decide) (by kernel_rfl) ⟨rfl, by decide, by decide⟩ ?F (fun _ _ _ _ _ z => cx_false z)
    intro w mg fa h Y G hmg0
    obtain ⟨K, KX, c⟩ := Y
    have hmg : mg ("law" : PySem.Str) = some (.ref fa) := by
      have e : (HandSHeadRun.topDef (PySem.W.OpenLaw.row PySem.Challenge.rw_palletsowed_k13_known_books_by_hand).prog 93).name = ("law" : PySem.Str) := by kernel_rfl
      rw [← e]
      exact hmg0
    obtain ⟨fd, hb, hF⟩ := law_ok (P := (PySem.Challenge.rw_palletsowed_k13_known_books_by_hand).prog) (w := w) (base := h) KX G c hmg
    exact ⟨K, fd, _, KX, hb, fun H a ns hl hbits _ hS => law_sp (ht ns hl hbits) hS, fun base _ _ => hF base⟩
end Ev
set_option maxHeartbeats 200000
/-! L0: the readings, unfolded step by step. Own work. -/
namespace Ev
open PySem PySem.Spec L2
section
variable {α β : Type}
/-- the same as Rs.bind, not unfolded by itself -/
def bd (r : Rs α) (k : α → Rs β) : Rs β := r.bind k
@[simp] theorem bd_ok (a : α) (k : α → Rs β) : bd (.ok a) k = k a := rfl
@[simp] theorem bd_exc (n : Str) (f : Option (Str × Int)) (k : α → Rs β) : bd (.exc n f : Rs α) k = .exc n f := rfl
@[simp] theorem bd_no (k : α → Rs β) : bd (.no : Rs α) k = .no := rfl
@[simp] theorem of_some (a : α) : Rs.of (some a) = .ok a := rfl
@[simp] theorem of_none : Rs.of (none : Option α) = .no := rfl
@[simp] theorem nox_ok (a : α) (k : α → Rs β) : nox (Rs.ok a) k = k a := rfl
end
section
variable (δ : List Sl) (s t : Sl) (r : List Sl) (i : Nat) (x y z : D) (g : D → D → Option D) (fa fb fc : XT D) (ta tb : XT Bool) (fe : XT (List D)) (f1 f2 : SX) (xs ys : List D)
@[simp] theorem vC_eq : vC x δ = .ok (x, δ) := rfl
@[simp] theorem vVar_0 : vVar 0 (.d x :: r) = .ok (x, .d x :: r) := rfl
@[simp] theorem vVar_0o : vVar 0 (.own xs :: r) = .ok (.list xs, .d (.list xs) :: r) := rfl
@[simp] theorem vVar_s : vVar (i + 1) (s :: r) = bd (vVar i r) fun p => .ok (p.1, s :: p.2) := by
  unfold vVar
  rw [List.getElem?_cons_succ]
  cases r[i]? with
  | none => rfl
  | some u => cases u <;> rfl
@[simp] theorem vBin_eq : vBin g fa fb δ = bd (fa δ) fun p => bd (fb p.2) fun q => bd (Rs.of (g p.1 q.1)) fun z => .ok (z, q.2) := rfl
@[simp] theorem vUn_eq (g : D → Option D) : vUn g fa δ = bd (fa δ) fun p => bd (Rs.of (g p.1)) fun z => .ok (z, p.2) := rfl
@[simp] theorem vNil_eq : vNil δ = .ok ([], δ) := rfl
@[simp] theorem vCons_eq : vCons fa fe δ = bd (fa δ) fun p => bd (fe p.2) fun q => .ok (p.1 :: q.1, q.2) := rfl
@[simp] theorem vArg_eq (g : List D → Option D) : vArg g fe δ = bd (fe δ) fun p => bd (Rs.of (g p.1)) fun z => .ok (z, p.2) := rfl
@[simp] theorem vTest_eq : vTest fa δ = bd (fa δ) fun p => bd (Rs.of (asB p.1)) fun k => .ok (k, p.2) := rfl
@[simp] theorem vAnd_eq : vAnd ta tb δ = bd (ta δ) fun p => if p.1 then tb p.2 else .ok (false, p.2) := rfl
@[simp] theorem vOr_eq : vOr ta tb δ = bd (ta δ) fun p => if p.1 then .ok (true, p.2) else tb p.2 := rfl
@[simp] theorem vNot_eq : vNot ta δ = bd (ta δ) fun p => .ok (!p.1, p.2) := rfl
@[simp] theorem vAndV_eq : vAndV fa fb δ = bd (fa δ) fun p => bd (Rs.of (asB p.1)) fun k => if k then fb p.2 else .ok (.bool false, p.2) := rfl
@[simp] theorem vOrV_eq : vOrV fa fb δ = bd (fa δ) fun p => bd (Rs.of (asB p.1)) fun k => if k then .ok (.bool true, p.2) else fb p.2 := rfl
@[simp] theorem vNotV_eq : vNotV fa δ = bd (fa δ) fun p => bd (Rs.of (asB p.1)) fun k => .ok (.bool !k, p.2) := rfl
@[simp] theorem vIf_eq : vIf ta fa fb δ = bd (ta δ) fun p => if p.1 then fa p.2 else fb p.2 := rfl
@[simp] theorem vChain_eq (h : D → D → Option D) : vChain g h fa fb fc δ = bd (fa δ) fun p => bd (fb p.2) fun q => bd (Rs.of ((g p.1 q.1).bind asB)) fun k =>
  if k then bd (fc q.2) fun r => bd (Rs.of (h q.1 r.1)) fun z => .ok (z, r.2) else .ok (.bool false, q.2) := rfl
@[simp] theorem asB_bool (b : Bool) : asB (.bool b) = some b := rfl
@[simp] theorem asI_int (b : Int) : asI (.int b) = some b := rfl
@[simp] theorem asS_str (b : Str) : asS (.str b) = some b := rfl
@[simp] theorem vSl_eq (g : D → Option Int → Option Int → Option D) (fl fh : XT (Option Int)) : vSl g fa fl fh δ = bd (fa δ) fun p => bd (fl p.2) fun l => bd (fh l.2) fun h => bd (Rs.of (g p.1 l.1 h.1)) fun z => .ok (z, h.2) := rfl
@[simp] theorem oNone_eq : oNone δ = .ok (none, δ) := rfl
@[simp] theorem oSome_eq : oSome fa δ = bd (fa δ) fun p => bd (Rs.of (asI p.1)) fun i => .ok (some i, p.2) := rfl
@[simp] theorem vIsi_eq (T : Ty) : vIsi T fa δ = bd (fa δ) fun p => bd (Rs.of ((isiD T p.1).map PyData.bool)) fun z => .ok (z, p.2) := rfl
@[simp] theorem vCall_eq (g : FX) : vCall g fe δ = bd (fe δ) fun p => bd (g p.1) fun d => .ok (d, p.2) := rfl
@[simp] theorem vList_eq : vList fe δ = bd (fe δ) fun p => .ok (.list p.1, p.2) := rfl
@[simp] theorem vDisp_eq : vDisp fe δ = bd (fe δ) fun p => if p.1.length ≤ sizeLine then .ok p else .no := rfl
@[simp] theorem vItems_eq : vItems fa δ = bd (fa δ) fun p => bd (Rs.of (itemsOf p.1)) fun xs => .ok (xs, p.2) := rfl
@[simp] theorem vIt_eq (g : List D → Option (List D)) : vIt g fe δ = bd (fe δ) fun p => bd (Rs.of (g p.1)) fun xs => .ok (xs, p.2) := rfl
@[simp] theorem itemsOf_l : itemsOf (.list xs) = some xs := rfl
@[simp] theorem itemsOf_t : itemsOf (.tuple xs) = some xs := rfl
@[simp] theorem zip2_ll : zip2 [.list xs, .list ys] = some (zipD xs ys) := rfl
@[simp] theorem zip2_lt : zip2 [.list xs, .tuple ys] = some (zipD xs ys) := rfl
@[simp] theorem zip2_tl : zip2 [.tuple xs, .list ys] = some (zipD xs ys) := rfl
@[simp] theorem zip2_tt : zip2 [.tuple xs, .tuple ys] = some (zipD xs ys) := rfl
/-! statements -/
@[simp] theorem sSeq_eq : sSeq f1 f2 δ = bd (f1 δ) fun p => match p with
  | (.nx, δ1) => f2 δ1
  | q => .ok q := rfl
@[simp] theorem sNil_eq : sNil δ = .ok (.nx, δ) := rfl
@[simp] theorem sIf_eq : sIf ta f1 f2 δ = bd (ta δ) fun p => if p.1 then f1 p.2 else f2 p.2 := rfl
@[simp] theorem sRet_eq : sRet fa δ = bd (fa δ) fun p => .ok (.rt p.1, p.2) := rfl
@[simp] theorem sDrop_eq : sDrop fa δ = bd (fa δ) fun p => .ok (.nx, p.2) := rfl
@[simp] theorem sSet_eq : sSet i fa δ = bd (fa δ) fun p => put i (.d p.1) p.2 := rfl
@[simp] theorem sOwn_eq : sOwn i fe δ = bd (fe δ) fun p => put i (.own p.1) p.2 := rfl
@[simp] theorem sNo_eq : sNo δ = .no := rfl
@[simp] theorem sPar_eq (is : List Nat) : sPar is fe δ = bd (fe δ) fun p => bd (Rs.of (putD is p.1 p.2)) fun δ' => .ok (.nx, δ') := rfl
@[simp] theorem sUnp_eq (is : List Nat) (sel : D → Option (List D)) : sUnp is sel fa δ = bd (fa δ) fun p => bd (Rs.of (sel p.1)) fun ds => bd (Rs.of (putD is ds p.2)) fun δ' => .ok (.nx, δ') := rfl
@[simp] theorem put_0d : put 0 t (.d x :: r) = .ok (.nx, t :: r) := by unfold put; simp [isIo]
@[simp] theorem put_0o : put 0 t (.own xs :: r) = .ok (.nx, t :: r) := by unfold put; simp [isIo]
@[simp] theorem put_0u : put 0 t (.un :: r) = .ok (.nx, t :: r) := by unfold put; simp [isIo]
@[simp] theorem put_s : put (i + 1) t (s :: r) = bd (put i t r) fun p => .ok (p.1, s :: p.2) := by
  unfold put
  rw [List.getElem?_cons_succ]
  by_cases c : i < r.length ∧ isIo r[i]? = false
  · rw [if_pos c, if_pos ⟨by simp; exact c.1, c.2⟩]; rfl
  · rw [if_neg c, if_neg fun h => c ⟨by simpa using h.1, h.2⟩]; rfl
@[simp] theorem lstAt_0o : lstAt 0 (.own xs :: r) = some xs := rfl
@[simp] theorem lstAt_0i : lstAt 0 (.io xs :: r) = some xs := rfl
@[simp] theorem lstAt_s : lstAt (i + 1) (s :: r) = lstAt i r := by unfold lstAt; rw [List.getElem?_cons_succ]
@[simp] theorem putAt_0o : putAt 0 ys (.own xs :: r) = .own ys :: r := rfl
@[simp] theorem putAt_0i : putAt 0 ys (.io xs :: r) = .io ys :: r := rfl
@[simp] theorem putAt_s : putAt (i + 1) ys (s :: r) = s :: putAt i ys r := by
  unfold putAt
  rw [List.getElem?_cons_succ]
  cases r[i]? <;> rfl
@[simp] theorem sApp_eq : sApp i fa δ = bd (Rs.of (lstAt i δ)) fun _ => bd (fa δ) fun p => bd (Rs.of (lstAt i p.2)) fun xs =>
  if xs.length < sizeLine then .ok (.nx, putAt i (xs ++ [p.1]) p.2) else .no := rfl
@[simp] theorem sStore_eq : sStore i fa fb δ = bd (fa δ) fun p => bd (Rs.of (lstAt i p.2)) fun _ => bd (fb p.2) fun q => bd (Rs.of (lstAt i q.2)) fun xs =>
  bd (Rs.of (asI q.1)) fun k => bd (Rs.of (ixN xs.length k)) fun j => .ok (.nx, putAt i (xs.set j p.1) q.2) := rfl
@[simp] theorem selOne_eq : selOne x = some [x] := rfl
@[simp] theorem selTup_eq (n : Nat) : selTup n (.tuple xs) = if xs.length = n then some xs else none := rfl
@[simp] theorem selLst_eq (n : Nat) : selLst n (.list xs) = if xs.length = n then some xs else none := rfl
@[simp] theorem putD_nil : putD [] [] δ = some δ := by unfold putD; rfl
@[simp] theorem putD_cons (is : List Nat) : putD (i :: is) (x :: xs) δ = if i < δ.length ∧ isIo δ[i]? = false then putD is xs (δ.set i (.d x)) else none := by
  conv => lhs; unfold putD
@[simp] theorem wipeD_nil : wipeD δ [] = δ := by unfold wipeD; rfl
@[simp] theorem wipeD_cons (v : Nat) (vs : List Nat) : wipeD δ (v :: vs) = (wipeD δ vs).set v .un := by
  conv => lhs; unfold wipeD
@[simp] theorem isIo_d : isIo (some (.d x)) = false := rfl
@[simp] theorem isIo_u : isIo (some .un) = false := rfl
@[simp] theorem isIo_o : isIo (some (.own xs)) = false := rfl
@[simp] theorem isIo_f (n : Str) : isIo (some (.fn n)) = false := rfl
@[simp] theorem vLc_eq (own is : List Nat) (sel : D → Option (List D)) (fi : XT (List D)) : vLc own is sel fi ta fa δ = bd (fi δ) fun p => bd (lcL own is sel ta fa p.1 (wipeD p.2 own)) fun r => if r.1.length ≤ sizeLine then .ok r else .no := rfl
@[simp] theorem tTrue_eq : tTrue δ = .ok (true, δ) := rfl
@[simp] theorem sFor_eq (is : List Nat) (sel : D → Option (List D)) (fi : XT (List D)) : sFor is sel fi f1 δ = bd (fi δ) fun p => forL is sel f1 p.1 p.2 := rfl
/-! built-in operations -/
@[simp] theorem gAdd_ii (i j : Int) : gAdd (.int i) (.int j) = some (.int (i + j)) := rfl
@[simp] theorem gAdd_ll : gAdd (.list xs) (.list ys) = if xs.length + ys.length ≤ sizeLine then some (.list (xs ++ ys)) else none := rfl
@[simp] theorem gAdd_tt : gAdd (.tuple xs) (.tuple ys) = if xs.length + ys.length ≤ sizeLine then some (.tuple (xs ++ ys)) else none := rfl
@[simp] theorem gSub_ii (i j : Int) : gSub (.int i) (.int j) = some (.int (i - j)) := rfl
@[simp] theorem iI_ii (C : Int → Int → Bool) (f : Int → Int → Int) (i j : Int) : iI C f (.int i) (.int j) = if C i j then some (.int (f i j)) else none := rfl
@[simp] theorem iU_i (f : Int → Int) (i : Int) : iU f (.int i) = some (.int (f i)) := rfl
@[simp] theorem gCmp_Lt (i j : Int) : gCmp .Lt (.int i) (.int j) = some (.bool (decide (i < j))) := rfl
@[simp] theorem gCmp_Le (i j : Int) : gCmp .LtE (.int i) (.int j) = some (.bool (decide (i ≤ j))) := rfl
@[simp] theorem gCmp_Gt (i j : Int) : gCmp .Gt (.int i) (.int j) = some (.bool (decide (j < i))) := rfl
@[simp] theorem gCmp_Ge (i j : Int) : gCmp .GtE (.int i) (.int j) = some (.bool (decide (j ≤ i))) := rfl
@[simp] theorem gCmp_Eqii (i j : Int) : gCmp .Eq (.int i) (.int j) = some (.bool (decide (i = j))) := by
  show (if SeqAt.shaped (.int i) && SeqAt.shaped (.int j) then some (PyData.bool (i == j)) else none) = _
  rw [if_pos (by simp [SeqAt.shaped, PyData.canLay0, PyData.depth])]
  congr 2
@[simp] theorem gCmp_Neii (i j : Int) : gCmp .NotEq (.int i) (.int j) = some (.bool (decide (i ≠ j))) := by
  show (if SeqAt.shaped (.int i) && SeqAt.shaped (.int j) then some (PyData.bool (!(i == j))) else none) = _
  rw [if_pos (by simp [SeqAt.shaped, PyData.canLay0, PyData.depth])]
  congr 2
  by_cases c : i = j <;> simp [c]
@[simp] theorem gCmp_Is : gCmp .Is x .none = some (.bool (isN x)) := rfl
@[simp] theorem gCmp_IsNot : gCmp .IsNot x .none = some (.bool (!isN x)) := rfl
@[simp] theorem isN_n : isN .none = true := rfl
@[simp] theorem isN_i (i : Int) : isN (.int i) = false := rfl
@[simp] theorem isN_l : isN (.list xs) = false := rfl
@[simp] theorem isN_t : isN (.tuple xs) = false := rfl
@[simp] theorem isi_ii (i : Int) : isiD .int (.int i) = some true := rfl
@[simp] theorem isi_bi (i : Int) : isiD .bool (.int i) = some false := rfl
@[simp] theorem isi_tt : isiD .tuple (.tuple xs) = some true := rfl
@[simp] theorem gLen_l : gLen [.list xs] = some (.int xs.length) := rfl
@[simp] theorem gLen_t : gLen [.tuple xs] = some (.int xs.length) := rfl
@[simp] theorem gIx_l (k : Int) : gIx (.list xs) (.int k) = atI xs k := rfl
@[simp] theorem gIx_t (k : Int) : gIx (.tuple xs) (.int k) = atI xs k := rfl
@[simp] theorem atI_0 : atI (x :: xs) 0 = some x := by
  have h : (0 : Int) < (xs.length : Int) + 1 := by omega
  simp [atI, ixN, h]
@[simp] theorem atI_1 : atI (x :: y :: xs) 1 = some y := by
  have h : (1 : Int) < (xs.length : Int) + 1 + 1 := by omega
  simp [atI, ixN, h]
@[simp] theorem atI_2 : atI (x :: y :: z :: xs) 2 = some z := by
  have h : (2 : Int) < (xs.length : Int) + 1 + 1 + 1 := by omega
  simp [atI, ixN, h]
@[simp] theorem gAll_bools (bs : List Bool) : gAll [.list (bs.map PyData.bool)] = some (.bool (bs.all id)) := by
  show (boolsOf (bs.map PyData.bool)).map (fun bs => PyData.bool (bs.all id)) = _
  rw [boolsOf_map]; rfl
@[simp] theorem gSum_l (ns : List Int) : gSum [.list (ns.map PyData.int)] = some (.int ns.sum) := by
  show (intsOf (ns.map PyData.int)).map (fun ns => PyData.int ns.sum) = _
  rw [intsOf_map]; rfl
@[simp] theorem gSum_t (ns : List Int) : gSum [.tuple (ns.map PyData.int)] = some (.int ns.sum) := by
  show (intsOf (ns.map PyData.int)).map (fun ns => PyData.int ns.sum) = _
  rw [intsOf_map]; rfl
@[simp] theorem mkTup_eq : mkTup xs = if xs.length ≤ sizeLine then some (.tuple xs) else none := rfl
@[simp] theorem mkLst_eq : mkLst xs = if xs.length ≤ sizeLine then some (.list xs) else none := rfl
@[simp] theorem gTup1_l : gTup1 [.list xs] = some (.tuple xs) := rfl
@[simp] theorem gTup1_t : gTup1 [.tuple xs] = some (.tuple xs) := rfl
theorem size_ge : 1000000 ≤ sizeLine := by decide
end
/-! ### comprehensions, loops -/
theorem lcL_skip {own is : List Nat} {sel : D → Option (List D)} {ft : XT Bool} {fe : XT D} {δ δ1 δ2 : List Sl} {d : D} {ds : List D} (e1 : ((sel d).bind fun xs => putD is xs δ) = some δ1) (e2 : ft δ1 = .ok (false, δ2)) :
    lcL own is sel ft fe (d :: ds) δ = lcL own is sel ft fe ds (wipeD δ2 own) := by
  conv => lhs; unfold lcL
  rw [e1]
  show nox (ft δ1) _ = _
  rw [e2]
  rfl
theorem lcL_take {own is : List Nat} {sel : D → Option (List D)} {ft : XT Bool} {fe : XT D} {δ δ1 δ2 δ3 : List Sl} {d r : D} {ds : List D} (e1 : ((sel d).bind fun xs => putD is xs δ) = some δ1) (e2 : ft δ1 = .ok (true, δ2)) (e3 : fe δ2 = .ok (r, δ3)) :
    lcL own is sel ft fe (d :: ds) δ = bd (lcL own is sel ft fe ds (wipeD δ3 own)) fun z => .ok (r :: z.1, z.2) := by
  conv => lhs; unfold lcL
  rw [e1]
  show nox (ft δ1) _ = _
  rw [e2]
  show nox (fe δ2) _ = _
  rw [e3]
  rfl
theorem lcL_map {own is : List Nat} {sel : D → Option (List D)} {ft : XT Bool} {fe : XT D} {δ : List Sl} (F : D → Option D) : ∀ {ds : List D}, (∀ d ∈ ds, ∃ δ1, ((sel d).bind fun xs => putD is xs δ) = some δ1 ∧ ∃ b δ2, ft δ1 = .ok (b, δ2) ∧
    ((b = false ∧ F d = none ∧ wipeD δ2 own = δ) ∨ (b = true ∧ ∃ r δ3, fe δ2 = .ok (r, δ3) ∧ F d = some r ∧ wipeD δ3 own = δ))) → lcL own is sel ft fe ds δ = .ok (ds.filterMap F, δ)
  | [], _ => rfl
  | d :: ds, h => by
    obtain ⟨δ1, e1, b, δ2, e2, h3⟩ := h d List.mem_cons_self
    have ih := lcL_map F fun x hx => h x (List.mem_cons_of_mem _ hx)
    rcases h3 with ⟨rfl, e4, e5⟩ | ⟨rfl, r, δ3, e4, e5, e6⟩
    · rw [lcL_skip e1 e2, e5, ih, List.filterMap_cons, e4]
    · rw [lcL_take e1 e2 e4, e6, ih, List.filterMap_cons, e5]; rfl
/-- no filter, each item by itself -/
theorem lcL_all {own is : List Nat} {sel : D → Option (List D)} {ft : XT Bool} {fe : XT D} {δ : List Sl} {α : Type} (enc : α → D) (F : α → D) {as : List α} (h : ∀ a ∈ as, ∃ δ1, ((sel (enc a)).bind fun xs => putD is xs δ) = some δ1 ∧ ∃ δ2, ft δ1 = .ok (true, δ2) ∧
    ∃ δ3, fe δ2 = .ok (F a, δ3) ∧ wipeD δ3 own = δ) : lcL own is sel ft fe (as.map enc) δ = .ok (as.map F, δ) := by
  induction as with
  | nil => rfl
  | cons a as ih =>
    obtain ⟨δ1, e1, δ2, e2, δ3, e3, e4⟩ := h a List.mem_cons_self
    rw [List.map_cons, lcL_take e1 e2 e3, e4, ih fun x hx => h x (List.mem_cons_of_mem _ hx)]
    rfl
/-- with a filter -/
theorem lcL_some {own is : List Nat} {sel : D → Option (List D)} {ft : XT Bool} {fe : XT D} {δ : List Sl} {α : Type} (enc : α → D) (p : α → Bool) (F : α → D) {as : List α} (h : ∀ a ∈ as, ∃ δ1, ((sel (enc a)).bind fun xs => putD is xs δ) = some δ1 ∧ ∃ δ2, ft δ1 = .ok (p a, δ2) ∧
    (p a = false → wipeD δ2 own = δ) ∧ (p a = true → ∃ δ3, fe δ2 = .ok (F a, δ3) ∧ wipeD δ3 own = δ)) : lcL own is sel ft fe (as.map enc) δ = .ok ((as.filter p).map F, δ) := by
  induction as with
  | nil => rfl
  | cons a as ih =>
    obtain ⟨δ1, e1, δ2, e2, e3, e4⟩ := h a List.mem_cons_self
    rw [List.map_cons]
    cases hp : p a with
    | false =>
      rw [hp] at e2
      rw [lcL_skip e1 e2, e3 hp, ih fun x hx => h x (List.mem_cons_of_mem _ hx), List.filter_cons_of_neg (by simp [hp])]
    | true =>
      obtain ⟨δ3, e5, e6⟩ := e4 hp
      rw [hp] at e2
      rw [lcL_take e1 e2 e5, e6, ih fun x hx => h x (List.mem_cons_of_mem _ hx), List.filter_cons_of_pos hp]
      rfl
end Ev
set_option maxHeartbeats 200000
/-! L1: books in plain words. Own work. -/
namespace Ev
open PySem PySem.Spec L2
abbrev GREAT : Int := 1000000000000000000000000000000
@[simp] theorem retOf_rt (d : D) (δ : List Sl) : retOf (.ok (.rt d, δ)) = .ok d := rfl
@[simp] theorem retOf_nx (δ : List Sl) : retOf (.ok (.nx, δ)) = .ok .none := rfl
@[simp] theorem retOf_exc (n : Str) (f : Option (Str × Int)) : retOf (.exc n f) = .exc n f := rfl
/-- a def's body, run -/
theorem fnP_run {n N : Nat} {f : SX} {ds : List D} (hl : ds.length = n) : fnP n N f ds = retOf (f (slots N ds)) := by
  unfold fnP
  rw [if_pos hl]
theorem fnP_ok {n N : Nat} {f : SX} {ds : List D} {d : D} {δ : List Sl} (hl : ds.length = n) (h : f (slots N ds) = .ok (.rt d, δ)) : fnP n N f ds = .ok d := by
  unfold fnP
  rw [if_pos hl, h]; rfl
theorem fnP_nx {n N : Nat} {f : SX} {ds : List D} {δ : List Sl} (hl : ds.length = n) (h : f (slots N ds) = .ok (.nx, δ)) : fnP n N f ds = .ok .none := by
  unfold fnP
  rw [if_pos hl, h]; rfl
def inR (v lo hi : Int) : Bool := decide (lo ≤ v) && decide (v ≤ hi)
theorem inR_iff {v lo hi : Int} : inR v lo hi = true ↔ lo ≤ v ∧ v ≤ hi := by simp [inR]
theorem P_is_integer (v lo hi : Int) : g_is_integer [.int v, .int lo, .int hi] = .ok (.bool (inR v lo hi)) := by
  refine (fnP_run (f := x_is_integer) rfl).trans ?_
  show retOf (x_is_integer [.d (.int v), .d (.int lo), .d (.int hi)]) = _
  unfold inR
  by_cases c : lo ≤ v <;> simp [x_is_integer, c]
def encO : Option Int → D
  | none => .none
  | some c => .int c
def okC : Option Int → Bool
  | none => true
  | some c => inR c (-GREAT) GREAT
theorem P_is_count (o : Option Int) : g_is_count [encO o] = .ok (.bool (okC o)) := by
  refine (fnP_run (f := x_is_count) rfl).trans ?_
  cases o with
  | none => 
    show retOf (x_is_count [.d .none]) = _
    simp [x_is_count, okC]
  | some c =>
    show retOf (x_is_count [.d (.int c)]) = _
    simp [x_is_count, P_is_integer, okC]
/-- a note -/
abbrev Note := Int × Int × Int
def encN (n : Note) : D := .tuple [.int n.1, .int n.2.1, .int n.2.2]
def okN (h : Int) (n : Note) : Bool := inR n.2.2 1 GREAT && (inR n.1 0 (h - 1) && (inR n.2.1 0 (h - 1) && decide (n.1 ≠ n.2.1)))
theorem P_is_note (h : Int) (n : Note) : g_is_note [.int h, encN n] = .ok (.bool (okN h n)) := by
  obtain ⟨a, b, c⟩ := n
  refine (fnP_run (f := x_is_note) rfl).trans ?_
  show retOf (x_is_note [.d (.int h), .d (.tuple [.int a, .int b, .int c])]) = _
  unfold okN
  cases h1 : inR c 1 GREAT <;> cases h2 : inR a 0 (h - 1) <;> cases h3 : inR b 0 (h - 1) <;> simp [x_is_note, P_is_integer, h1, h2, h3]
/-- a book -/
def encB (h : Int) (ns : List Note) (cs : List (Option Int)) : D := .tuple [.int h, .tuple (ns.map encN), .tuple (cs.map encO)]
def okB (h : Int) (ns : List Note) (cs : List (Option Int)) : Bool := inR h 2 5 && (decide (ns.length ≤ 12) && (ns.all (okN h) && (decide ((cs.length : Int) = h) && cs.all okC)))
theorem all_bools {α : Type} (l : List α) (p : α → Bool) : gAll [.list (l.map fun x => .bool (p x))] = some (.bool (l.all p)) := by
  have : (l.map fun x => PyData.bool (p x)) = (l.map p).map PyData.bool := by rw [List.map_map]; rfl
  rw [this, gAll_bools]
  simp [List.all_map, Function.comp_def]
theorem P_is_book (h : Int) (ns : List Note) (cs : List (Option Int)) (hn : ns.length ≤ 1000) (hc : cs.length ≤ 1000) : g_is_book [encB h ns cs] = .ok (.bool (okB h ns cs)) := by
  refine (fnP_run (f := x_is_book) rfl).trans ?_
  have sz := size_ge
  have l1 : ∀ δ : List Sl, δ = [.d (encB h ns cs), .d (.int h), .d (.tuple (ns.map encN)), .d (.tuple (cs.map encO)), .un, .un] →
      lcL [5] [5] selOne tTrue (vCall g_is_note (vCons (vVar 1) (vCons (vVar 5) vNil))) (ns.map encN) δ = .ok (ns.map fun n => .bool (okN h n), δ) := by
    rintro δ rfl
    refine lcL_all encN (fun n => .bool (okN h n)) fun n _ => ⟨_, rfl, _, rfl, [.d (encB h ns cs), .d (.int h), .d (.tuple (ns.map encN)), .d (.tuple (cs.map encO)), .un, .d (encN n)], ?_, rfl⟩
    simp [P_is_note]
  have l2 : ∀ δ : List Sl, δ = [.d (encB h ns cs), .d (.int h), .d (.tuple (ns.map encN)), .d (.tuple (cs.map encO)), .un, .un] →
      lcL [4] [4] selOne tTrue (vCall g_is_count (vCons (vVar 4) vNil)) (cs.map encO) δ = .ok (cs.map fun n => .bool (okC n), δ) := by
    rintro δ rfl
    refine lcL_all encO (fun n => .bool (okC n)) fun n _ => ⟨_, rfl, _, rfl, [.d (encB h ns cs), .d (.int h), .d (.tuple (ns.map encN)), .d (.tuple (cs.map encO)), .d (encO n), .un], ?_, rfl⟩
    simp [P_is_count]
  have e1 : ns.length ≤ sizeLine := by omega
  have e2 : cs.length ≤ sizeLine := by omega
  show retOf (x_is_book [.d (.tuple [.int h, .tuple (ns.map encN), .tuple (cs.map encO)]), .un, .un, .un, .un, .un]) = _
  unfold okB
  cases h1 : inR h 2 5
  · simp [x_is_book, P_is_integer, h1]
  · by_cases h2 : ns.length ≤ 12
    · have h2' : ¬ (12 : Int) < ns.length := by omega
      have l1' := l1 _ rfl
      have l2' := l2 _ rfl
      unfold encB at l1' l2'
      cases h3 : ns.all (okN h)
      · simp [x_is_book, P_is_integer, h1, h2, h2', l1', e1, all_bools, h3]
      · by_cases h4 : (cs.length : Int) = h
        · simp [x_is_book, P_is_integer, h1, h2, h2', l1', e1, all_bools, h3, h4, l2', e2]
        · simp [x_is_book, P_is_integer, h1, h2, h2', l1', e1, all_bools, h3, h4]
    · have h2' : (12 : Int) < ns.length := by omega
      simp [x_is_book, P_is_integer, h1, h2, h2']
theorem okB_iff {h : Int} {ns : List Note} {cs : List (Option Int)} : okB h ns cs = true ↔ (2 ≤ h ∧ h ≤ 5) ∧ ns.length ≤ 12 ∧ ns.all (okN h) = true ∧ (cs.length : Int) = h ∧ cs.all okC = true := by
  simp [okB, inR_iff]
theorem okB_len {h : Int} {ns : List Note} {cs : List (Option Int)} (k : okB h ns cs = true) : ns.length ≤ 12 ∧ cs.length ≤ 5 := by
  obtain ⟨⟨h1, h2⟩, h3, _, h5, _⟩ := okB_iff.mp k
  omega
theorem P_need_book {h : Int} {ns : List Note} {cs : List (Option Int)} (k : okB h ns cs = true) : g_need_book [encB h ns cs] = .ok .none := by
  obtain ⟨l1, l2⟩ := okB_len k
  refine (fnP_run (f := x_need_book) rfl).trans ?_
  show retOf (x_need_book [.d (encB h ns cs)]) = _
  simp [x_need_book, P_is_book h ns cs (by omega) (by omega), k]
/-! ### pairs, notes, nets -/
def pairsF (h : Nat) : List (Int × Int) := (List.range h).flatMap fun i => (List.range (h - (i + 1))).map fun j => ((i : Int), ((i + 1 + j : Nat) : Int))
def encP (p : Int × Int) : D := .tuple [.int p.1, .int p.2]
theorem P_pairs_of (h : Int) (h1 : 2 ≤ h) (h2 : h ≤ 5) : g_pairs_of [.int h] = .ok (.list ((pairsF h.toNat).map encP)) := by
  have : h = 2 ∨ h = 3 ∨ h = 4 ∨ h = 5 := by omega
  rcases this with rfl | rfl | rfl | rfl <;> kernel_rfl
def isFor (g t : Int) (n : Note) : Bool := decide (n.1 = g) && decide (n.2.1 = t)
def goneF (ns : List Note) (g t : Int) : Int := ((ns.filter (isFor g t)).map fun n => n.2.2).sum
@[simp] theorem gCmp_Eqpp (a b c d : Int) : gCmp .Eq (.tuple [.int a, .int b]) (.tuple [.int c, .int d]) = some (.bool (decide (a = c) && decide (b = d))) := by
  show (if SeqAt.shaped (.tuple [.int a, .int b]) && SeqAt.shaped (.tuple [.int c, .int d]) then some (PyData.bool (PyData.eqv (.tuple [.int a, .int b]) (.tuple [.int c, .int d]))) else none) = _
  rw [if_pos (by simp [SeqAt.shaped, PyData.canLay0, PyData.canLayAll0, PyData.depth, PyData.depthAll])]
  by_cases c1 : a = c <;> by_cases c2 : b = d <;> simp [PyData.eqv, PyData.eqvAll, c1, c2]
theorem sum_ints {α : Type} (l : List α) (f : α → Int) : gSum [.list (l.map fun x => .int (f x))] = some (.int (l.map f).sum) := by
  have : (l.map fun x => PyData.int (f x)) = (l.map f).map PyData.int := by rw [List.map_map]; rfl
  rw [this, gSum_l]
theorem P_gone {X : D} {ns : List Note} (g t : Int) (hX : itemsOf X = some (ns.map encN)) (hn : ns.length ≤ 1000) : g_gone [X, .int g, .int t] = .ok (.int (goneF ns g t)) := by
  have sz := size_ge
  have e1 : (ns.filter (isFor g t)).length ≤ sizeLine := by
    have := List.length_filter_le (isFor g t) ns
    omega
  refine (fnP_run (f := x_gone) rfl).trans ?_
  have l1 : lcL [3, 4, 5] [3, 4, 5] (selTup 3) (vTest (vBin (gCmp .Eq) (vArg mkTup (vCons (vVar 3) (vCons (vVar 4) vNil))) (vArg mkTup (vCons (vVar 1) (vCons (vVar 2) vNil))))) (vVar 5) (ns.map encN)
      [.d X, .d (.int g), .d (.int t), .un, .un, .un] = .ok ((ns.filter (isFor g t)).map fun n => .int n.2.2, [.d X, .d (.int g), .d (.int t), .un, .un, .un]) := by
    refine lcL_some encN (isFor g t) (fun n => .int n.2.2) fun n _ => ⟨_, rfl, [.d X, .d (.int g), .d (.int t), .d (.int n.1), .d (.int n.2.1), .d (.int n.2.2)], ?_, fun _ => rfl, fun _ => ⟨[.d X, .d (.int g), .d (.int t), .d (.int n.1), .d (.int n.2.1), .d (.int n.2.2)], ?_, rfl⟩⟩
    · have sz2 : 2 ≤ sizeLine := by omega
      simp [sz2, isFor]
    · simp
  show retOf (x_gone [.d X, .d (.int g), .d (.int t), .un, .un, .un]) = _
  have es := sum_ints (ns.filter (isFor g t)) (fun n => n.2.2)
  simp [x_gone, hX, l1, e1, es, goneF]
/-- each pair's net -/
def netsF (h : Nat) (ns : List Note) : List Int := (pairsF h).map fun p => goneF ns p.1 p.2 - goneF ns p.2 p.1
def encI (i : Int) : D := .int i
theorem pairs_len (h : Nat) (k : h ≤ 5) : (pairsF h).length ≤ 10 := by
  have : h = 0 ∨ h = 1 ∨ h = 2 ∨ h = 3 ∨ h = 4 ∨ h = 5 := by omega
  rcases this with rfl | rfl | rfl | rfl | rfl | rfl <;> decide
theorem P_nets_of {h : Int} {X : D} {ns : List Note} (h1 : 2 ≤ h) (h2 : h ≤ 5) (hX : itemsOf X = some (ns.map encN)) (hn : ns.length ≤ 1000) : g_nets_of [.int h, X] = .ok (.list ((netsF h.toNat ns).map encI)) := by
  have sz := size_ge
  have pl := pairs_len h.toNat (by omega)
  refine (fnP_run (f := x_nets_of) rfl).trans ?_
  have l1 : lcL [2, 3] [2, 3] (selTup 2) tTrue (vBin gSub (vCall g_gone (vCons (vVar 1) (vCons (vVar 2) (vCons (vVar 3) vNil)))) (vCall g_gone (vCons (vVar 1) (vCons (vVar 3) (vCons (vVar 2) vNil))))) ((pairsF h.toNat).map encP)
      [.d (.int h), .d X, .un, .un] = .ok ((pairsF h.toNat).map fun p => encI (goneF ns p.1 p.2 - goneF ns p.2 p.1), [.d (.int h), .d X, .un, .un]) := by
    refine lcL_all encP (fun p => encI (goneF ns p.1 p.2 - goneF ns p.2 p.1)) fun p _ => ⟨_, rfl, _, rfl, [.d (.int h), .d X, .d (.int p.1), .d (.int p.2)], ?_, rfl⟩
    simp [P_gone _ _ hX hn, encI]
  have e1 : (pairsF h.toNat).length ≤ sizeLine := by omega
  show retOf (x_nets_of [.d (.int h), .d X, .un, .un]) = _
  simp [x_nets_of, P_pairs_of h h1 h2, l1, e1, netsF, Function.comp_def]
end Ev
set_option maxHeartbeats 200000
/-! L2a: gains, lacks, sums in plain words. Own work. -/
namespace Ev
open PySem PySem.Spec L2
theorem zipD_map {α β : Type} (f : α → D) (g : β → D) : ∀ (as : List α) (bs : List β), zipD (as.map f) (bs.map g) = (as.zip bs).map fun p => .tuple [f p.1, g p.2]
  | [], _ => by simp [zipD]
  | _ :: _, [] => by simp [zipD]
  | a :: as, b :: bs => by simp [zipD, zipD_map f g as bs]
theorem zip2_of {X Y : D} {xs ys : List D} (hX : itemsOf X = some xs) (hY : itemsOf Y = some ys) : zip2 [X, Y] = some (zipD xs ys) := by
  cases X <;> cases hX <;> (cases Y <;> cases hY <;> rfl)
theorem zip_len {α β : Type} (as : List α) (bs : List β) : (as.zip bs).length ≤ as.length := by rw [List.length_zip]; omega
/-! ### gains -/
def inTo (k : Int) (p : (Int × Int) × Int) : Bool := decide (p.1.2 = k)
def outOf (k : Int) (p : (Int × Int) × Int) : Bool := decide (p.1.1 = k)
def gainF (h : Nat) (xs : List Int) (k : Int) : Int := (((((pairsF h).zip xs).filter (inTo k)).map fun p => p.2).sum) - ((((pairsF h).zip xs).filter (outOf k)).map fun p => p.2).sum
theorem P_gain_of {h : Nat} {X : D} {xs : List Int} {k : Int} (hh : h ≤ 5) (hX : itemsOf X = some (xs.map encI)) : g_gain_of [.list ((pairsF h).map encP), X, .int k] = .ok (.int (gainF h xs k)) := by
  have sz := size_ge
  have pl := pairs_len h hh
  have zl := zip_len (pairsF h) xs
  have e1 : (((pairsF h).zip xs).filter (inTo k)).length ≤ sizeLine := by
    have := List.length_filter_le (inTo k) ((pairsF h).zip xs); omega
  have e2 : (((pairsF h).zip xs).filter (outOf k)).length ≤ sizeLine := by
    have := List.length_filter_le (outOf k) ((pairsF h).zip xs); omega
  refine (fnP_run (f := x_gain_of) rfl).trans ?_
  have l1 : ∀ s : Sl, lcL [4, 5] [4, 5] (selTup 2) (vTest (vBin (gCmp .Eq) (vBin gIx (vVar 4) (vC (.int 1))) (vVar 2))) (vVar 5) (((pairsF h).zip xs).map fun p => .tuple [encP p.1, encI p.2])
      [.d (.list ((pairsF h).map encP)), .d X, .d (.int k), s, .un, .un] = .ok ((((pairsF h).zip xs).filter (inTo k)).map fun p => .int p.2, [.d (.list ((pairsF h).map encP)), .d X, .d (.int k), s, .un, .un]) := by
    intro s
    refine lcL_some (fun p : (Int × Int) × Int => .tuple [encP p.1, encI p.2]) (inTo k) (fun p => .int p.2) fun p _ => ⟨[.d (.list ((pairsF h).map encP)), .d X, .d (.int k), s, .d (encP p.1), .d (.int p.2)], ?_, [.d (.list ((pairsF h).map encP)), .d X, .d (.int k), s, .d (encP p.1), .d (.int p.2)], ?_, fun _ => rfl, fun _ => ⟨[.d (.list ((pairsF h).map encP)), .d X, .d (.int k), s, .d (encP p.1), .d (.int p.2)], ?_, rfl⟩⟩
    · simp [encI]
    · simp [encP, inTo]
    · simp
  have l2 : ∀ s : Sl, lcL [4, 5] [4, 5] (selTup 2) (vTest (vBin (gCmp .Eq) (vBin gIx (vVar 4) (vC (.int 0))) (vVar 2))) (vVar 5) (((pairsF h).zip xs).map fun p => .tuple [encP p.1, encI p.2])
      [.d (.list ((pairsF h).map encP)), .d X, .d (.int k), s, .un, .un] = .ok ((((pairsF h).zip xs).filter (outOf k)).map fun p => .int p.2, [.d (.list ((pairsF h).map encP)), .d X, .d (.int k), s, .un, .un]) := by
    intro s
    refine lcL_some (fun p : (Int × Int) × Int => .tuple [encP p.1, encI p.2]) (outOf k) (fun p => .int p.2) fun p _ => ⟨[.d (.list ((pairsF h).map encP)), .d X, .d (.int k), s, .d (encP p.1), .d (.int p.2)], ?_, [.d (.list ((pairsF h).map encP)), .d X, .d (.int k), s, .d (encP p.1), .d (.int p.2)], ?_, fun _ => rfl, fun _ => ⟨[.d (.list ((pairsF h).map encP)), .d X, .d (.int k), s, .d (encP p.1), .d (.int p.2)], ?_, rfl⟩⟩
    · simp [encI]
    · simp [encP, outOf]
    · simp
  have ez : zip2 [.list ((pairsF h).map encP), X] = some (((pairsF h).zip xs).map fun p => .tuple [encP p.1, encI p.2]) := by rw [zip2_of rfl hX, zipD_map]
  show retOf (x_gain_of [.d (.list ((pairsF h).map encP)), .d X, .d (.int k), .un, .un, .un]) = _
  have s1 := sum_ints (((pairsF h).zip xs).filter (inTo k)) (fun p => p.2)
  have s2 := sum_ints (((pairsF h).zip xs).filter (outOf k)) (fun p => p.2)
  simp [x_gain_of, ez, l1, l2, e1, e2, s1, s2, gainF]
def gainsF (h : Nat) (xs : List Int) : List Int := (List.range h).map fun (i : Nat) => gainF h xs (i : Int)
@[simp] theorem rng1_i (j : Int) (h : 0 ≤ j) (h2 : j ≤ 1000) : rng1 [.int j] = some ((List.range j.toNat).map fun (i : Nat) => encI (i : Int)) := by
  show (if -(2 ^ 62) ≤ j ∧ j < 2 ^ 62 then some (rangeD 0 j.toNat) else none) = _
  rw [if_pos ⟨by omega, by omega⟩]
  unfold rangeD encI
  simp
theorem P_gains_of {h : Int} {X : D} {xs : List Int} (h1 : 2 ≤ h) (h2 : h ≤ 5) (hX : itemsOf X = some (xs.map encI)) : g_gains_of [.int h, X] = .ok (.list ((gainsF h.toNat xs).map encI)) := by
  have sz := size_ge
  refine (fnP_run (f := x_gains_of) rfl).trans ?_
  have l1 : lcL [2] [2] selOne tTrue (vCall g_gain_of (vCons (vCall g_pairs_of (vCons (vVar 0) vNil)) (vCons (vVar 1) (vCons (vVar 2) vNil)))) ((List.range h.toNat).map fun (i : Nat) => encI (i : Int))
      [.d (.int h), .d X, .un] = .ok ((List.range h.toNat).map fun (i : Nat) => encI (gainF h.toNat xs (i : Int)), [.d (.int h), .d X, .un]) := by
    refine lcL_all (fun (i : Nat) => encI (i : Int)) (fun (i : Nat) => encI (gainF h.toNat xs (i : Int))) fun i _ => ⟨_, rfl, _, rfl, [.d (.int h), .d X, .d (.int i)], ?_, rfl⟩
    have := P_gain_of (k := (i : Int)) (show h.toNat ≤ 5 by omega) hX
    simp [P_pairs_of h h1 h2, encI, this]
  have e1 : h.toNat ≤ sizeLine := by omega
  show retOf (x_gains_of [.d (.int h), .d X, .un]) = _
  simp [x_gains_of, rng1_i h (by omega) (by omega), l1, e1, gainsF, Function.comp_def]
/-! ### lacks -/
def lacksF (h : Nat) (ns : List Note) (cs : List (Option Int)) : List (Option Int) := (cs.zip (gainsF h (netsF h ns))).map fun p => p.1.map fun c => c - p.2
theorem encB_0 (h : Int) (ns : List Note) (cs : List (Option Int)) : encB h ns cs = .tuple [.int h, .tuple (ns.map encN), .tuple (cs.map encO)] := rfl
theorem P_lacks_of {h : Int} {ns : List Note} {cs : List (Option Int)} (h1 : 2 ≤ h) (h2 : h ≤ 5) (hn : ns.length ≤ 1000) (hc : cs.length ≤ 1000) : g_lacks_of [encB h ns cs] = .ok (.list ((lacksF h.toNat ns cs).map encO)) := by
  have sz := size_ge
  refine (fnP_run (f := x_lacks_of) rfl).trans ?_
  have hN := P_nets_of (X := .tuple (ns.map encN)) h1 h2 rfl hn
  have hG := P_gains_of (X := .list ((netsF h.toNat ns).map encI)) h1 h2 rfl
  have l1 : lcL [2, 3] [2, 3] (selTup 2) tTrue (vIf (vTest (vBin (gCmp .Is) (vVar 2) (vC .none))) (vC .none) (vBin gSub (vVar 2) (vVar 3))) ((cs.zip (gainsF h.toNat (netsF h.toNat ns))).map fun p => .tuple [encO p.1, encI p.2])
      [.d (encB h ns cs), .d (.list ((gainsF h.toNat (netsF h.toNat ns)).map encI)), .un, .un] = .ok ((cs.zip (gainsF h.toNat (netsF h.toNat ns))).map fun p => encO (p.1.map fun c => c - p.2), [.d (encB h ns cs), .d (.list ((gainsF h.toNat (netsF h.toNat ns)).map encI)), .un, .un]) := by
    refine lcL_all (fun p : Option Int × Int => .tuple [encO p.1, encI p.2]) (fun p => encO (p.1.map fun c => c - p.2)) fun p _ => ⟨[.d (encB h ns cs), .d (.list ((gainsF h.toNat (netsF h.toNat ns)).map encI)), .d (encO p.1), .d (.int p.2)], ?_, _, rfl, [.d (encB h ns cs), .d (.list ((gainsF h.toNat (netsF h.toNat ns)).map encI)), .d (encO p.1), .d (.int p.2)], ?_, rfl⟩
    · simp [encI]
    · obtain ⟨o, i⟩ := p
      cases o <;> simp [encO]
  have ez : zip2 [.tuple (cs.map encO), .list ((gainsF h.toNat (netsF h.toNat ns)).map encI)] = some ((cs.zip (gainsF h.toNat (netsF h.toNat ns))).map fun p => .tuple [encO p.1, encI p.2]) := by rw [zip2_of rfl rfl, zipD_map]
  have e1 : min cs.length (gainsF h.toNat (netsF h.toNat ns)).length ≤ sizeLine := by omega
  rw [encB_0] at l1
  show retOf (x_lacks_of [.d (.tuple [.int h, .tuple (ns.map encN), .tuple (cs.map encO)]), .un, .un, .un]) = _
  simp only [x_lacks_of, sSeq_eq, sSet_eq, vCall_eq, vCons_eq, vBin_eq, vVar_0, vC_eq, bd_ok, gIx_t, atI_0, atI_1, atI_2, of_some, vNil_eq, hN, hG, put_s, put_0u, sRet_eq, vList_eq, vLc_eq, vIt_eq, vVar_s, ez, wipeD_cons, wipeD_nil, List.set_cons_succ, List.set_cons_zero, l1, List.length_map, List.length_zip, e1, if_true, retOf_rt, lacksF, List.map_map, Function.comp_def]
end Ev
set_option maxHeartbeats 200000
/-! L3: sums, least errors in plain words. Own work. -/
namespace Ev
open PySem PySem.Spec L2
theorem P_nets {h : Int} {ns : List Note} {cs : List (Option Int)} (k : okB h ns cs = true) : g_nets [encB h ns cs] = .ok (.tuple ((netsF h.toNat ns).map encI)) := by
  obtain ⟨⟨h1, h2⟩, h3, _⟩ := okB_iff.mp k
  refine (fnP_run (f := x_nets) rfl).trans ?_
  have hN := P_nets_of (X := .tuple (ns.map encN)) h1 h2 rfl (by omega : ns.length ≤ 1000)
  have hb := P_need_book k
  rw [encB_0] at hb
  show retOf (x_nets [.d (.tuple [.int h, .tuple (ns.map encN), .tuple (cs.map encO)])]) = _
  simp [x_nets, hb, hN]
theorem P_lacks {h : Int} {ns : List Note} {cs : List (Option Int)} (k : okB h ns cs = true) : g_lacks [encB h ns cs] = .ok (.tuple ((lacksF h.toNat ns cs).map encO)) := by
  obtain ⟨⟨h1, h2⟩, h3, _⟩ := okB_iff.mp k
  obtain ⟨l1, l2⟩ := okB_len k
  refine (fnP_run (f := x_lacks) rfl).trans ?_
  show retOf (x_lacks [.d (encB h ns cs)]) = _
  simp [x_lacks, P_need_book k, P_lacks_of h1 h2 (by omega : ns.length ≤ 1000) (by omega : cs.length ≤ 1000)]
/-! ### sums -/
def known (ls : List (Option Int)) : List Int := ls.filterMap id
def isK (o : Option Int) : Bool := o.isSome
def valO : Option Int → Int
  | some i => i
  | none => 0
def neg (i : Int) : Bool := decide (i < 0)
def pos (i : Int) : Bool := decide (0 < i)
def overF (ls : List (Option Int)) : Int := -((known ls).filter neg).sum
def underF (ls : List (Option Int)) : Int := ((known ls).filter pos).sum
theorem known_map : ∀ ls : List (Option Int), (ls.filter isK).map (fun o => encI (valO o)) = (known ls).map encI
  | [] => rfl
  | none :: r => known_map r
  | some i :: r => congrArg (encI i :: ·) (known_map r)
theorem known_len (ls : List (Option Int)) : (known ls).length ≤ ls.length := List.length_filterMap_le _ _
theorem P_sums_of {X : D} {ls : List (Option Int)} (hX : itemsOf X = some (ls.map encO)) (hl : ls.length ≤ 1000) : g_sums_of [X] = .ok (.tuple [.int (overF ls), .int (underF ls)]) := by
  have sz := size_ge
  have kl := known_len ls
  have e0 : (ls.filter isK).length ≤ sizeLine := by have := List.length_filter_le isK ls; omega
  have e1 : ((known ls).filter neg).length ≤ sizeLine := by have := List.length_filter_le neg (known ls); omega
  have e2 : ((known ls).filter pos).length ≤ sizeLine := by have := List.length_filter_le pos (known ls); omega
  refine (fnP_run (f := x_sums_of) rfl).trans ?_
  have l0 : lcL [2] [2] selOne (vTest (vBin (gCmp .IsNot) (vVar 2) (vC .none))) (vVar 2) (ls.map encO) [.d X, .un, .un] = .ok ((ls.filter isK).map fun o => encI (valO o), [.d X, .un, .un]) := by
    refine lcL_some encO isK (fun o => encI (valO o)) fun o _ => ⟨_, rfl, [.d X, .un, .d (encO o)], ?_, fun _ => rfl, fun ho => ⟨[.d X, .un, .d (encO o)], ?_, rfl⟩⟩
    · cases o <;> simp [isK, encO]
    · cases o with
      | none => cases ho
      | some i => simp [encO, valO, encI]
  rw [known_map] at l0
  have l1 : lcL [2] [2] selOne (vTest (vBin (gCmp .Lt) (vVar 2) (vC (.int 0)))) (vVar 2) ((known ls).map encI) [.d X, .d (.list ((known ls).map encI)), .un] = .ok (((known ls).filter neg).map fun i => .int i, [.d X, .d (.list ((known ls).map encI)), .un]) := by
    refine lcL_some encI neg (fun i => .int i) fun i _ => ⟨_, rfl, [.d X, .d (.list ((known ls).map encI)), .d (encI i)], ?_, fun _ => rfl, fun ho => ⟨[.d X, .d (.list ((known ls).map encI)), .d (encI i)], ?_, rfl⟩⟩
    · simp [encI, neg]
    · simp [encI]
  have l2 : lcL [2] [2] selOne (vTest (vBin (gCmp .Gt) (vVar 2) (vC (.int 0)))) (vVar 2) ((known ls).map encI) [.d X, .d (.list ((known ls).map encI)), .un] = .ok (((known ls).filter pos).map fun i => .int i, [.d X, .d (.list ((known ls).map encI)), .un]) := by
    refine lcL_some encI pos (fun i => .int i) fun i _ => ⟨_, rfl, [.d X, .d (.list ((known ls).map encI)), .d (encI i)], ?_, fun _ => rfl, fun ho => ⟨[.d X, .d (.list ((known ls).map encI)), .d (encI i)], ?_, rfl⟩⟩
    · simp [encI, pos]
    · simp [encI]
  have e3 : (known ls).length ≤ sizeLine := by omega
  have e4 : 2 ≤ sizeLine := by omega
  have s1 := sum_ints ((known ls).filter neg) (fun p => p)
  have s2 := sum_ints ((known ls).filter pos) (fun p => p)
  show retOf (x_sums_of [.d X, .un, .un]) = _
  simp [x_sums_of, hX, l0, l1, l2, e1, e2, e3, e4, s1, s2, overF, underF]
/-! ### the least error -/
def leastF (ls : List (Option Int)) : Option Int := if ls.all isK && decide (overF ls ≠ underF ls) then none else some (max (overF ls) (underF ls))
theorem flat_encO : ∀ ls : List (Option Int), (ls.map encO).all flatD = true
  | [] => rfl
  | none :: r => by simpa [encO, flatD] using flat_encO r
  | some _ :: r => by simpa [encO, flatD] using flat_encO r
theorem none_in : ∀ ls : List (Option Int), ((ls.map encO).any fun y => PyData.eqv y .none) = !ls.all isK
  | [] => rfl
  | none :: r => by simp [encO, PyData.eqv, isK]
  | some i :: r => by
    have := none_in r
    simp only [List.map_cons, List.any_cons, List.all_cons, this]
    simp [encO, PyData.eqv, isK]
theorem notin_none (ls : List (Option Int)) : gCmp .NotIn .none (.list (ls.map encO)) = some (.bool (ls.all isK)) := by
  show (if flatD .none && (ls.map encO).all flatD then some (PyData.bool (!(ls.map encO).any fun y => PyData.eqv y .none)) else none) = _
  rw [flat_encO, none_in]
  simp [flatD]
@[simp] theorem gMax2_ii (i j : Int) : gMax2 [.int i, .int j] = some (.int (max i j)) := by
  show some (PyData.int (if j > i then j else i)) = _
  congr 2
  split <;> omega
@[simp] theorem gMin2_ii (i j : Int) : gMin2 [.int i, .int j] = some (.int (min i j)) := by
  show some (PyData.int (if j < i then j else i)) = _
  congr 2
  split <;> omega
theorem P_least_by {ls : List (Option Int)} (hl : ls.length ≤ 1000) : g_least_by [.list (ls.map encO)] = .ok (encO (leastF ls)) := by
  have hs := P_sums_of (X := .list (ls.map encO)) rfl hl
  refine (fnP_run (f := x_least_by) rfl).trans ?_
  show retOf (x_least_by [.d (.list (ls.map encO)), .un, .un]) = _
  unfold leastF
  cases h1 : ls.all isK
  · simp [x_least_by, hs, notin_none, h1, encO]
  · by_cases h2 : overF ls = underF ls
    · simp [x_least_by, hs, notin_none, h1, h2, encO]
    · simp [x_least_by, hs, notin_none, h1, h2, encO]
end Ev
set_option maxHeartbeats 200000
/-! L4: detours, errors with a net more, in plain words. Own work. -/
namespace Ev
open PySem PySem.Spec L2
@[simp] theorem encO_n : encO none = .none := rfl
@[simp] theorem encO_s (i : Int) : encO (some i) = .int i := rfl
theorem atI_nat {α : Type} (xs : List α) (i : Nat) : atI xs ((i : Nat) : Int) = xs[i]? := by
  unfold atI ixN
  rw [if_pos (by omega)]
  by_cases h : i < xs.length
  · rw [if_pos (by omega)]
    show xs[((i : Nat) : Int).toNat]? = _
    rw [Int.toNat_natCast]
  · rw [if_neg (by omega)]
    show none = _
    rw [List.getElem?_eq_none (by omega)]
theorem atI_map {α : Type} (f : α → D) (xs : List α) (i : Nat) : atI (xs.map f) ((i : Nat) : Int) = (xs[i]?).map f := by rw [atI_nat, List.getElem?_map]
theorem enumD_map {α : Type} (f : α → D) : ∀ (xs : List α) (k : Nat), enumD k (xs.map f) = (xs.zipIdx k).map fun p => .tuple [.int (p.2 : Nat), f p.1]
  | [], _ => rfl
  | x :: xs, k => by
    rw [List.map_cons, List.zipIdx_cons, List.map_cons]
    show PyData.tuple [.int (k : Nat), f x] :: enumD (k + 1) (xs.map f) = _
    rw [enumD_map f xs (k + 1)]
@[simp] theorem enum1_l (xs : List D) : enum1 [.list xs] = some (enumD 0 xs) := rfl
theorem ints_lay : ∀ is : List Int, PyData.canLayAll0 (is.map encI) = true ∧ PyData.depthAll (is.map encI) = 0
  | [] => by constructor <;> simp [PyData.canLayAll0, PyData.depthAll]
  | i :: r => by
    obtain ⟨h1, h2⟩ := ints_lay r
    constructor
    · simp [PyData.canLayAll0, PyData.canLay0, encI, h1]
    · simp only [List.map_cons, PyData.depthAll, encI, PyData.depth]
      omega
theorem ints_shaped (is : List Int) : SeqAt.shaped (.list (is.map encI)) = true := by
  obtain ⟨h1, h2⟩ := ints_lay is
  unfold SeqAt.shaped
  rw [Bool.and_eq_true, decide_eq_true_eq]
  exact ⟨by simp [PyData.canLay0, h1], by simp only [PyData.depth]; omega⟩
theorem ne_nil (is : List Int) : gCmp .NotEq (.list (is.map encI)) (.list []) = some (.bool (!is.isEmpty)) := by
  show (if SeqAt.shaped (.list (is.map encI)) && SeqAt.shaped (.list []) then some (PyData.bool (!PyData.eqv (.list (is.map encI)) (.list []))) else none) = _
  rw [ints_shaped]
  cases is <;> simp [SeqAt.shaped, PyData.canLay0, PyData.canLayAll0, PyData.depth, PyData.depthAll, PyData.eqv, PyData.eqvAll]
@[simp] theorem notin_two (h a b : Int) : gCmp .NotIn (.int h) (.tuple [.int a, .int b]) = some (.bool (decide (h ≠ a) && decide (h ≠ b))) := by
  have : gCmp .NotIn (.int h) (.tuple [.int a, .int b]) = some (.bool (!((a == h) || ((b == h) || false)))) := rfl
  rw [this]
  have e1 : (a == h) = decide (h = a) := by by_cases c : h = a <;> simp [c]; exact fun z => c z.symm
  have e2 : (b == h) = decide (h = b) := by by_cases c : h = b <;> simp [c]; exact fun z => c z.symm
  rw [e1, e2]
  simp
@[simp] theorem gAbs_i (i : Int) : gAbs [.int i] = some (.int (if i < 0 then -i else i)) := rfl
@[simp] theorem gMin3_iii (i j l : Int) : gMin3 [.int i, .int j, .int l] = some (.int (min (min i j) l)) := by
  show some (PyData.int (if l < (if j < i then j else i) then l else (if j < i then j else i))) = _
  congr 2
  split <;> split <;> omega
def absI (i : Int) : Int := if i < 0 then -i else i
def isFree (a b : Int) (p : Option Int × Nat) : Bool := !isK p.1 && (decide ((p.2 : Int) ≠ a) && decide ((p.2 : Int) ≠ b))
def freeF (ls : List (Option Int)) (a b : Int) : List Int := (ls.zipIdx.filter (isFree a b)).map fun p => ((p.2 : Nat) : Int)
def detourF (ls : List (Option Int)) (a b : Nat) (ma mb : Option Int) : Int :=
  match ma, mb with
  | some m, some y => if 0 ≤ m * y then 0 else min (overF ls) (underF ls) - min (min (overF ls) (underF ls)) (overF ls + underF ls - absI m - absI y)
  | none, none => 0
  | some m, none => if (freeF ls a b).isEmpty then max 0 (absI m - (if m < 0 then underF ls else overF ls)) else 0
  | none, some m => if (freeF ls a b).isEmpty then max 0 (absI m - (if m < 0 then underF ls else overF ls)) else 0
theorem P_detour_of {ls : List (Option Int)} {a b : Nat} {ma mb : Option Int} (hl : ls.length ≤ 1000) (ha : ls[a]? = some ma) (hb : ls[b]? = some mb) (hm : ∀ m y, ma = some m → mb = some y → cMul m y = true) :
    g_detour_of [.list (ls.map encO), .int (a : Nat), .int (b : Nat)] = .ok (.int (detourF ls a b ma mb)) := by
  have sz := size_ge
  have hs := P_sums_of (X := .list (ls.map encO)) rfl hl
  have ea : atI (ls.map encO) ((a : Nat) : Int) = some (encO ma) := by rw [atI_map, ha]; rfl
  have eb : atI (ls.map encO) ((b : Nat) : Int) = some (encO mb) := by rw [atI_map, hb]; rfl
  have e2 : 2 ≤ sizeLine := by omega
  have l1 : ∀ (s1 s2 : Sl), lcL [9, 10] [9, 10] (selTup 2) (vAnd (vTest (vBin (gCmp .Is) (vVar 10) (vC .none))) (vTest (vBin (gCmp .NotIn) (vVar 9) (vArg mkTup (vCons (vVar 1) (vCons (vVar 2) vNil)))))) (vVar 9) (ls.zipIdx.map fun p => .tuple [.int (p.2 : Nat), encO p.1])
      [.d (.list (ls.map encO)), .d (.int (a : Nat)), .d (.int (b : Nat)), s1, s2, .un, .un, .un, .un, .un, .un] = .ok ((ls.zipIdx.filter (isFree a b)).map fun p => encI ((p.2 : Nat) : Int), [.d (.list (ls.map encO)), .d (.int (a : Nat)), .d (.int (b : Nat)), s1, s2, .un, .un, .un, .un, .un, .un]) := by
    intro s1 s2
    refine lcL_some (fun p : Option Int × Nat => .tuple [.int (p.2 : Nat), encO p.1]) (isFree a b) (fun p => encI ((p.2 : Nat) : Int)) fun p _ => ⟨[.d (.list (ls.map encO)), .d (.int (a : Nat)), .d (.int (b : Nat)), s1, s2, .un, .un, .un, .un, .d (.int (p.2 : Nat)), .d (encO p.1)], ?_, [.d (.list (ls.map encO)), .d (.int (a : Nat)), .d (.int (b : Nat)), s1, s2, .un, .un, .un, .un, .d (.int (p.2 : Nat)), .d (encO p.1)], ?_, fun _ => ?_, fun _ => ⟨[.d (.list (ls.map encO)), .d (.int (a : Nat)), .d (.int (b : Nat)), s1, s2, .un, .un, .un, .un, .d (.int (p.2 : Nat)), .d (encO p.1)], ?_, ?_⟩⟩
    · simp
    · obtain ⟨o, i⟩ := p
      cases o <;> simp [encO, isFree, isK, e2]
    · simp
    · simp [encI]
    · simp
  have ef : ((ls.zipIdx.filter (isFree a b)).map fun p => encI ((p.2 : Nat) : Int)) = (freeF ls a b).map encI := by unfold freeF; rw [List.map_map]; rfl
  have e1 : (freeF ls a b).length ≤ sizeLine := by
    unfold freeF
    rw [List.length_map]
    have := List.length_filter_le (isFree (a : Int) (b : Int)) ls.zipIdx
    rw [List.length_zipIdx] at this
    omega
  refine (fnP_run (f := x_detour_of) rfl).trans ?_
  show retOf (x_detour_of [.d (.list (ls.map encO)), .d (.int (a : Nat)), .d (.int (b : Nat)), .un, .un, .un, .un, .un, .un, .un, .un]) = _
  cases ma with
  | none =>
    cases mb with
    | none => simp [x_detour_of, hs, enumD_map, l1, ef, e1, ea, eb, ne_nil, e2, detourF]
    | some y =>
      cases hf : (freeF ls a b).isEmpty
      · simp [x_detour_of, hs, enumD_map, l1, ef, e1, ea, eb, ne_nil, e2, detourF, hf]
      · by_cases h1 : y < 0 <;> simp [x_detour_of, hs, enumD_map, l1, ef, e1, ea, eb, ne_nil, e2, detourF, hf, h1, absI]
  | some m =>
    cases mb with
    | none =>
      cases hf : (freeF ls a b).isEmpty
      · simp [x_detour_of, hs, enumD_map, l1, ef, e1, ea, eb, ne_nil, e2, detourF, hf]
      · by_cases h1 : m < 0 <;> simp [x_detour_of, hs, enumD_map, l1, ef, e1, ea, eb, ne_nil, e2, detourF, hf, h1, absI]
    | some y =>
      have hc := hm m y rfl rfl
      by_cases h1 : 0 ≤ m * y
      · simp [x_detour_of, hs, enumD_map, l1, ef, e1, ea, eb, ne_nil, e2, detourF, hc, h1]
      · simp [x_detour_of, hs, enumD_map, l1, ef, e1, ea, eb, ne_nil, e2, detourF, hc, h1, absI]
end Ev
set_option maxHeartbeats 200000
/-! L5: what is owed, in plain words. Own work. -/
namespace Ev
open PySem PySem.Spec L2
def shutF (ls : List (Option Int)) (a b : Nat) (ma mb : Option Int) : Option Int := match leastF ls with
  | none => none
  | some l => if 0 < detourF ls a b ma mb ∧ ls.length = 2 then none else some (l + detourF ls a b ma mb)
theorem isN_encO (o : Option Int) : isN (encO o) = !isK o := by cases o <;> rfl
theorem P_least_shut {ls : List (Option Int)} {a b : Nat} {ma mb : Option Int} (hl : ls.length ≤ 1000) (ha : ls[a]? = some ma) (hb : ls[b]? = some mb) (hm : ∀ m y, ma = some m → mb = some y → cMul m y = true) :
    g_least_shut [.list (ls.map encO), .int (a : Nat), .int (b : Nat)] = .ok (encO (shutF ls a b ma mb)) := by
  refine (fnP_run (f := x_least_shut) rfl).trans ?_
  have hd := P_detour_of hl ha hb hm
  have hy := P_least_by hl
  show retOf (x_least_shut [.d (.list (ls.map encO)), .d (.int (a : Nat)), .d (.int (b : Nat)), .un, .un]) = _
  unfold shutF
  cases h1 : leastF ls with
  | none => simp [x_least_shut, hd, hy, h1]
  | some l =>
    by_cases h2 : 0 < detourF ls a b ma mb
    · by_cases h3 : ls.length = 2
      · simp [x_least_shut, hd, hy, h1, h2, h3]
      · have h3' : ¬ ((ls.length : Int) = 2) := by omega
        simp [x_least_shut, hd, hy, h1, h2, h3, h3']
    · simp [x_least_shut, hd, hy, h1, h2]
/-- one more from a to b -/
def plusO (o : Option Int) (m : Int) : Option Int := o.map fun c => c + m
def minusO (o : Option Int) (m : Int) : Option Int := o.map fun c => c - m
def shiftF (ls : List (Option Int)) (a b : Nat) (ma mb : Option Int) (m : Int) : List (Option Int) := (ls.set a (plusO ma m)).set b (minusO mb m)
def errorF (ls : List (Option Int)) (a b : Nat) (ma mb : Option Int) (m : Int) : Option Int := (shutF (shiftF ls a b ma mb m) a b (plusO ma m) (minusO mb m)).map fun l => l + absI m
theorem ixN_nat {n i : Nat} (h : i < n) : ixN n ((i : Nat) : Int) = some i := by
  unfold ixN
  rw [if_pos (by omega), if_pos (by omega), Int.toNat_natCast]
@[simp] theorem vIxV_eq (i : Nat) (fi : XT D) (δ : List Sl) : vIxV i fi δ = match δ[i]? with
  | some (.d x) => bd (fi δ) fun q => bd (Rs.of (gIx x q.1)) fun z => .ok (z, q.2)
  | _ => bd (Rs.of (lstAt i δ)) fun _ => bd (fi δ) fun q => bd (Rs.of (lstAt i q.2)) fun xs => bd (Rs.of (gIx (.list xs) q.1)) fun z => .ok (z, q.2) := rfl
@[simp] theorem vList1_eq (fe : XT (List D)) (δ : List Sl) : vList1 fe δ = bd (fe δ) fun p => match p.1 with
  | [.list xs] => .ok (xs, p.2)
  | [.tuple xs] => .ok (xs, p.2)
  | _ => .no := rfl
theorem set_enc (ls : List (Option Int)) (i : Nat) (o : Option Int) : (ls.map encO).set i (encO o) = (ls.set i o).map encO := by rw [List.map_set]
theorem store_plus {X A B : D} {a : Nat} {m : Int} {ls : List (Option Int)} {ma : Option Int} (ha : ls[a]? = some ma) :
    sStore 4 (vIf (vTest (vBin (gCmp .Is) (vIxV 4 (vVar 1)) (vC .none))) (vC .none) (vBin gAdd (vIxV 4 (vVar 1)) (vVar 3))) (vVar 1) [.d X, .d (.int (a : Nat)), .d B, .d (.int m), .own (ls.map encO), .un] =
      .ok (.nx, [.d X, .d (.int (a : Nat)), .d B, .d (.int m), .own ((ls.set a (plusO ma m)).map encO), .un]) := by
  have la : a < ls.length := (List.getElem?_eq_some_iff.mp ha).1
  have ea : atI (ls.map encO) ((a : Nat) : Int) = some (encO ma) := by rw [atI_map, ha]; rfl
  have n1 : ixN ls.length ((a : Nat) : Int) = some a := ixN_nat la
  rw [← set_enc]
  cases ma <;> simp [ea, n1, plusO]
theorem store_minus {X A : D} {b : Nat} {m : Int} {ls : List (Option Int)} {mb : Option Int} (hb : ls[b]? = some mb) :
    sStore 4 (vIf (vTest (vBin (gCmp .Is) (vIxV 4 (vVar 2)) (vC .none))) (vC .none) (vBin gSub (vIxV 4 (vVar 2)) (vVar 3))) (vVar 2) [.d X, .d A, .d (.int (b : Nat)), .d (.int m), .own (ls.map encO), .un] =
      .ok (.nx, [.d X, .d A, .d (.int (b : Nat)), .d (.int m), .own ((ls.set b (minusO mb m)).map encO), .un]) := by
  have la : b < ls.length := (List.getElem?_eq_some_iff.mp hb).1
  have ea : atI (ls.map encO) ((b : Nat) : Int) = some (encO mb) := by rw [atI_map, hb]; rfl
  have n1 : ixN ls.length ((b : Nat) : Int) = some b := ixN_nat la
  rw [← set_enc]
  cases mb <;> simp [ea, n1, minusO]
theorem P_error_with {ls : List (Option Int)} {a b : Nat} {ma mb : Option Int} {m : Int} (hl : ls.length ≤ 1000) (hab : a ≠ b) (ha : ls[a]? = some ma) (hb : ls[b]? = some mb) (hm : ∀ x y, ma = some x → mb = some y → cMul (x + m) (y - m) = true) :
    g_error_with [.list (ls.map encO), .int (a : Nat), .int (b : Nat), .int m] = .ok (encO (errorF ls a b ma mb m)) := by
  have la : a < ls.length := (List.getElem?_eq_some_iff.mp ha).1
  have lb : b < ls.length := (List.getElem?_eq_some_iff.mp hb).1
  have g1 : (shiftF ls a b ma mb m)[a]? = some (plusO ma m) := by
    unfold shiftF
    rw [List.getElem?_set_ne (Ne.symm hab), List.getElem?_set_self la]
  have g2 : (shiftF ls a b ma mb m)[b]? = some (minusO mb m) := by
    unfold shiftF
    rw [List.getElem?_set_self (by rw [List.length_set]; exact lb)]
  have hs := P_least_shut (ls := shiftF ls a b ma mb m) (by unfold shiftF; rw [List.length_set, List.length_set]; exact hl) g1 g2 (fun x y e1 e2 => by
    cases ma with
    | none => cases e1
    | some u => cases mb with
      | none => cases e2
      | some v => cases e1; cases e2; exact hm u v rfl rfl)
  have st1 := store_plus (X := .list (ls.map encO)) (A := .none) (B := .int (b : Nat)) (m := m) ha
  have st2 := store_minus (X := .list (ls.map encO)) (A := .int (a : Nat)) (m := m) (ls := ls.set a (plusO ma m)) (show (ls.set a (plusO ma m))[b]? = some mb by rw [List.getElem?_set_ne hab]; exact hb)
  rw [show (ls.set a (plusO ma m)).set b (minusO mb m) = shiftF ls a b ma mb m from rfl] at st2
  refine (fnP_run (f := x_error_with) rfl).trans ?_
  show retOf (x_error_with [.d (.list (ls.map encO)), .d (.int (a : Nat)), .d (.int (b : Nat)), .d (.int m), .un, .un]) = _
  have e0 : sOwn 4 (vList1 (vCons (vVar 0) vNil)) [.d (.list (ls.map encO)), .d (.int (a : Nat)), .d (.int (b : Nat)), .d (.int m), .un, .un] = .ok (.nx, [.d (.list (ls.map encO)), .d (.int (a : Nat)), .d (.int (b : Nat)), .d (.int m), .own (ls.map encO), .un]) := by simp
  unfold x_error_with errorF
  rw [sSeq_eq, e0, bd_ok]
  dsimp only
  rw [sSeq_eq, st1, bd_ok]
  dsimp only
  rw [sSeq_eq, st2, bd_ok]
  dsimp only
  cases h : shutF (shiftF ls a b ma mb m) a b (plusO ma m) (minusO mb m) with
  | none => simp [hs, h]
  | some l => simp [hs, h, absI]
/-! ### how much more -/
def letF (ls : List (Option Int)) (a b : Nat) (ma mb : Option Int) (slack m : Int) : Bool := match errorF ls a b ma mb m with
  | none => false
  | some e => decide (e ≤ slack)
theorem P_is_let {ls : List (Option Int)} {a b : Nat} {ma mb : Option Int} {m slack : Int} (hl : ls.length ≤ 1000) (hab : a ≠ b) (ha : ls[a]? = some ma) (hb : ls[b]? = some mb) (hm : ∀ x y, ma = some x → mb = some y → cMul (x + m) (y - m) = true) :
    g_is_let_owing [.list (ls.map encO), .int (a : Nat), .int (b : Nat), .int m, .int slack] = .ok (.bool (letF ls a b ma mb slack m)) := by
  have he := P_error_with hl hab ha hb hm
  refine (fnP_run (f := x_is_let_owing) rfl).trans ?_
  show retOf (x_is_let_owing [.d (.list (ls.map encO)), .d (.int (a : Nat)), .d (.int (b : Nat)), .d (.int m), .d (.int slack), .un]) = _
  unfold letF
  cases h : errorF ls a b ma mb m <;> simp [x_is_let_owing, he, h]
/-- halving -/
def bs (P : Int → Bool) : Nat → Int → Int → Option Int
  | 0, _, _ => none
  | n + 1, lo, hi => if lo + 1 < hi then (if P ((lo + hi) / 2) = true then bs P n ((lo + hi) / 2) hi else bs P n lo ((lo + hi) / 2)) else some lo
theorem bs_spec {P : Int → Bool} {t : Int} : ∀ (n : Nat) (lo hi : Int), lo ≤ t → t < hi → (∀ x, lo < x → x < hi → (P x = true ↔ x ≤ t)) → hi - lo ≤ 2 ^ n → bs P (n + 1) lo hi = some t
  | n, lo, hi, h1, h2, hP, hn => by
    unfold bs
    by_cases c : lo + 1 < hi
    · rw [if_pos c]
      cases n with
      | zero => omega
      | succ n =>
        have hp : (2 : Int) ^ (n + 1) = 2 * 2 ^ n := by rw [Int.pow_succ]; omega
        rw [hp] at hn
        by_cases cP : P ((lo + hi) / 2) = true
        · rw [if_pos cP]
          have := (hP ((lo + hi) / 2) (by omega) (by omega)).mp cP
          exact bs_spec n _ _ this h2 (fun x x1 x2 => hP x (by omega) x2) (by omega)
        · rw [if_neg cP]
          have : ¬ (lo + hi) / 2 ≤ t := fun z => cP ((hP _ (by omega) (by omega)).mpr z)
          exact bs_spec n _ _ h1 (by omega) (fun x x1 x2 => hP x x1 (by omega)) (by omega)
    · rw [if_neg c]
      congr 1
      omega
end Ev
set_option maxHeartbeats 200000
/-! L6: what is owed, in plain words, on. Own work. -/
namespace Ev
open PySem PySem.Spec L2
@[simp] theorem gDiv_2 (i : Int) : gDiv (.int i) (.int 2) = some (.int (i / 2)) := rfl
theorem whL_stop {c : XT Bool} {body : SX} {n : Nat} {δ δ' : List Sl} (h : c δ = .ok (false, δ')) : whL c body (n + 1) δ = .ok (.nx, δ') := by
  show (c δ).bind _ = _
  rw [h]; rfl
theorem whL_go {c : XT Bool} {body : SX} {n : Nat} {δ δ1 δ2 : List Sl} (h : c δ = .ok (true, δ1)) (hb : body δ1 = .ok (.nx, δ2)) : whL c body (n + 1) δ = whL c body n δ2 := by
  show (c δ).bind _ = _
  rw [h]
  show (body δ1).bind _ = _
  rw [hb]
def slO : Option D → Sl
  | none => .un
  | some x => .d x
abbrev mmC : XT Bool := vTest (vBin (gCmp .Lt) (vBin gAdd (vVar 5) (vC (.int 1))) (vVar 6))
theorem mm_loop {body : SX} {P : Int → Bool} {δ : Int → Int → Option D → List Sl} {c : XT Bool} (lo0 hi0 : Int) (hc : ∀ lo hi s, c (δ lo hi s) = .ok (decide (lo + 1 < hi), δ lo hi s))
    (hb : ∀ lo hi s, lo0 ≤ lo → hi ≤ hi0 → lo + 1 < hi → body (δ lo hi s) = .ok (.nx, if P ((lo + hi) / 2) = true then δ ((lo + hi) / 2) hi (some (.int ((lo + hi) / 2))) else δ lo ((lo + hi) / 2) (some (.int ((lo + hi) / 2))))) :
    ∀ (n : Nat) (lo hi : Int) (s : Option D) (r : Int), lo0 ≤ lo → hi ≤ hi0 → bs P n lo hi = some r → ∃ hi' s', whL c body n (δ lo hi s) = .ok (.nx, δ r hi' s')
  | 0, _, _, _, _, _, _, h => by cases h
  | n + 1, lo, hi, s, r, h1, h2, h => by
    unfold bs at h
    by_cases k : lo + 1 < hi
    · rw [if_pos k] at h
      have hb' := hb lo hi s h1 h2 k
      have hc' := hc lo hi s
      rw [decide_eq_true k] at hc'
      rw [whL_go hc' hb']
      by_cases kP : P ((lo + hi) / 2) = true
      · rw [if_pos kP] at h ⊢
        exact mm_loop lo0 hi0 hc hb n _ _ _ r (by omega) h2 h
      · rw [if_neg kP] at h ⊢
        exact mm_loop lo0 hi0 hc hb n _ _ _ r h1 (by omega) h
    · rw [if_neg k] at h
      have hc' := hc lo hi s
      rw [decide_eq_false k] at hc'
      rw [whL_stop hc']
      cases h
      exact ⟨_, _, rfl⟩
theorem P_most_more {X A B : D} {P : Int → Bool} {begin slack r : Int} (hP : ∀ m, begin < m → m ≤ slack → g_is_let_owing [X, A, B, .int m, .int slack] = .ok (.bool (P m))) (h : bs P 200 begin (slack + 1) = some r) :
    g_most_more [X, A, B, .int begin, .int slack] = .ok (.int r) := by
  refine (fnP_run (f := x_most_more) rfl).trans ?_
  obtain ⟨hi', s', e⟩ := mm_loop (P := P) (δ := fun lo hi s => [.d X, .d A, .d B, .d (.int begin), .d (.int slack), .d (.int lo), .d (.int hi), slO s]) (c := mmC)
    (body := sSeq (sSet 7 (vBin gDiv (vBin gAdd (vVar 5) (vVar 6)) (vC (.int 2)))) (sIf (vTest (vCall g_is_let_owing (vCons (vVar 0) (vCons (vVar 1) (vCons (vVar 2) (vCons (vVar 7) (vCons (vVar 4) vNil))))))) (sSet 5 (vVar 7)) (sSet 6 (vVar 7)))) begin (slack + 1)
    (fun lo hi s => by simp) (fun lo hi s h1 h2 h3 => by
      have hp := hP ((lo + hi) / 2) (by omega) (by omega)
      cases s <;> by_cases c : P ((lo + hi) / 2) = true <;> simp [hp, c, slO]) 200 begin (slack + 1) none r (Int.le_refl _) (Int.le_refl _) h
  show retOf (x_most_more [.d X, .d A, .d B, .d (.int begin), .d (.int slack), .un, .un, .un]) = _
  have e0 : sPar [5, 6] (vCons (vVar 3) (vCons (vBin gAdd (vVar 4) (vC (.int 1))) vNil)) [.d X, .d A, .d B, .d (.int begin), .d (.int slack), .un, .un, .un] = .ok (.nx, [.d X, .d A, .d B, .d (.int begin), .d (.int slack), .d (.int begin), .d (.int (slack + 1)), .un]) := by simp
  unfold x_most_more
  rw [sSeq_eq, e0, bd_ok]
  dsimp only
  rw [sSeq_eq, show whL _ _ 200 [.d X, .d A, .d B, .d (.int begin), .d (.int slack), .d (.int begin), .d (.int (slack + 1)), .un] = _ from e, bd_ok]
  simp
theorem cMul_small {i j : Int} (hi : i.natAbs < 2 ^ 400) (hj : j.natAbs < 2 ^ 400) : cMul i j = true := by
  unfold cMul
  have h : ∀ k : Nat, k < 2 ^ 400 → k.log2 < 400 := fun k hk => by
    by_cases k0 : k = 0
    · subst k0; decide
    · exact (Nat.log2_lt k0).mpr hk
  have h1 := h _ hi
  have h2 := h _ hj
  rw [decide_eq_true (by omega)]
  rfl
end Ev
set_option maxHeartbeats 200000
/-! L7: moves, nets by a slack, debts, in plain words. Own work. -/
namespace Ev
open PySem PySem.Spec L2
/-- the loop of moves_by over notes -/
def loopN : Nat → List (Int × Int) → List (Int × Int) → List Note → Option (List Note)
  | 0, _, _, _ => none
  | _ + 1, [], _, acc => some acc
  | n + 1, (h, a) :: gs, (t, b) :: ts, acc => loopN n (posM ((h, a - (if b < a then b else a)) :: gs)) (posM ((t, b - (if b < a then b else a)) :: ts)) (acc ++ [(h, t, if b < a then b else a)])
  | _ + 1, _ :: _, [], _ => none
theorem loopM_N : ∀ (n : Nat) (gs ts : List (Int × Int)) (acc : List Note), loopM n gs ts (acc.map encN) = (loopN n gs ts acc).map fun l => l.map encN
  | 0, _, _, _ => rfl
  | _ + 1, [], _, acc => rfl
  | n + 1, (h, a) :: gs, (t, b) :: ts, acc => by
    have := loopM_N n (posM ((h, a - (if b < a then b else a)) :: gs)) (posM ((t, b - (if b < a then b else a)) :: ts)) (acc ++ [(h, t, if b < a then b else a)])
    rw [List.map_append] at this
    exact this
  | _ + 1, _ :: _, [], _ => rfl
theorem optsOf_enc : ∀ ls : List (Option Int), optsOf (ls.map encO) = some ls
  | [] => rfl
  | none :: r => by
    show (optsOf (r.map encO)).map (none :: ·) = _
    rw [optsOf_enc r]; rfl
  | some i :: r => by
    show (optsOf (r.map encO)).map (some i :: ·) = _
    rw [optsOf_enc r]; rfl
/-- where the first open house is -/
def openF (ls : List (Option Int)) : Option Int := noneAt (ls.map encO)
def movesF (ls : List (Option Int)) : Option (List Note) :=
  (if overF ls < underF ls then (openF ls).map fun j => rowsM (-1) 0 ls ++ [(j, underF ls - overF ls)] else some (rowsM (-1) 0 ls)).bind fun gs =>
  (if underF ls < overF ls then (openF ls).map fun j => rowsM 1 0 ls ++ [(j, overF ls - underF ls)] else some (rowsM 1 0 ls)).bind fun ts => loopN 300 gs ts []
theorem P_moves_by {ls : List (Option Int)} {ms : List Note} (hl : ls.length ≤ 100) (h : movesF ls = some ms) : g_moves_by [.list (ls.map encO)] = .ok (.list (ms.map encN)) := by
  have hs := P_sums_of (X := .list (ls.map encO)) rfl (by omega : ls.length ≤ 1000)
  have e : movesM (ls.map encO) ls (overF ls) (underF ls) = some (ms.map encN) := by
    unfold movesM
    unfold movesF openF at h
    cases h1 : (if overF ls < underF ls then (noneAt (ls.map encO)).map fun j => rowsM (-1) 0 ls ++ [(j, underF ls - overF ls)] else some (rowsM (-1) 0 ls)) with
    | none => rw [h1] at h; cases h
    | some gs =>
      rw [h1] at h
      cases h2 : (if underF ls < overF ls then (noneAt (ls.map encO)).map fun j => rowsM 1 0 ls ++ [(j, overF ls - underF ls)] else some (rowsM 1 0 ls)) with
      | none => rw [h2] at h; cases h
      | some ts =>
        rw [h2] at h
        show (if ls.length ≤ 100 then loopM 300 gs ts [] else none) = _
        rw [if_pos hl]
        have := loopM_N 300 gs ts []
        rw [show loopN 300 gs ts [] = some ms from h] at this
        exact this
  show movesBy g_sums_of [.list (ls.map encO)] = _
  unfold movesBy
  dsimp only
  rw [hs]
  dsimp only
  rw [optsOf_enc, show (some ls).bind (fun l => movesM (ls.map encO) l (overF ls) (underF ls)) = some (ms.map encN) from e]
  rfl
theorem P_need_truth {ls : List (Option Int)} {slack l : Int} (hl : ls.length ≤ 1000) (h : leastF ls = some l) (hs : l ≤ slack) : g_need_truth [.list (ls.map encO), .int slack] = .ok .none := by
  refine (fnP_run (f := x_need_truth) rfl).trans ?_
  have hy := P_least_by hl
  show retOf (x_need_truth [.d (.list (ls.map encO)), .d (.int slack), .un]) = _
  have hs' : ¬ slack < l := by omega
  simp [x_need_truth, hy, h, hs']
theorem P_nets_by {h : Int} {ns ms : List Note} {cs ls : List (Option Int)} {slack l w bg r1 r2 : Int} {a b i : Nat} (k : okB h ns cs = true) (el : lacksF h.toNat ns cs = ls) (hl : leastF ls = some l) (hs : l ≤ slack) (hm : movesF ls = some ms) (lm : ms.length ≤ 1000)
    (hi : gIndex (.list ((pairsF h.toNat).map encP)) [.tuple [.int (a : Nat), .int (b : Nat)]] = some (.int (i : Nat))) (hw : (netsF h.toNat ns)[i]? = some w) (hb : (netsF h.toNat ms)[i]? = some bg)
    (h1 : g_most_more [.list (ls.map encO), .int (a : Nat), .int (b : Nat), .int bg, .int slack] = .ok (.int r1)) (h2 : g_most_more [.list (ls.map encO), .int (b : Nat), .int (a : Nat), .int (-bg), .int slack] = .ok (.int r2)) :
    g_nets_by [encB h ns cs, .int slack, .int (a : Nat), .int (b : Nat)] = .ok (.tuple [.int (w - r2), .int (w + r1)]) := by
  obtain ⟨⟨k1, k2⟩, k3, _⟩ := okB_iff.mp k
  obtain ⟨l1, l2⟩ := okB_len k
  have sz := size_ge
  have e2 : 2 ≤ sizeLine := by omega
  have hL := P_lacks_of (ns := ns) (cs := cs) k1 k2 (by omega) (by omega)
  have hN := P_nets_of (X := .tuple (ns.map encN)) k1 k2 rfl (by omega : ns.length ≤ 1000)
  have hM := P_nets_of (X := .list (ms.map encN)) k1 k2 rfl lm
  rw [el] at hL
  have ll : ls.length ≤ 5 := by
    rw [← el]
    unfold lacksF
    rw [List.length_map, List.length_zip]
    omega
  have hT := P_need_truth (slack := slack) (by omega : ls.length ≤ 1000) hl hs
  have hV := P_moves_by (by omega : ls.length ≤ 100) hm
  have hP := P_pairs_of h k1 k2
  have w' : atI ((netsF h.toNat ns).map encI) ((i : Nat) : Int) = some (.int w) := by rw [atI_map, hw]; rfl
  have b' : atI ((netsF h.toNat ms).map encI) ((i : Nat) : Int) = some (.int bg) := by rw [atI_map, hb]; rfl
  rw [encB_0] at hL ⊢
  refine (fnP_run (f := x_nets_by) rfl).trans ?_
  show retOf (x_nets_by [.d (.tuple [.int h, .tuple (ns.map encN), .tuple (cs.map encO)]), .d (.int slack), .d (.int (a : Nat)), .d (.int (b : Nat)), .un, .un, .un, .un, .un]) = _
  have vm : ∀ (fo : XT D) (fa : XT (List D)) (δ : List Sl), vMeth isL gIndex fo fa δ = bd (fo δ) fun p => if isL p.1 then bd (fa p.2) fun q => bd (Rs.of (gIndex p.1 q.1)) fun z => .ok (z, q.2) else .no := fun _ _ _ => rfl
  simp [x_nets_by, hL, hT, hV, hP, hN, hM, vm, isL, hi, w', b', h1, h2, e2]
theorem P_owes_by {X : D} {slack lo hi : Int} (h : g_nets_by [X, .int slack, .int 0, .int 1] = .ok (.tuple [.int lo, .int hi])) : g_owes_by [X, .int slack, .int 1, .int 0] = .ok (.tuple [.int lo, .int hi]) := by
  have sz := size_ge
  have e2 : 2 ≤ sizeLine := by omega
  refine (fnP_run (f := x_owes_by) rfl).trans ?_
  show retOf (x_owes_by [.d X, .d (.int slack), .d (.int 1), .d (.int 0), .un, .un]) = _
  have m1 : min (1 : Int) 0 = 0 := by decide
  have m2 : max (1 : Int) 0 = 1 := by decide
  simp [x_owes_by, h, m1, m2, e2]
theorem P_need_slack {slack : Int} (h : 0 ≤ slack) (h2 : slack ≤ 100000000000000000000000000000000) : g_need_slack [.int slack] = .ok .none := by
  refine (fnP_run (f := x_need_slack) rfl).trans ?_
  show retOf (x_need_slack [.d (.int slack)]) = _
  have := inR_iff.mpr ⟨h, h2⟩
  simp [x_need_slack, P_is_integer, this]
theorem P_need_houses {h a b : Int} (h1 : 0 ≤ a) (h2 : a ≤ h - 1) (h3 : 0 ≤ b) (h4 : b ≤ h - 1) (h5 : b ≠ a) : g_need_houses [.int h, .int a, .int b] = .ok .none := by
  refine (fnP_run (f := x_need_houses) rfl).trans ?_
  show retOf (x_need_houses [.d (.int h), .d (.int a), .d (.int b)]) = _
  have e1 := inR_iff.mpr ⟨h1, h2⟩
  have e2 := inR_iff.mpr ⟨h3, h4⟩
  simp [x_need_houses, P_is_integer, e1, e2, h5]
theorem P_owes {h slack a b : Int} {ns : List Note} {cs : List (Option Int)} {d : D} (k : okB h ns cs = true) (s1 : 0 ≤ slack) (s2 : slack ≤ 100000000000000000000000000000000) (h1 : 0 ≤ a) (h2 : a ≤ h - 1) (h3 : 0 ≤ b) (h4 : b ≤ h - 1) (h5 : b ≠ a)
    (e : g_owes_by [encB h ns cs, .int slack, .int a, .int b] = .ok d) : g_owes [encB h ns cs, .int slack, .int a, .int b] = .ok d := by
  refine (fnP_run (f := x_owes) rfl).trans ?_
  have hb := P_need_book k
  rw [encB_0] at e hb ⊢
  show retOf (x_owes [.d (.tuple [.int h, .tuple (ns.map encN), .tuple (cs.map encO)]), .d (.int slack), .d (.int a), .d (.int b)]) = _
  simp [x_owes, hb, P_need_slack s1 s2, P_need_houses h1 h2 h3 h4 h5, e]
theorem P_least_error {h : Int} {ns : List Note} {cs : List (Option Int)} (k : okB h ns cs = true) : g_least_error [encB h ns cs] = .ok (encO (leastF (lacksF h.toNat ns cs))) := by
  obtain ⟨⟨k1, k2⟩, k3, _⟩ := okB_iff.mp k
  obtain ⟨l1, l2⟩ := okB_len k
  have ll : (lacksF h.toNat ns cs).length ≤ 1000 := by
    unfold lacksF
    rw [List.length_map, List.length_zip]
    omega
  refine (fnP_run (f := x_least_error) rfl).trans ?_
  show retOf (x_least_error [.d (encB h ns cs)]) = _
  simp [x_least_error, P_need_book k, P_lacks_of (ns := ns) (cs := cs) k1 k2 (by omega) (by omega), P_least_by ll]
def truthF (h : Nat) (ns ms : List Note) : List Int := ((netsF h ns).zip (netsF h ms)).map fun p => p.1 + p.2
theorem P_truth_by {h : Int} {ns ms : List Note} {cs : List (Option Int)} (h1 : 2 ≤ h) (h2 : h ≤ 5) (hn : ns.length ≤ 1000) (hm : ms.length ≤ 1000) : g_truth_by [encB h ns cs, .list (ms.map encN)] = .ok (.tuple ((truthF h.toNat ns ms).map encI)) := by
  have sz := size_ge
  have hN := P_nets_of (X := .tuple (ns.map encN)) h1 h2 rfl hn
  have hM := P_nets_of (X := .list (ms.map encN)) h1 h2 rfl hm
  have pl := pairs_len h.toNat (by omega)
  refine (fnP_run (f := x_truth_by) rfl).trans ?_
  have l1 : ∀ X : D, lcL [3, 4] [3, 4] (selTup 2) tTrue (vBin gAdd (vVar 3) (vVar 4)) (((netsF h.toNat ns).zip (netsF h.toNat ms)).map fun p => .tuple [encI p.1, encI p.2])
      [.d X, .d (.list (ms.map encN)), .d (.list ((netsF h.toNat ms).map encI)), .un, .un] = .ok (((netsF h.toNat ns).zip (netsF h.toNat ms)).map fun p => encI (p.1 + p.2), [.d X, .d (.list (ms.map encN)), .d (.list ((netsF h.toNat ms).map encI)), .un, .un]) := by
    intro X
    refine lcL_all (fun p : Int × Int => .tuple [encI p.1, encI p.2]) (fun p => encI (p.1 + p.2)) fun p _ => ⟨[.d X, .d (.list (ms.map encN)), .d (.list ((netsF h.toNat ms).map encI)), .d (encI p.1), .d (encI p.2)], ?_, _, rfl, [.d X, .d (.list (ms.map encN)), .d (.list ((netsF h.toNat ms).map encI)), .d (encI p.1), .d (encI p.2)], ?_, ?_⟩
    · simp
    · simp [encI]
    · simp
  have ez : zip2 [.list ((netsF h.toNat ns).map encI), .list ((netsF h.toNat ms).map encI)] = some (((netsF h.toNat ns).zip (netsF h.toNat ms)).map fun p => .tuple [encI p.1, encI p.2]) := by rw [zip2_of rfl rfl, zipD_map]
  have e1 : min (netsF h.toNat ns).length (netsF h.toNat ms).length ≤ sizeLine := by unfold netsF; rw [List.length_map]; omega
  rw [encB_0]
  show retOf (x_truth_by [.d (.tuple [.int h, .tuple (ns.map encN), .tuple (cs.map encO)]), .d (.list (ms.map encN)), .un, .un, .un]) = _
  have l1' := l1 (.tuple [.int h, .tuple (ns.map encN), .tuple (cs.map encO)])
  simp [x_truth_by, hN, hM, ez, l1', e1, truthF, Function.comp_def]
theorem P_truth {h l : Int} {ns ms : List Note} {cs ls : List (Option Int)} (k : okB h ns cs = true) (el : lacksF h.toNat ns cs = ls) (hl : leastF ls = some l) (hm : movesF ls = some ms) (lm : ms.length ≤ 1000) : g_truth [encB h ns cs] = .ok (.tuple ((truthF h.toNat ns ms).map encI)) := by
  obtain ⟨⟨k1, k2⟩, k3, _⟩ := okB_iff.mp k
  obtain ⟨l1, l2⟩ := okB_len k
  have ll : ls.length ≤ 5 := by
    rw [← el]
    unfold lacksF
    rw [List.length_map, List.length_zip]
    omega
  have hL := P_lacks_of (ns := ns) (cs := cs) k1 k2 (by omega) (by omega)
  rw [el] at hL
  have hy := P_least_by (by omega : ls.length ≤ 1000)
  have hV := P_moves_by (by omega : ls.length ≤ 100) hm
  refine (fnP_run (f := x_truth) rfl).trans ?_
  show retOf (x_truth [.d (encB h ns cs), .un]) = _
  simp [x_truth, P_need_book k, hL, hy, hl, hV, P_truth_by (cs := cs) k1 k2 (by omega : ns.length ≤ 1000) lm]
end Ev
set_option maxHeartbeats 200000
/-! L8: debts, prices, counts in plain words. Own work. -/
namespace Ev
open PySem PySem.Spec L2
/-! ### tuples compared -/
theorem eqv_ints : ∀ xs ys : List Int, PyData.eqvAll (xs.map encI) (ys.map encI) = decide (xs = ys)
  | [], [] => rfl
  | [], _ :: _ => rfl
  | _ :: _, [] => rfl
  | x :: xs, y :: ys => by
    have ih := eqv_ints xs ys
    simp only [List.map_cons, PyData.eqvAll, ih, encI, PyData.eqv]
    by_cases c : x = y <;> by_cases c2 : xs = ys <;> simp [c, c2]
theorem eqv_opts : ∀ xs ys : List (Option Int), PyData.eqvAll (xs.map encO) (ys.map encO) = decide (xs = ys)
  | [], [] => rfl
  | [], _ :: _ => rfl
  | _ :: _, [] => rfl
  | x :: xs, y :: ys => by
    have ih := eqv_opts xs ys
    simp only [List.map_cons, PyData.eqvAll, ih]
    cases x with
    | none => cases y with
      | none => by_cases c2 : xs = ys <;> simp [c2, PyData.eqv]
      | some j => simp [PyData.eqv]
    | some i => cases y with
      | none => simp [PyData.eqv]
      | some j =>
        simp only [encO_s, PyData.eqv]
        by_cases c : i = j <;> by_cases c2 : xs = ys <;> simp [c, c2]
theorem opts_lay : ∀ is : List (Option Int), PyData.canLayAll0 (is.map encO) = true ∧ PyData.depthAll (is.map encO) = 0
  | [] => by constructor <;> simp [PyData.canLayAll0, PyData.depthAll]
  | none :: r => by
    obtain ⟨h1, h2⟩ := opts_lay r
    constructor
    · simp [PyData.canLayAll0, PyData.canLay0, h1]
    · simp only [List.map_cons, PyData.depthAll, encO_n, PyData.depth]; omega
  | some i :: r => by
    obtain ⟨h1, h2⟩ := opts_lay r
    constructor
    · simp [PyData.canLayAll0, PyData.canLay0, h1]
    · simp only [List.map_cons, PyData.depthAll, encO_s, PyData.depth]; omega
theorem ints_shapedT (is : List Int) : SeqAt.shaped (.tuple (is.map encI)) = true := by
  obtain ⟨h1, h2⟩ := ints_lay is
  unfold SeqAt.shaped
  rw [Bool.and_eq_true, decide_eq_true_eq]
  exact ⟨by simp [PyData.canLay0, h1], by simp only [PyData.depth]; omega⟩
theorem opts_shapedT (is : List (Option Int)) : SeqAt.shaped (.tuple (is.map encO)) = true := by
  obtain ⟨h1, h2⟩ := opts_lay is
  unfold SeqAt.shaped
  rw [Bool.and_eq_true, decide_eq_true_eq]
  exact ⟨by simp [PyData.canLay0, h1], by simp only [PyData.depth]; omega⟩
theorem eq_ints (xs ys : List Int) : gCmp .Eq (.tuple (xs.map encI)) (.tuple (ys.map encI)) = some (.bool (decide (xs = ys))) := by
  show (if SeqAt.shaped (.tuple (xs.map encI)) && SeqAt.shaped (.tuple (ys.map encI)) then some (PyData.bool (PyData.eqv (.tuple (xs.map encI)) (.tuple (ys.map encI)))) else none) = _
  rw [ints_shapedT, ints_shapedT]
  simp only [Bool.and_self, if_true, PyData.eqv, eqv_ints]
theorem eq_opts (xs ys : List (Option Int)) : gCmp .Eq (.tuple (xs.map encO)) (.tuple (ys.map encO)) = some (.bool (decide (xs = ys))) := by
  show (if SeqAt.shaped (.tuple (xs.map encO)) && SeqAt.shaped (.tuple (ys.map encO)) then some (PyData.bool (PyData.eqv (.tuple (xs.map encO)) (.tuple (ys.map encO)))) else none) = _
  rw [opts_shapedT, opts_shapedT]
  simp only [Bool.and_self, if_true, PyData.eqv, eqv_opts]
/-! ### debts either way -/
theorem P_owes_by2 {X : D} {slack a b lo hi : Int} (h : g_nets_by [X, .int slack, .int (min a b), .int (max a b)] = .ok (.tuple [.int lo, .int hi])) :
    g_owes_by [X, .int slack, .int a, .int b] = .ok (if b < a then .tuple [.int lo, .int hi] else .tuple [.int (-hi), .int (-lo)]) := by
  have sz := size_ge
  have e2 : 2 ≤ sizeLine := by omega
  refine (fnP_run (f := x_owes_by) rfl).trans ?_
  show retOf (x_owes_by [.d X, .d (.int slack), .d (.int a), .d (.int b), .un, .un]) = _
  by_cases c : b < a <;> simp [x_owes_by, h, c, e2]
theorem P_is_wrong {h slack a b lo hi w w2 : Int} {ns : List Note} {cs : List (Option Int)} (k : okB h ns cs = true) (s1 : 0 ≤ slack) (s2 : slack ≤ 100000000000000000000000000000000) (h1 : 0 ≤ a) (h2 : a ≤ h - 1) (h3 : 0 ≤ b) (h4 : b ≤ h - 1) (h5 : b ≠ a)
    (e : g_owes_by [encB h ns cs, .int slack, .int a, .int b] = .ok (.tuple [.int lo, .int hi])) (e2 : g_owes_by [encB h ns (List.replicate h.toNat none), .int 0, .int a, .int b] = .ok (.tuple [.int w, .int w2])) :
    g_is_wrong [encB h ns cs, .int slack, .int a, .int b] = .ok (.str (if ¬ (lo ≤ w ∧ w ≤ hi) then "sure" else if lo = hi then "never" else "open")) := by
  have sz := size_ge
  obtain ⟨⟨k1, k2⟩, k3, _⟩ := okB_iff.mp k
  have z1 : 1 ≤ sizeLine := by omega
  have z3 : 3 ≤ sizeLine := by omega
  have hb := P_need_book k
  have er : gMul (.tuple [.none]) (.int h) = some (.tuple ((List.replicate h.toNat none).map encO)) := by
    have : h = 2 ∨ h = 3 ∨ h = 4 ∨ h = 5 := by omega
    rcases this with rfl | rfl | rfl | rfl <;> kernel_rfl
  rw [encB_0] at e e2 hb ⊢
  generalize (List.replicate h.toNat (none : Option Int)).map encO = N at er e2
  refine (fnP_run (f := x_is_wrong) rfl).trans ?_
  show retOf (x_is_wrong [.d (.tuple [.int h, .tuple (ns.map encN), .tuple (cs.map encO)]), .d (.int slack), .d (.int a), .d (.int b), .un, .un, .un]) = _
  have hs := P_need_slack s1 s2
  have hh := P_need_houses h1 h2 h3 h4 h5
  by_cases c1 : lo ≤ w
  · by_cases c2 : w ≤ hi
    · by_cases c3 : lo = hi
      · subst c3
        simp [x_is_wrong, hb, hs, hh, e, e2, er, z1, z3, c1, c2]
      · simp [x_is_wrong, hb, hs, hh, e, e2, er, z1, z3, c1, c2, c3]
    · simp [x_is_wrong, hb, hs, hh, e, e2, er, z1, z3, c1, c2]
  · simp [x_is_wrong, hb, hs, hh, e, e2, er, z1, z3, c1]
/-! ### prices -/
theorem all_ints {is : List Int} {δ : List Sl} {i : Nat} {fe : XT D} (own : List Nat) (h : ∀ x, ∃ δ1, putD [i] [.int x] δ = some δ1 ∧ ∃ δ3, fe δ1 = .ok (.bool true, δ3) ∧ wipeD δ3 own = δ) :
    lcL own [i] selOne tTrue fe (is.map encI) δ = .ok (is.map fun _ => .bool true, δ) := by
  refine lcL_all encI (fun _ => .bool true) fun x _ => ?_
  obtain ⟨δ1, e1, δ3, e3, e4⟩ := h x
  exact ⟨δ1, e1, δ1, rfl, δ3, e3, e4⟩
def pricesB (h : Int) (cs : List (Option Int)) (ps : List Int) : Bool := decide ((ps.length : Int) = h) && (decide (¬ 1 < maxI ps - minI ps) && (cs.zip ps).all fun p => isK p.1 || decide (p.2 = 0))
@[simp] theorem gMaxI_t (ns : List Int) (h : 0 < ns.length) : gMaxI [.tuple (ns.map encI)] = some (.int (maxI ns)) := by
  show (intsOf (ns.map PyData.int)).bind _ = _
  rw [intsOf_map]
  show (if 0 < ns.length then _ else _) = _
  rw [if_pos h]
@[simp] theorem gMinI_t (ns : List Int) (h : 0 < ns.length) : gMinI [.tuple (ns.map encI)] = some (.int (minI ns)) := by
  show (intsOf (ns.map PyData.int)).bind _ = _
  rw [intsOf_map]
  show (if 0 < ns.length then _ else _) = _
  rw [if_pos h]
theorem P_are_prices {h : Int} {ns : List Note} {cs : List (Option Int)} {ps : List Int} (k : okB h ns cs = true) : g_are_prices [encB h ns cs, .tuple (ps.map encI)] = .ok (.bool (pricesB h cs ps)) := by
  obtain ⟨⟨k1, k2⟩, k3, _⟩ := okB_iff.mp k
  obtain ⟨l1, l2⟩ := okB_len k
  have sz := size_ge
  rw [encB_0]
  refine (fnP_run (f := x_are_prices) rfl).trans ?_
  generalize hB : PyData.tuple [.int h, .tuple (ns.map encN), .tuple (cs.map encO)] = B
  show retOf (x_are_prices [.d B, .d (.tuple (ps.map encI)), .un, .un]) = _
  unfold pricesB
  by_cases c1 : (ps.length : Int) = h
  · have e1 : ps.length ≤ sizeLine := by omega
    have e2 : 0 < ps.length := by omega
    have e3 : min cs.length ps.length ≤ sizeLine := by omega
    have a1 : lcL [3] [3] selOne tTrue (vAndV (vIsi .int (vVar 3)) (vNotV (vIsi .bool (vVar 3)))) (ps.map encI) [.d B, .d (.tuple (ps.map encI)), .un, .un] = .ok (ps.map fun _ => .bool true, [.d B, .d (.tuple (ps.map encI)), .un, .un]) :=
      all_ints [3] fun x => ⟨_, rfl, [.d B, .d (.tuple (ps.map encI)), .un, .d (.int x)], by simp, rfl⟩
    have a2 : lcL [2, 3] [2, 3] (selTup 2) tTrue (vOrV (vBin (gCmp .IsNot) (vVar 2) (vC .none)) (vBin (gCmp .Eq) (vVar 3) (vC (.int 0)))) ((cs.zip ps).map fun p => .tuple [encO p.1, encI p.2]) [.d B, .d (.tuple (ps.map encI)), .un, .un] =
        .ok ((cs.zip ps).map fun p => .bool (isK p.1 || decide (p.2 = 0)), [.d B, .d (.tuple (ps.map encI)), .un, .un]) := by
      refine lcL_all (fun p : Option Int × Int => .tuple [encO p.1, encI p.2]) (fun p => .bool (isK p.1 || decide (p.2 = 0))) fun p _ => ⟨[.d B, .d (.tuple (ps.map encI)), .d (encO p.1), .d (.int p.2)], ?_, _, rfl, [.d B, .d (.tuple (ps.map encI)), .d (encO p.1), .d (.int p.2)], ?_, rfl⟩
      · simp [encI]
      · obtain ⟨o, i⟩ := p
        cases o <;> simp [isK]
    have ez : zip2 [.tuple (cs.map encO), .tuple (ps.map encI)] = some ((cs.zip ps).map fun p => .tuple [encO p.1, encI p.2]) := by rw [zip2_of rfl rfl, zipD_map]
    have q1 := all_bools ps (fun _ => true)
    have q2 := all_bools (cs.zip ps) (fun p => isK p.1 || decide (p.2 = 0))
    rw [← hB] at a1 a2 ⊢
    by_cases c2 : 1 < maxI ps - minI ps
    · simp [x_are_prices, c1, e1, e2, a1, q1, c2]
    · simp [x_are_prices, c1, e1, e2, e3, a1, q1, c2, ez, a2, q2]
  · rw [← hB]
    simp [x_are_prices, c1]
def shownF (ps : List Int) (ls : List (Option Int)) : Int := (((ps.zip ls).filter fun p => isK p.2).map fun p => p.1 * valO p.2).sum
theorem P_shown {h : Int} {ns : List Note} {cs ls : List (Option Int)} {ps : List Int} (k : okB h ns cs = true) (el : lacksF h.toNat ns cs = ls) (hp : pricesB h cs ps = true) (hm : ∀ p ∈ ps.zip ls, cMul p.1 (valO p.2) = true) : g_shown [encB h ns cs, .tuple (ps.map encI)] = .ok (.int (shownF ps ls)) := by
  obtain ⟨⟨k1, k2⟩, k3, _⟩ := okB_iff.mp k
  obtain ⟨l1, l2⟩ := okB_len k
  have sz := size_ge
  have hL := P_lacks_of (ns := ns) (cs := cs) k1 k2 (by omega) (by omega)
  rw [el] at hL
  have hA := P_are_prices (ps := ps) k
  rw [hp] at hA
  have e3 : ((ps.zip ls).filter fun p => isK p.2).length ≤ sizeLine := by
    have h1 := List.length_filter_le (fun p : Int × Option Int => isK p.2) (ps.zip ls)
    have h2 : (ps.zip ls).length ≤ ls.length := by rw [List.length_zip]; omega
    have h3 : ls.length ≤ 5 := by
      rw [← el]; unfold lacksF
      rw [List.length_map, List.length_zip]; omega
    omega
  have hb := P_need_book k
  refine (fnP_run (f := x_shown) rfl).trans ?_
  generalize encB h ns cs = B at *
  have a2 : lcL [2, 3] [2, 3] (selTup 2) (vTest (vBin (gCmp .IsNot) (vVar 3) (vC .none))) (vBin (iI cMul fun i j => i * j) (vVar 2) (vVar 3)) ((ps.zip ls).map fun p => .tuple [encI p.1, encO p.2]) [.d B, .d (.tuple (ps.map encI)), .un, .un] =
      .ok (((ps.zip ls).filter fun p => isK p.2).map fun p => .int (p.1 * valO p.2), [.d B, .d (.tuple (ps.map encI)), .un, .un]) := by
    refine lcL_some (fun p : Int × Option Int => .tuple [encI p.1, encO p.2]) (fun p => isK p.2) (fun p => .int (p.1 * valO p.2)) fun p hpm => ⟨[.d B, .d (.tuple (ps.map encI)), .d (.int p.1), .d (encO p.2)], ?_, [.d B, .d (.tuple (ps.map encI)), .d (.int p.1), .d (encO p.2)], ?_, fun _ => rfl, fun ho => ⟨[.d B, .d (.tuple (ps.map encI)), .d (.int p.1), .d (encO p.2)], ?_, rfl⟩⟩
    · simp [encI]
    · obtain ⟨i, o⟩ := p
      cases o <;> simp [isK]
    · have := hm p hpm
      obtain ⟨i, o⟩ := p
      cases o with
      | none => cases ho
      | some j =>
        have this : cMul i j = true := this
        simp [this, valO]
  have ez : zip2 [.tuple (ps.map encI), .list (ls.map encO)] = some ((ps.zip ls).map fun p => .tuple [encI p.1, encO p.2]) := by rw [zip2_of rfl rfl, zipD_map]
  have q := sum_ints ((ps.zip ls).filter fun p => isK p.2) (fun p => p.1 * valO p.2)
  show retOf (x_shown [.d B, .d (.tuple (ps.map encI)), .un, .un]) = _
  simp [x_shown, hb, hA, hL, ez, a2, e3, q, shownF]
end Ev
set_option maxHeartbeats 200000
/-! L9: counts in plain words. Own work. -/
namespace Ev
open PySem PySem.Spec L2
theorem cut_take {xs : List D} {i : Nat} (h : i ≤ xs.length) : cutD xs none (some ((i : Nat) : Int)) = xs.take i := by
  unfold cutD
  rw [HT.sIx_none, HT.sIx_nat, List.drop_zero]
  congr 1
  omega
theorem cut_drop {xs : List D} {i : Nat} : cutD xs (some (((i : Nat) : Int) + 1)) none = xs.drop (i + 1) := by
  unfold cutD
  rw [HT.sIx_none, show (((i : Nat) : Int) + 1) = ((i + 1 : Nat) : Int) by omega, HT.sIx_nat]
  by_cases h : i + 1 ≤ xs.length
  · rw [show min (i + 1) xs.length = i + 1 by omega]
    rw [List.take_of_length_le (by rw [List.length_drop]; omega)]
  · rw [show min (i + 1) xs.length = xs.length by omega]
    rw [List.drop_of_length_le (Nat.le_refl _), List.drop_of_length_le (by omega)]
    simp
@[simp] theorem gSl_l (xs : List D) (lo hi : Option Int) : gSl (.list xs) lo hi = some (.list (cutD xs lo hi)) := rfl
def letC (ls : List (Option Int)) (i : Nat) (slack c : Int) : Bool := match leastF (ls.set i (some c)) with
  | none => false
  | some e => decide (e ≤ slack)
theorem P_is_letC {ls : List (Option Int)} {i : Nat} {c slack : Int} (hl : ls.length ≤ 500) (hi : i < ls.length) : g_is_let_counting [.list (ls.map encO), .int (i : Nat), .int c, .int slack] = .ok (.bool (letC ls i slack c)) := by
  have sz := size_ge
  have e1 : cutD (ls.map encO) none (some ((i : Nat) : Int)) = (ls.take i).map encO := by rw [cut_take (by rw [List.length_map]; omega), List.map_take]
  have e2 : cutD (ls.map encO) (some (((i : Nat) : Int) + 1)) none = (ls.drop (i + 1)).map encO := by rw [cut_drop, List.map_drop]
  have es : ls.set i (some c) = ls.take i ++ (some c :: ls.drop (i + 1)) := by rw [List.set_eq_take_append_cons_drop, if_pos hi]
  have e3 : (ls.take i).map encO ++ (.int c :: (ls.drop (i + 1)).map encO) = (ls.set i (some c)).map encO := by rw [es]; simp
  have hy := P_least_by (ls := ls.set i (some c)) (by rw [List.length_set]; omega)
  have l1 : (ls.take i).length + 1 ≤ sizeLine := by rw [List.length_take]; omega
  have l2 : (ls.take i).length + 1 + (ls.drop (i + 1)).length ≤ sizeLine := by rw [List.length_take, List.length_drop]; omega
  have l3 : 1 ≤ sizeLine := by omega
  have ad1 : gAdd (.list ((ls.take i).map encO)) (.list [.int c]) = some (.list ((ls.take i).map encO ++ [.int c])) := by rw [gAdd_ll, if_pos (by simpa using l1)]
  have ad2 : gAdd (.list ((ls.take i).map encO ++ [.int c])) (.list ((ls.drop (i + 1)).map encO)) = some (.list ((ls.set i (some c)).map encO)) := by
    rw [gAdd_ll, if_pos (by simpa using l2), ← e3]
    simp
  refine (fnP_run (f := x_is_let_counting) rfl).trans ?_
  show retOf (x_is_let_counting [.d (.list (ls.map encO)), .d (.int (i : Nat)), .d (.int c), .d (.int slack), .un]) = _
  generalize (ls.take i).map encO = L1 at *
  generalize (ls.drop (i + 1)).map encO = L2 at *
  unfold letC
  cases h : leastF (ls.set i (some c)) with
  | none => simp only [x_is_let_counting, sSeq_eq, sSet_eq, vCall_eq, vCons_eq, vBin_eq, vSl_eq, vVar_0, vVar_s, bd_ok, oNone_eq, oSome_eq, asI_int, of_some, gSl_l, e1, vArg_eq, vNil_eq, mkLst_eq, List.length_cons, List.length_nil, Nat.zero_add, l3, if_true, ad1, vC_eq, gAdd_ii, e2, ad2, hy, h, encO_n, put_s, put_0u, sRet_eq, vAndV_eq, gCmp_IsNot, isN_n, Bool.not_true, asB_bool, Bool.false_eq_true, if_false, retOf_rt]
  | some e => simp only [x_is_let_counting, sSeq_eq, sSet_eq, vCall_eq, vCons_eq, vBin_eq, vSl_eq, vVar_0, vVar_s, bd_ok, oNone_eq, oSome_eq, asI_int, of_some, gSl_l, e1, vArg_eq, vNil_eq, mkLst_eq, List.length_cons, List.length_nil, Nat.zero_add, l3, if_true, ad1, vC_eq, gAdd_ii, e2, ad2, hy, h, encO_s, put_s, put_0u, sRet_eq, vAndV_eq, gCmp_IsNot, isN_i, Bool.not_false, asB_bool, gCmp_Le, retOf_rt]
theorem P_most_lack {ls : List (Option Int)} {i : Nat} {begin slack sign r : Int} (hl : ls.length ≤ 500) (hi : i < ls.length) (hs : sign = 1 ∨ sign = -1) (h : bs (fun m => letC ls i slack (begin + sign * m)) 200 0 (2 * slack + 2) = some r) :
    g_most_lack [.list (ls.map encO), .int (i : Nat), .int begin, .int slack, .int sign] = .ok (.int (begin + sign * r)) := by
  have cm : ∀ m, cMul sign m = true := fun m => by
    rcases hs with rfl | rfl <;> simp [cMul]
  have cm2 : cMul 2 slack = true := by simp [cMul]
  refine (fnP_run (f := x_most_lack) rfl).trans ?_
  generalize hX : PyData.list (ls.map encO) = X
  have hc : ∀ c, g_is_let_counting [X, .int (i : Nat), .int c, .int slack] = .ok (.bool (letC ls i slack c)) := fun c => by rw [← hX]; exact P_is_letC hl hi
  obtain ⟨hi', s', e⟩ := mm_loop (P := fun m => letC ls i slack (begin + sign * m)) (δ := fun lo hi s => [.d X, .d (.int (i : Nat)), .d (.int begin), .d (.int slack), .d (.int sign), .d (.int lo), .d (.int hi), slO s]) (c := mmC)
    (body := sSeq (sSet 7 (vBin gDiv (vBin gAdd (vVar 5) (vVar 6)) (vC (.int 2)))) (sIf (vTest (vCall g_is_let_counting (vCons (vVar 0) (vCons (vVar 1) (vCons (vBin gAdd (vVar 2) (vBin (iI cMul fun i j => i * j) (vVar 4) (vVar 7))) (vCons (vVar 3) vNil)))))) (sSet 5 (vVar 7)) (sSet 6 (vVar 7)))) 0 (2 * slack + 2)
    (fun lo hi s => by simp) (fun lo hi s h1 h2 h3 => by
      have hp := hc (begin + sign * ((lo + hi) / 2))
      cases s <;> by_cases c : letC ls i slack (begin + sign * ((lo + hi) / 2)) = true <;> simp [hp, c, slO, cm]) 200 0 (2 * slack + 2) none r (Int.le_refl _) (Int.le_refl _) h
  show retOf (x_most_lack [.d X, .d (.int (i : Nat)), .d (.int begin), .d (.int slack), .d (.int sign), .un, .un, .un]) = _
  have e0 : sPar [5, 6] (vCons (vC (.int 0)) (vCons (vBin gAdd (vBin (iI cMul fun i j => i * j) (vC (.int 2)) (vVar 3)) (vC (.int 2))) vNil)) [.d X, .d (.int (i : Nat)), .d (.int begin), .d (.int slack), .d (.int sign), .un, .un, .un] = .ok (.nx, [.d X, .d (.int (i : Nat)), .d (.int begin), .d (.int slack), .d (.int sign), .d (.int 0), .d (.int (2 * slack + 2)), .un]) := by simp [cm2]
  unfold x_most_lack
  rw [sSeq_eq, e0, bd_ok]
  dsimp only
  rw [sSeq_eq, show whL _ _ 200 [.d X, .d (.int (i : Nat)), .d (.int begin), .d (.int slack), .d (.int sign), .d (.int 0), .d (.int (2 * slack + 2)), .un] = _ from e, bd_ok]
  simp [cm]
end Ev
set_option maxHeartbeats 200000
/-! L10: counts of books, in plain words. Own work. -/
namespace Ev
open PySem PySem.Spec L2
theorem lacks_len (h : Nat) (ns : List Note) (cs : List (Option Int)) : (lacksF h ns cs).length = min cs.length h := by
  unfold lacksF gainsF
  rw [List.length_map, List.length_zip, List.length_map, List.length_range]
theorem P_count_known {h slack l c : Int} {i : Nat} {ns : List Note} {cs ls : List (Option Int)} (k : okB h ns cs = true) (el : lacksF h.toNat ns cs = ls) (hl : leastF ls = some l) (hs : l ≤ slack) (hc : cs[i]? = some (some c)) :
    g_count_by [encB h ns cs, .int slack, .int (i : Nat)] = .ok (.tuple [.int c, .int c]) := by
  obtain ⟨⟨k1, k2⟩, k3, _⟩ := okB_iff.mp k
  obtain ⟨l1, l2⟩ := okB_len k
  have sz := size_ge
  have z2 : 2 ≤ sizeLine := by omega
  have hL := P_lacks_of (ns := ns) (cs := cs) k1 k2 (by omega) (by omega)
  rw [el] at hL
  have ll : ls.length ≤ 1000 := by rw [← el, lacks_len]; omega
  have hT := P_need_truth (slack := slack) ll hl hs
  have ea : atI (cs.map encO) ((i : Nat) : Int) = some (.int c) := by rw [atI_map, hc]; rfl
  rw [encB_0] at hL ⊢
  refine (fnP_run (f := x_count_by) rfl).trans ?_
  show retOf (x_count_by [.d (.tuple [.int h, .tuple (ns.map encN), .tuple (cs.map encO)]), .d (.int slack), .d (.int (i : Nat)), .un, .un, .un, .un, .un, .un]) = _
  simp [x_count_by, hL, hT, ea, z2]
theorem P_count_open {h slack l g bg r1 r2 : Int} {i : Nat} {ns ms : List Note} {cs ls : List (Option Int)} (k : okB h ns cs = true) (el : lacksF h.toNat ns cs = ls) (hl : leastF ls = some l) (hs : l ≤ slack) (hc : cs[i]? = some none)
    (hm : movesF ls = some ms) (lm : ms.length ≤ 1000) (hg : (gainsF h.toNat (netsF h.toNat ns))[i]? = some g) (hb : (gainsF h.toNat (netsF h.toNat ms))[i]? = some bg)
    (h1 : g_most_lack [.list (ls.map encO), .int (i : Nat), .int bg, .int slack, .int (-1)] = .ok (.int r1)) (h2 : g_most_lack [.list (ls.map encO), .int (i : Nat), .int bg, .int slack, .int 1] = .ok (.int r2)) :
    g_count_by [encB h ns cs, .int slack, .int (i : Nat)] = .ok (.tuple [.int (g + r1), .int (g + r2)]) := by
  obtain ⟨⟨k1, k2⟩, k3, _⟩ := okB_iff.mp k
  obtain ⟨l1, l2⟩ := okB_len k
  have sz := size_ge
  have z2 : 2 ≤ sizeLine := by omega
  have hL := P_lacks_of (ns := ns) (cs := cs) k1 k2 (by omega) (by omega)
  rw [el] at hL
  have ll : ls.length ≤ 5 := by rw [← el, lacks_len]; omega
  have hT := P_need_truth (slack := slack) (by omega : ls.length ≤ 1000) hl hs
  have ea : atI (cs.map encO) ((i : Nat) : Int) = some .none := by rw [atI_map, hc]; rfl
  have hN := P_nets_of (X := .tuple (ns.map encN)) k1 k2 rfl (by omega : ns.length ≤ 1000)
  have hM := P_nets_of (X := .list (ms.map encN)) k1 k2 rfl lm
  have hV := P_moves_by (by omega : ls.length ≤ 100) hm
  have hG := P_gains_of (X := .list ((netsF h.toNat ns).map encI)) k1 k2 rfl
  have hH := P_gains_of (X := .list ((netsF h.toNat ms).map encI)) k1 k2 rfl
  have eg : atI ((gainsF h.toNat (netsF h.toNat ns)).map encI) ((i : Nat) : Int) = some (.int g) := by rw [atI_map, hg]; rfl
  have eb : atI ((gainsF h.toNat (netsF h.toNat ms)).map encI) ((i : Nat) : Int) = some (.int bg) := by rw [atI_map, hb]; rfl
  rw [encB_0] at hL ⊢
  refine (fnP_run (f := x_count_by) rfl).trans ?_
  generalize ls.map encO = LS at *
  show retOf (x_count_by [.d (.tuple [.int h, .tuple (ns.map encN), .tuple (cs.map encO)]), .d (.int slack), .d (.int (i : Nat)), .un, .un, .un, .un, .un, .un]) = _
  have lc : ∀ B, lcL [8] [8] selOne tTrue (vCall g_most_lack (vCons (vVar 3) (vCons (vVar 2) (vCons (vVar 5) (vCons (vVar 1) (vCons (vVar 8) vNil)))))) [.int (-1), .int 1]
      [.d B, .d (.int slack), .d (.int (i : Nat)), .d (.list LS), .d (.int g), .d (.int bg), .un, .un, .un] = .ok ([.int r1, .int r2], [.d B, .d (.int slack), .d (.int (i : Nat)), .d (.list LS), .d (.int g), .d (.int bg), .un, .un, .un]) := by
    intro B
    rw [lcL_take (δ1 := [.d B, .d (.int slack), .d (.int (i : Nat)), .d (.list LS), .d (.int g), .d (.int bg), .un, .un, .d (.int (-1))]) (δ2 := [.d B, .d (.int slack), .d (.int (i : Nat)), .d (.list LS), .d (.int g), .d (.int bg), .un, .un, .d (.int (-1))]) (δ3 := [.d B, .d (.int slack), .d (.int (i : Nat)), .d (.list LS), .d (.int g), .d (.int bg), .un, .un, .d (.int (-1))]) (r := .int r1) rfl rfl (by simp [h1])]
    rw [show wipeD [Sl.d B, .d (.int slack), .d (.int (i : Nat)), .d (.list LS), .d (.int g), .d (.int bg), .un, .un, .d (.int (-1))] [8] = [Sl.d B, .d (.int slack), .d (.int (i : Nat)), .d (.list LS), .d (.int g), .d (.int bg), .un, .un, .un] from rfl]
    rw [lcL_take (δ1 := [.d B, .d (.int slack), .d (.int (i : Nat)), .d (.list LS), .d (.int g), .d (.int bg), .un, .un, .d (.int 1)]) (δ2 := [.d B, .d (.int slack), .d (.int (i : Nat)), .d (.list LS), .d (.int g), .d (.int bg), .un, .un, .d (.int 1)]) (δ3 := [.d B, .d (.int slack), .d (.int (i : Nat)), .d (.list LS), .d (.int g), .d (.int bg), .un, .un, .d (.int 1)]) (r := .int r2) rfl rfl (by simp [h2])]
    rfl
  simp [x_count_by, hL, hT, ea, z2, hN, hM, hV, hG, hH, eg, eb, lc]
theorem P_count_of {h slack i : Int} {ns : List Note} {cs : List (Option Int)} {d : D} (k : okB h ns cs = true) (s1 : 0 ≤ slack) (s2 : slack ≤ 100000000000000000000000000000000) (h1 : 0 ≤ i) (h2 : i ≤ h - 1) (e : g_count_by [encB h ns cs, .int slack, .int i] = .ok d) :
    g_count_of [encB h ns cs, .int slack, .int i] = .ok d := by
  have hb := P_need_book k
  have hs := P_need_slack s1 s2
  have hi := inR_iff.mpr ⟨h1, h2⟩
  rw [encB_0] at e hb ⊢
  refine (fnP_run (f := x_count_of) rfl).trans ?_
  show retOf (x_count_of [.d (.tuple [.int h, .tuple (ns.map encN), .tuple (cs.map encO)]), .d (.int slack), .d (.int i)]) = _
  simp [x_count_of, hb, hs, P_is_integer, hi, e]
/-! ### loops -/
theorem forL_fold {is : List Nat} {sel : D → Option (List D)} {body : SX} {α S : Type} (enc : α → D) (R : S → List Sl → Prop) (step : S → α → S) : ∀ (as : List α) (st : S) (δ : List Sl), R st δ →
    (∀ st δ, R st δ → ∀ a ∈ as, ∃ δ1, ((sel (enc a)).bind fun xs => putD is xs δ) = some δ1 ∧ ∃ δ2, body δ1 = .ok (.nx, δ2) ∧ R (step st a) δ2) → ∃ δ', forL is sel body (as.map enc) δ = .ok (.nx, δ') ∧ R (as.foldl step st) δ'
  | [], st, δ, r, _ => ⟨δ, rfl, r⟩
  | a :: as, st, δ, r, h => by
    obtain ⟨δ1, e1, δ2, e2, r2⟩ := h st δ r a List.mem_cons_self
    obtain ⟨δ', e3, r3⟩ := forL_fold enc R step as (step st a) δ2 r2 fun st δ r b hb => h st δ r b (List.mem_cons_of_mem _ hb)
    refine ⟨δ', ?_, r3⟩
    rw [List.map_cons]
    show (Rs.of ((sel (enc a)).bind fun xs => putD is xs δ)).bind _ = _
    rw [e1]
    show (body δ1).bind _ = _
    rw [e2]
    exact e3
/-- the widest open count: so far (its width, its house) -/
def bestStep (cs : List (Option Int)) (lo hi : Nat → Int) (st : Int × Option Int) (i : Nat) : Int × Option Int := if cs[i]? = some none ∧ st.1 < hi i - lo i then (hi i - lo i, some (i : Int)) else st
def bestF (h : Nat) (cs : List (Option Int)) (lo hi : Nat → Int) : Option Int := ((List.range h).foldl (bestStep cs lo hi) (-1, none)).2
theorem P_best_counted {h slack l : Int} {ns : List Note} {cs ls : List (Option Int)} {lo hi : Nat → Int} (k : okB h ns cs = true) (s1 : 0 ≤ slack) (s2 : slack ≤ 100000000000000000000000000000000) (el : lacksF h.toNat ns cs = ls) (hl : leastF ls = some l) (hs : l ≤ slack)
    (hc : ∀ i : Nat, i < h.toNat → g_count_by [encB h ns cs, .int slack, .int (i : Nat)] = .ok (.tuple [.int (lo i), .int (hi i)])) : g_best_counted [encB h ns cs, .int slack] = .ok (encO (bestF h.toNat cs lo hi)) := by
  obtain ⟨⟨k1, k2⟩, k3, _, k5, _⟩ := okB_iff.mp k
  obtain ⟨l1, l2⟩ := okB_len k
  have sz := size_ge
  have z2 : 2 ≤ sizeLine := by omega
  have hL := P_lacks_of (ns := ns) (cs := cs) k1 k2 (by omega) (by omega)
  rw [el] at hL
  have ll : ls.length ≤ 1000 := by rw [← el, lacks_len]; omega
  have hT := P_need_truth (slack := slack) ll hl hs
  have hb := P_need_book k
  have hsl := P_need_slack s1 s2
  rw [encB_0] at hL hb hc ⊢
  refine (fnP_run (f := x_best_counted) rfl).trans ?_
  generalize hB : PyData.tuple [.int h, .tuple (ns.map encN), .tuple (cs.map encO)] = B at *
  have b0 : gIx B (.int 0) = some (.int h) := by rw [← hB]; simp
  have b2 : gIx B (.int 2) = some (.tuple (cs.map encO)) := by rw [← hB]; simp
  obtain ⟨δ', e1, ⟨s4, s5, s6, rfl⟩⟩ := forL_fold (is := [4]) (sel := selOne) (body := sSeq (sUnp [5, 6] (selTup 2) (vCall g_count_by (vCons (vVar 0) (vCons (vVar 1) (vCons (vVar 4) vNil)))))
      (sIf (vAnd (vTest (vBin (gCmp .Is) (vBin gIx (vBin gIx (vVar 0) (vC (.int 2))) (vVar 4)) (vC .none))) (vTest (vBin (gCmp .Gt) (vBin gSub (vVar 6) (vVar 5)) (vVar 2)))) (sPar [2, 3] (vCons (vBin gSub (vVar 6) (vVar 5)) (vCons (vVar 4) vNil))) sNil))
    (fun (i : Nat) => encI (i : Int)) (fun (st : Int × Option Int) δ => ∃ s4 s5 s6 : Option D, δ = [.d B, .d (.int slack), .d (.int st.1), .d (encO st.2), slO s4, slO s5, slO s6]) (bestStep cs lo hi) (List.range h.toNat) (-1, none)
    [.d B, .d (.int slack), .d (.int (-1)), .d .none, .un, .un, .un] ⟨none, none, none, rfl⟩ (fun st δ ⟨s4, s5, s6, e⟩ i him => by
      subst e
      have hil : i < h.toNat := List.mem_range.mp him
      have hcl : i < cs.length := by omega
      have ci := hc i hil
      have ea : atI (cs.map encO) ((i : Nat) : Int) = some (encO cs[i]) := by rw [atI_map, List.getElem?_eq_getElem hcl]; rfl
      refine ⟨[.d B, .d (.int slack), .d (.int st.1), .d (encO st.2), .d (.int (i : Nat)), slO s5, slO s6], by cases s4 <;> simp [slO, encI], ?_⟩
      by_cases c1 : cs[i] = none
      · have q1 : cs[i]? = some none := by rw [List.getElem?_eq_getElem hcl, c1]
        rw [c1] at ea
        by_cases c2 : st.1 < hi i - lo i
        · refine ⟨[.d B, .d (.int slack), .d (.int (hi i - lo i)), .d (.int (i : Nat)), .d (.int (i : Nat)), .d (.int (lo i)), .d (.int (hi i))], ?_, some (.int (i : Nat)), some (.int (lo i)), some (.int (hi i)), ?_⟩
          · cases s5 <;> cases s6 <;> simp [slO, ci, b2, ea, c2]
          · unfold bestStep
            rw [if_pos ⟨q1, c2⟩]
            rfl
        · refine ⟨[.d B, .d (.int slack), .d (.int st.1), .d (encO st.2), .d (.int (i : Nat)), .d (.int (lo i)), .d (.int (hi i))], ?_, some (.int (i : Nat)), some (.int (lo i)), some (.int (hi i)), ?_⟩
          · cases s5 <;> cases s6 <;> simp [slO, ci, b2, ea, c2]
          · unfold bestStep
            rw [if_neg fun z => c2 z.2]
            rfl
      · obtain ⟨c, hcc⟩ := Option.ne_none_iff_exists'.mp c1
        have q1 : ¬ cs[i]? = some none := by rw [List.getElem?_eq_getElem hcl, hcc]; simp
        rw [hcc] at ea
        refine ⟨[.d B, .d (.int slack), .d (.int st.1), .d (encO st.2), .d (.int (i : Nat)), .d (.int (lo i)), .d (.int (hi i))], ?_, some (.int (i : Nat)), some (.int (lo i)), some (.int (hi i)), ?_⟩
        · cases s5 <;> cases s6 <;> simp [slO, ci, b2, ea]
        · unfold bestStep
          rw [if_neg fun z => q1 z.1]
          rfl)
  show retOf (x_best_counted [.d B, .d (.int slack), .un, .un, .un, .un, .un]) = _
  simp [x_best_counted, hb, hsl, hL, hT, z2, b0, rng1_i h (by omega) (by omega), e1, bestF]
end Ev
set_option maxHeartbeats 200000
/-! L11: partings in plain words. Own work. -/
namespace Ev
open PySem PySem.Spec L2
theorem all_known : ∀ {cs : List (Option Int)}, cs.all isK = true → cs.map encO = (known cs).map encI
  | [], _ => rfl
  | none :: r, h => by simp [isK] at h
  | some i :: r, h => by
    have h' : r.all isK = true := by simpa [isK] using h
    have := all_known h'
    show encO (some i) :: r.map encO = encI i :: (known r).map encI
    rw [this]; rfl
theorem in_noneL (ls : List (Option Int)) : gCmp .In .none (.list (ls.map encO)) = some (.bool (!ls.all isK)) := by
  show (if flatD .none && (ls.map encO).all flatD then some (PyData.bool ((ls.map encO).any fun y => PyData.eqv y .none)) else none) = _
  rw [flat_encO, none_in]
  simp [flatD]
theorem in_noneT (ls : List (Option Int)) : gCmp .In .none (.tuple (ls.map encO)) = some (.bool (!ls.all isK)) := by
  show (if flatD .none && (ls.map encO).all flatD then some (PyData.bool ((ls.map encO).any fun y => PyData.eqv y .none)) else none) = _
  rw [flat_encO, none_in]
  simp [flatD]
theorem P_needless {h : Int} {ns : List Note} {cs : List (Option Int)} (k : okB h ns cs = true) : g_needless [encB h ns cs] = .ok (.list (if cs.all isK = true ∧ (known cs).sum = 0 then (List.range h.toNat).map fun (i : Nat) => encI (i : Int) else [])) := by
  obtain ⟨⟨k1, k2⟩, k3, _⟩ := okB_iff.mp k
  have sz := size_ge
  have hb := P_need_book k
  have er : gRgL (.int h) = some (.list ((List.range h.toNat).map fun (i : Nat) => encI (i : Int))) := by
    show (if -(2 ^ 62) ≤ h ∧ h ≤ 1000000 then some (PyData.list (rangeD 0 h.toNat)) else none) = _
    rw [if_pos ⟨by omega, by omega⟩]
    unfold rangeD encI
    simp
  rw [encB_0] at hb ⊢
  refine (fnP_run (f := x_needless) rfl).trans ?_
  show retOf (x_needless [.d (.tuple [.int h, .tuple (ns.map encN), .tuple (cs.map encO)])]) = _
  have ei := in_noneT cs
  cases c1 : cs.all isK with
  | false => 
    rw [c1] at ei
    simp [x_needless, hb, ei]
  | true =>
    rw [c1] at ei
    have e2 : gSum [.tuple (cs.map encO)] = some (.int (known cs).sum) := by
      rw [all_known c1]; exact gSum_t (known cs)
    by_cases c2 : (known cs).sum = 0
    · simp [x_needless, hb, ei, e2, c2, er]
    · simp [x_needless, hb, ei, e2, c2]
/-! ### even lots -/
def encK (i : Nat) : D := .int (i : Int)
def encS (s : List Nat) : D := .list (s.map encK)
def ownF (vs : List (Option Int)) (s : List Nat) : List (Option Int) := s.map fun i => vs.getD i none
def evenF (vs : List (Option Int)) (s : List Nat) : Bool := !(ownF vs s).all isK || decide ((known (ownF vs s)).sum = 0)
theorem P_is_even {vs : List (Option Int)} {s : List Nat} (hs : ∀ i ∈ s, i < vs.length) (hl : s.length ≤ 1000) : g_is_even [.list (vs.map encO), encS s] = .ok (.bool (evenF vs s)) := by
  have sz := size_ge
  have e1 : s.length ≤ sizeLine := by omega
  refine (fnP_run (f := x_is_even) rfl).trans ?_
  have l1 : lcL [3] [3] selOne tTrue (vBin gIx (vVar 0) (vVar 3)) (s.map encK) [.d (.list (vs.map encO)), .d (encS s), .un, .un] = .ok (s.map fun i => encO (vs.getD i none), [.d (.list (vs.map encO)), .d (encS s), .un, .un]) := by
    refine lcL_all encK (fun i => encO (vs.getD i none)) fun i hi => ⟨_, rfl, _, rfl, [.d (.list (vs.map encO)), .d (encS s), .un, .d (encK i)], ?_, rfl⟩
    have : atI (vs.map encO) ((i : Nat) : Int) = some (encO (vs.getD i none)) := by
      rw [atI_map, List.getD_eq_getElem?_getD, List.getElem?_eq_getElem (hs i hi)]; rfl
    simp [encK, this]
  have eo : (s.map fun i => encO (vs.getD i none)) = (ownF vs s).map encO := by unfold ownF; rw [List.map_map]; rfl
  rw [eo] at l1
  have el : (ownF vs s).length ≤ sizeLine := by unfold ownF; rw [List.length_map]; exact e1
  have ei := in_noneL (ownF vs s)
  show retOf (x_is_even [.d (.list (vs.map encO)), .d (.list (s.map encK)), .un, .un]) = _
  rw [show encS s = .list (s.map encK) from rfl] at l1
  unfold evenF
  cases c1 : (ownF vs s).all isK with
  | false =>
    rw [c1] at ei
    simp [x_is_even, l1, el, ei]
  | true =>
    rw [c1] at ei
    have e2 : gSum [.list ((ownF vs s).map encO)] = some (.int (known (ownF vs s)).sum) := by
      rw [all_known c1]; exact gSum_l (known (ownF vs s))
    by_cases c2 : (known (ownF vs s)).sum = 0
    · simp [x_is_even, l1, el, ei, e2, c2]
    · simp [x_is_even, l1, el, ei, e2, c2]
/-! ### a loop by what is behind it -/
theorem forL_pre {is : List Nat} {sel : D → Option (List D)} {body : SX} {α : Type} (enc : α → D) (R : List α → List Sl → Prop) (all : List α) (h : ∀ pre a post δ, all = pre ++ a :: post → R pre δ → ∃ δ1, ((sel (enc a)).bind fun xs => putD is xs δ) = some δ1 ∧ ∃ δ2, body δ1 = .ok (.nx, δ2) ∧ R (pre ++ [a]) δ2) :
    ∀ (as pre : List α) (δ : List Sl), all = pre ++ as → R pre δ → ∃ δ', forL is sel body (as.map enc) δ = .ok (.nx, δ') ∧ R all δ'
  | [], pre, δ, e, r => ⟨δ, rfl, by rw [e, List.append_nil]; exact r⟩
  | a :: as, pre, δ, e, r => by
    obtain ⟨δ1, e1, δ2, e2, r2⟩ := h pre a as δ e r
    obtain ⟨δ', e3, r3⟩ := forL_pre enc R all h as (pre ++ [a]) δ2 (by rw [e]; simp) r2
    refine ⟨δ', ?_, r3⟩
    rw [List.map_cons]
    show (Rs.of ((sel (enc a)).bind fun xs => putD is xs δ)).bind _ = _
    rw [e1]
    show (body δ1).bind _ = _
    rw [e2]
    exact e3
def lotsF (s : List Nat) : List (List Nat) := s.foldl (fun f i => f ++ f.map (· ++ [i])) [[]]
theorem lotsF_snoc (s : List Nat) (i : Nat) : lotsF (s ++ [i]) = lotsF s ++ (lotsF s).map (· ++ [i]) := by unfold lotsF; rw [List.foldl_append]; rfl
theorem lotsF_len (s : List Nat) : (lotsF s).length = 2 ^ s.length ∧ ∀ t ∈ lotsF s, t.length ≤ s.length := by
  suffices h : ∀ (n : Nat) (s : List Nat), s.length = n → (lotsF s).length = 2 ^ s.length ∧ ∀ t ∈ lotsF s, t.length ≤ s.length from h _ s rfl
  intro n
  induction n with
  | zero =>
    intro s hs
    obtain rfl := List.eq_nil_of_length_eq_zero hs
    exact ⟨rfl, fun t ht => by rw [List.mem_singleton.mp ht]; exact Nat.le_refl _⟩
  | succ n ih =>
    intro s hs
    obtain ⟨p, i, rfl⟩ : ∃ p i, s = p ++ [i] := ⟨s.dropLast, s.getLast (by intro z; rw [z] at hs; cases hs), (List.dropLast_concat_getLast _).symm⟩
    have hp : p.length = n := by rw [List.length_append] at hs; simpa using hs
    obtain ⟨h1, h2⟩ := ih p hp
    rw [lotsF_snoc]
    constructor
    · rw [List.length_append, List.length_map, h1, List.length_append, List.length_singleton, Nat.pow_succ]; omega
    · intro t ht
      rw [List.length_append, List.length_singleton]
      rcases List.mem_append.mp ht with ht | ht
      · have := h2 t ht; omega
      · obtain ⟨u, hu, rfl⟩ := List.mem_map.mp ht
        have := h2 u hu
        rw [List.length_append, List.length_singleton]; omega
theorem P_lots_of {s : List Nat} (hl : s.length ≤ 10) : g_lots_of [encS s] = .ok (.list ((lotsF s).map encS)) := by
  have sz := size_ge
  refine (fnP_run (f := x_lots_of) rfl).trans ?_
  obtain ⟨δ', e1, ⟨s2, rfl⟩⟩ := forL_pre (is := [2]) (sel := selOne) (body := sSet 1 (vBin gAdd (vVar 1) (vList (vLc [3] [3] selOne (vItems (vVar 1)) tTrue (vBin gAdd (vVar 3) (vArg mkLst (vCons (vVar 2) vNil)))))))
    encK (fun pre δ => ∃ s2 : Option D, δ = [.d (encS s), .d (.list ((lotsF pre).map encS)), slO s2, .un]) s (fun pre i post δ e ⟨s2, hδ⟩ => by
      subst hδ
      have hp : pre.length ≤ 9 := by have := congrArg List.length e; rw [List.length_append, List.length_cons] at this; omega
      obtain ⟨h1, h2⟩ := lotsF_len pre
      have h3 : 2 ^ pre.length ≤ 512 := by
        have : 2 ^ pre.length ≤ 2 ^ 9 := Nat.pow_le_pow_right (by decide) hp
        simpa using this
      refine ⟨[.d (encS s), .d (.list ((lotsF pre).map encS)), .d (encK i), .un], by cases s2 <;> simp [slO], [.d (encS s), .d (.list ((lotsF (pre ++ [i])).map encS)), .d (encK i), .un], ?_, some (encK i), rfl⟩
      have z1 : 1 ≤ sizeLine := by omega
      have l1 : lcL [3] [3] selOne tTrue (vBin gAdd (vVar 3) (vArg mkLst (vCons (vVar 2) vNil))) ((lotsF pre).map encS) [.d (encS s), .d (.list ((lotsF pre).map encS)), .d (encK i), .un] =
          .ok ((lotsF pre).map fun t => encS (t ++ [i]), [.d (encS s), .d (.list ((lotsF pre).map encS)), .d (encK i), .un]) := by
        refine lcL_all encS (fun t => encS (t ++ [i])) fun t ht => ⟨_, rfl, _, rfl, [.d (encS s), .d (.list ((lotsF pre).map encS)), .d (encK i), .d (encS t)], ?_, rfl⟩
        have ht' := h2 t ht
        have z2 : t.length + 1 ≤ sizeLine := by omega
        have ea : gAdd (encS t) (.list [encK i]) = some (encS (t ++ [i])) := by
          show gAdd (.list (t.map encK)) (.list [encK i]) = some (.list ((t ++ [i]).map encK))
          rw [gAdd_ll, if_pos (by simpa using z2)]; simp
        simp [z1, ea]
      have z3 : (lotsF pre).length ≤ sizeLine := by omega
      have eb : gAdd (.list ((lotsF pre).map encS)) (.list ((lotsF pre).map fun t => encS (t ++ [i]))) = some (.list ((lotsF (pre ++ [i])).map encS)) := by
        rw [gAdd_ll, if_pos (by rw [List.length_map, List.length_map]; omega), lotsF_snoc, List.map_append, List.map_map]; rfl
      simp [l1, z3, eb]) s [] [.d (encS s), .d (.list ((lotsF []).map encS)), .un, .un] rfl ⟨none, rfl⟩
  show retOf (x_lots_of [.d (.list (s.map encK)), .un, .un, .un]) = _
  have z0 : 0 ≤ sizeLine := by omega
  have z1 : 1 ≤ sizeLine := by omega
  rw [show encS s = .list (s.map encK) from rfl, show (lotsF []).map encS = [.list []] from rfl] at e1
  simp [x_lots_of, z0, z1, e1]
end Ev
set_option maxHeartbeats 200000
/-! L12: the most even lots, in plain words. Own work. -/
namespace Ev
open PySem PySem.Spec L2
abbrev Parts := List (List Nat)
def encR : Option Parts → D
  | none => .none
  | some ps => .list (ps.map encS)
@[simp] theorem isN_encR (o : Option Parts) : isN (encR o) = !o.isSome := by cases o <;> rfl
def bestP (best : Option Parts) (part : List Nat) : Option Parts → Option Parts
  | none => best
  | some o => match best with
    | none => some (part :: o)
    | some b => if b.length < o.length + 1 then some (part :: o) else some b
def restOf (s part : List Nat) : List Nat := s.filter fun i => !part.contains i
def partLoop (f : List Nat → Option (Option Parts)) (ev : List Nat → Bool) (s : List Nat) : Parts → Option Parts → Option (Option Parts)
  | [], best => some best
  | r :: rs, best => if ev (s.take 1 ++ r) = true then (match f (restOf s (s.take 1 ++ r)) with
    | none => none
    | some o => partLoop f ev s rs (bestP best (s.take 1 ++ r) o)) else partLoop f ev s rs best
def partsF (ev : List Nat → Bool) : Nat → List Nat → Option (Option Parts)
  | 0, _ => none
  | n + 1, s => if s = [] then some (some []) else partLoop (partsF ev n) ev s (lotsF (s.drop 1)) none
theorem lotsF_sub (s : List Nat) : ∀ t ∈ lotsF s, ∀ i ∈ t, i ∈ s := by
  suffices h : ∀ (n : Nat) (s : List Nat), s.length = n → ∀ t ∈ lotsF s, ∀ i ∈ t, i ∈ s from h _ s rfl
  intro n
  induction n with
  | zero =>
    intro s hs t ht i hi
    obtain rfl := List.eq_nil_of_length_eq_zero hs
    rw [List.mem_singleton.mp ht] at hi
    cases hi
  | succ n ih =>
    intro s hs t ht i hi
    obtain ⟨p, k, rfl⟩ : ∃ p k, s = p ++ [k] := ⟨s.dropLast, s.getLast (by intro z; rw [z] at hs; cases hs), (List.dropLast_concat_getLast _).symm⟩
    have hp : p.length = n := by rw [List.length_append] at hs; simpa using hs
    rw [lotsF_snoc] at ht
    rcases List.mem_append.mp ht with ht | ht
    · exact List.mem_append_left _ (ih p hp t ht i hi)
    · obtain ⟨u, hu, rfl⟩ := List.mem_map.mp ht
      rcases List.mem_append.mp hi with hi | hi
      · exact List.mem_append_left _ (ih p hp u hu i hi)
      · exact List.mem_append_right _ hi
theorem flat_K : ∀ s : List Nat, (s.map encK).all flatD = true
  | [] => rfl
  | i :: r => by simpa [encK, flatD] using flat_K r
theorem any_K (i : Nat) : ∀ s : List Nat, ((s.map encK).any fun y => PyData.eqv y (encK i)) = s.contains i
  | [] => rfl
  | k :: r => by
    have ih := any_K i r
    rw [List.map_cons, List.any_cons, ih, List.contains_cons]
    congr 1
    show ((k : Int) == (i : Int)) = (i == k)
    by_cases c : i = k
    · subst c; simp
    · have : ¬ ((k : Int) = (i : Int)) := by omega
      rw [beq_eq_false_iff_ne.mpr this, beq_eq_false_iff_ne.mpr c]
theorem notin_K (i : Nat) (s : List Nat) : gCmp .NotIn (encK i) (encS s) = some (.bool (!s.contains i)) := by
  show (if flatD (encK i) && (s.map encK).all flatD then some (PyData.bool (!(s.map encK).any fun y => PyData.eqv y (encK i))) else none) = _
  rw [flat_K, any_K]
  rfl
theorem eq_nilS (s : List Nat) (h : s.length ≤ 1000) : gCmp .Eq (encS s) (.list []) = some (.bool (decide (s = []))) := by
  have hs : SeqAt.shaped (encS s) = true := by
    have := ints_shaped (s.map fun (i : Nat) => (i : Int))
    rw [List.map_map] at this
    exact this
  show (if SeqAt.shaped (encS s) && SeqAt.shaped (.list []) then some (PyData.bool (PyData.eqv (encS s) (.list []))) else none) = _
  rw [hs]
  cases s <;> simp [SeqAt.shaped, PyData.canLay0, PyData.canLayAll0, PyData.depth, PyData.depthAll, PyData.eqv, PyData.eqvAll, encS]
theorem P_part_loop {vs : List (Option Int)} {s : List Nat} {g : FX} {f : List Nat → Option (Option Parts)} (hs : ∀ i ∈ s, i < vs.length) (hl : s.length ≤ 10)
    (hg : ∀ part o, f (restOf s part) = some o → g [.list (vs.map encO), encS (restOf s part)] = .ok (encR o) ∧ ∀ ps, o = some ps → ps.length ≤ 1000) :
    ∀ (rs : Parts) (best res : Option Parts) (s3 s4 s5 : Option D), (∀ r ∈ rs, ∀ i ∈ r, i ∈ s) → (∀ r ∈ rs, r.length ≤ 10) → partLoop f (evenF vs) s rs best = some res → ∃ s3' s4' s5' : Option D,
      forL [3] selOne (sSeq (sSet 4 (vBin gAdd (vSl gSl (vVar 1) oNone (oSome (vC (.int 1)))) (vVar 3)))
        (sIf (vTest (vCall g_is_even (vCons (vVar 0) (vCons (vVar 4) vNil)))) (sSeq (sSet 5 (vCall g (vCons (vVar 0) (vCons (vList (vLc [6] [6] selOne (vItems (vVar 1)) (vTest (vBin (gCmp .NotIn) (vVar 6) (vVar 4))) (vVar 6))) vNil))))
        (sIf (vAnd (vTest (vBin (gCmp .IsNot) (vVar 5) (vC .none))) (vOr (vTest (vBin (gCmp .Is) (vVar 2) (vC .none))) (vTest (vBin (gCmp .Gt) (vBin gAdd (vArg gLen (vCons (vVar 5) vNil)) (vC (.int 1))) (vArg gLen (vCons (vVar 2) vNil)))))) (sSet 2 (vBin gAdd (vArg mkLst (vCons (vVar 4) vNil)) (vVar 5))) sNil)) sNil))
        (rs.map encS) [.d (.list (vs.map encO)), .d (encS s), .d (encR best), slO s3, slO s4, slO s5, .un] = .ok (.nx, [.d (.list (vs.map encO)), .d (encS s), .d (encR res), slO s3', slO s4', slO s5', .un])
  | [], best, res, s3, s4, s5, _, _, h => by
    cases h
    exact ⟨s3, s4, s5, rfl⟩
  | r :: rs, best, res, s3, s4, s5, hr, hrl, h => by
    have sz := size_ge
    unfold partLoop at h
    have z1 : 1 ≤ sizeLine := by omega
    have hp : ∀ i ∈ s.take 1 ++ r, i < vs.length := fun i hi => by
      rcases List.mem_append.mp hi with hi | hi
      · exact hs i (List.mem_of_mem_take hi)
      · exact hs i (hr r List.mem_cons_self i hi)
    have hpl : (s.take 1 ++ r).length ≤ 1000 := by
      have := hrl r List.mem_cons_self
      rw [List.length_append, List.length_take]; omega
    have he := P_is_even hp hpl
    have hr' : ∀ r ∈ rs, ∀ i ∈ r, i ∈ s := fun q hq => hr q (List.mem_cons_of_mem _ hq)
    have hrl' : ∀ r ∈ rs, r.length ≤ 10 := fun q hq => hrl q (List.mem_cons_of_mem _ hq)
    have ct : cutD (s.map encK) none (some 1) = (s.map encK).take 1 := by
      unfold cutD
      rw [HT.sIx_none, show (1 : Int) = ((1 : Nat) : Int) from rfl, HT.sIx_nat, List.drop_zero]
      cases s <;> simp
    have ea : gAdd (.list ((s.map encK).take 1)) (encS r) = some (encS (s.take 1 ++ r)) := by
      show gAdd (.list ((s.map encK).take 1)) (.list (r.map encK)) = some (.list ((s.take 1 ++ r).map encK))
      rw [gAdd_ll, if_pos (by rw [List.length_take, List.length_map, List.length_map]; rw [List.length_append, List.length_take] at hpl; omega), List.map_append, List.map_take]
    have st : ∀ B : D, sSet 4 (vBin gAdd (vSl gSl (vVar 1) oNone (oSome (vC (.int 1)))) (vVar 3)) [.d (.list (vs.map encO)), .d (encS s), .d B, .d (encS r), slO s4, slO s5, .un] = .ok (.nx, [.d (.list (vs.map encO)), .d (encS s), .d B, .d (encS r), .d (encS (s.take 1 ++ r)), slO s5, .un]) := by
      intro B
      rw [show encS s = .list (s.map encK) from rfl]
      cases s4 <;> simp [slO, ct, ea]
    generalize s.take 1 ++ r = part at *
    have l1 : ∀ (B : D) (s5 : Sl), lcL [6] [6] selOne (vTest (vBin (gCmp .NotIn) (vVar 6) (vVar 4))) (vVar 6) (s.map encK) [.d (.list (vs.map encO)), .d (encS s), .d B, .d (encS r), .d (encS part), s5, .un] =
        .ok ((restOf s part).map encK, [.d (.list (vs.map encO)), .d (encS s), .d B, .d (encS r), .d (encS part), s5, .un]) := by
      intro B s5
      refine lcL_some encK (fun i => !part.contains i) encK fun i _ => ⟨_, rfl, [.d (.list (vs.map encO)), .d (encS s), .d B, .d (encS r), .d (encS part), s5, .d (encK i)], ?_, fun _ => rfl, fun _ => ⟨[.d (.list (vs.map encO)), .d (encS s), .d B, .d (encS r), .d (encS part), s5, .d (encK i)], ?_, rfl⟩⟩
      · simp [notin_K]
      · simp
    have rl : (restOf s part).length ≤ sizeLine := by
      have := List.length_filter_le (fun i => !part.contains i) s
      unfold restOf; omega
    have tail := fun best' s3 s4 s5 (h' : partLoop f (evenF vs) s rs best' = some res) => P_part_loop hs hl hg rs best' res s3 s4 s5 hr' hrl' h'
    generalize hbody : (sSeq (sSet 4 (vBin gAdd (vSl gSl (vVar 1) oNone (oSome (vC (.int 1)))) (vVar 3)))
        (sIf (vTest (vCall g_is_even (vCons (vVar 0) (vCons (vVar 4) vNil)))) (sSeq (sSet 5 (vCall g (vCons (vVar 0) (vCons (vList (vLc [6] [6] selOne (vItems (vVar 1)) (vTest (vBin (gCmp .NotIn) (vVar 6) (vVar 4))) (vVar 6))) vNil))))
        (sIf (vAnd (vTest (vBin (gCmp .IsNot) (vVar 5) (vC .none))) (vOr (vTest (vBin (gCmp .Is) (vVar 2) (vC .none))) (vTest (vBin (gCmp .Gt) (vBin gAdd (vArg gLen (vCons (vVar 5) vNil)) (vC (.int 1))) (vArg gLen (vCons (vVar 2) vNil)))))) (sSet 2 (vBin gAdd (vArg mkLst (vCons (vVar 4) vNil)) (vVar 5))) sNil)) sNil)) = body at *
    have hitems : itemsOf (encS s) = some (s.map encK) := rfl
    have e0 : putD [3] [encS r] [.d (.list (vs.map encO)), .d (encS s), .d (encR best), slO s3, slO s4, slO s5, .un] = some [.d (.list (vs.map encO)), .d (encS s), .d (encR best), .d (encS r), slO s4, slO s5, .un] := by cases s3 <;> simp [slO]
    have go : ∀ {δ2 δ3 : List Sl}, body [.d (.list (vs.map encO)), .d (encS s), .d (encR best), .d (encS r), slO s4, slO s5, .un] = .ok (.nx, δ2) → forL [3] selOne body (rs.map encS) δ2 = .ok (.nx, δ3) → forL [3] selOne body ((r :: rs).map encS) [.d (.list (vs.map encO)), .d (encS s), .d (encR best), slO s3, slO s4, slO s5, .un] = .ok (.nx, δ3) := by
      intro δ2 δ3 h1 h2
      rw [List.map_cons]
      show (Rs.of (((some [encS r]).bind fun xs => putD [3] xs _))).bind _ = _
      show (Rs.of (putD [3] [encS r] [.d (.list (vs.map encO)), .d (encS s), .d (encR best), slO s3, slO s4, slO s5, .un])).bind _ = _
      rw [e0]
      show (body _).bind _ = _
      rw [h1]
      exact h2
    cases hev : evenF vs part with
    | false =>
      rw [hev, if_neg Bool.false_ne_true] at h
      rw [hev] at he
      obtain ⟨s3', s4', s5', e⟩ := tail best (some (encS r)) (some (encS part)) s5 h
      refine ⟨s3', s4', s5', go ?_ e⟩
      rw [← hbody, sSeq_eq, st, bd_ok]
      simp [he, slO]
    | true =>
      rw [hev, if_pos rfl] at h
      rw [hev] at he
      cases hf : f (restOf s part) with
      | none => rw [hf] at h; cases h
      | some o =>
        rw [hf] at h
        dsimp only at h
        obtain ⟨hgo, hlo⟩ := hg part o hf
        have s5ok : ∀ B : D, sSet 5 (vCall g (vCons (vVar 0) (vCons (vList (vLc [6] [6] selOne (vItems (vVar 1)) (vTest (vBin (gCmp .NotIn) (vVar 6) (vVar 4))) (vVar 6))) vNil))) [.d (.list (vs.map encO)), .d (encS s), .d B, .d (encS r), .d (encS part), slO s5, .un] =
            .ok (.nx, [.d (.list (vs.map encO)), .d (encS s), .d B, .d (encS r), .d (encS part), .d (encR o), .un]) := by
          intro B
          have l1' := l1 B (slO s5)
          have hgo' : g [.list (vs.map encO), .list ((restOf s part).map encK)] = .ok (encR o) := hgo
          cases s5 <;> simp [slO, hitems] at l1' ⊢ <;> simp [l1', rl, hgo']
        cases o with
        | none =>
          obtain ⟨s3', s4', s5', e⟩ := tail best (some (encS r)) (some (encS part)) (some .none) h
          refine ⟨s3', s4', s5', go ?_ e⟩
          rw [← hbody, sSeq_eq, st, bd_ok]
          simp only [sIf_eq, vTest_eq, vCall_eq, vCons_eq, vVar_0, vVar_s, bd_ok, vNil_eq, he, of_some, asB_bool, if_true, sSeq_eq, s5ok]
          simp [encR, slO]
        | some ps =>
          have hps := hlo ps rfl
          have add : gAdd (.list [encS part]) (.list (ps.map encS)) = some (.list ((part :: ps).map encS)) := by
            rw [gAdd_ll, if_pos (by rw [List.length_map, List.length_singleton]; omega)]; rfl
          cases best with
          | none =>
            obtain ⟨s3', s4', s5', e⟩ := tail (some (part :: ps)) (some (encS r)) (some (encS part)) (some (encR (some ps))) h
            refine ⟨s3', s4', s5', go ?_ e⟩
            rw [← hbody, sSeq_eq, st, bd_ok]
            simp only [sIf_eq, vTest_eq, vCall_eq, vCons_eq, vVar_0, vVar_s, bd_ok, vNil_eq, he, of_some, asB_bool, if_true, sSeq_eq, s5ok]
            simp [encR, slO, z1, add]
          | some b =>
            by_cases hb : b.length < ps.length + 1
            · have hb' : (b.length : Int) < (ps.length : Int) + 1 := by omega
              obtain ⟨s3', s4', s5', e⟩ := tail (some (part :: ps)) (some (encS r)) (some (encS part)) (some (encR (some ps))) (by
                have : bestP (some b) part (some ps) = some (part :: ps) := by simp [bestP, hb]
                rw [this] at h; exact h)
              refine ⟨s3', s4', s5', go ?_ e⟩
              rw [← hbody, sSeq_eq, st, bd_ok]
              simp only [sIf_eq, vTest_eq, vCall_eq, vCons_eq, vVar_0, vVar_s, bd_ok, vNil_eq, he, of_some, asB_bool, if_true, sSeq_eq, s5ok]
              simp [encR, slO, z1, add, hb']
            · have hb' : ¬ (b.length : Int) < (ps.length : Int) + 1 := by omega
              obtain ⟨s3', s4', s5', e⟩ := tail (some b) (some (encS r)) (some (encS part)) (some (encR (some ps))) (by
                have : bestP (some b) part (some ps) = some b := by simp [bestP, hb]
                rw [this] at h; exact h)
              refine ⟨s3', s4', s5', go ?_ e⟩
              rw [← hbody, sSeq_eq, st, bd_ok]
              simp only [sIf_eq, vTest_eq, vCall_eq, vCons_eq, vVar_0, vVar_s, bd_ok, vNil_eq, he, of_some, asB_bool, if_true, sSeq_eq, s5ok]
              simp [encR, slO, z1, add, hb']
end Ev
set_option maxHeartbeats 200000
/-! L13: partings, moves of partings, in plain words. Own work. -/
namespace Ev
open PySem PySem.Spec L2
theorem partLoop_len {f : List Nat → Option (Option Parts)} {ev : List Nat → Bool} {s : List Nat} {n : Nat} (hf : ∀ t o, f t = some o → ∀ ps, o = some ps → ps.length ≤ n) : ∀ (rs : Parts) (best res : Option Parts), (∀ ps, best = some ps → ps.length ≤ n + 1) →
    partLoop f ev s rs best = some res → ∀ ps, res = some ps → ps.length ≤ n + 1
  | [], best, res, hb, h => by cases h; exact hb
  | r :: rs, best, res, hb, h => by
    unfold partLoop at h
    by_cases c : ev (s.take 1 ++ r) = true
    · rw [if_pos c] at h
      cases e : f (restOf s (s.take 1 ++ r)) with
      | none => rw [e] at h; cases h
      | some o =>
        rw [e] at h
        refine partLoop_len hf rs _ res (fun ps hps => ?_) h
        cases o with
        | none => exact hb ps hps
        | some q =>
          have hq := hf _ _ e q rfl
          cases best with
          | none => cases hps; rw [List.length_cons]; omega
          | some b =>
            have h2 : (if b.length < q.length + 1 then some ((s.take 1 ++ r) :: q) else some b) = some ps := hps
            by_cases c2 : b.length < q.length + 1
            · rw [if_pos c2] at h2; cases h2; rw [List.length_cons]; omega
            · rw [if_neg c2] at h2; exact hb ps (by rw [h2])
    · rw [if_neg c] at h
      exact partLoop_len hf rs best res hb h
theorem partsF_len {ev : List Nat → Bool} : ∀ (n : Nat) (s : List Nat) (o : Option Parts), partsF ev n s = some o → ∀ ps, o = some ps → ps.length ≤ n
  | 0, _, _, h => by cases h
  | n + 1, s, o, h => by
    unfold partsF at h
    by_cases c : s = []
    · rw [if_pos c] at h; cases h; intro ps e; cases e; exact Nat.zero_le _
    · rw [if_neg c] at h
      exact partLoop_len (partsF_len n) _ none o (fun ps e => by cases e) h
theorem restOf_sub {s part : List Nat} : ∀ i ∈ restOf s part, i ∈ s := fun i hi => (List.mem_filter.mp hi).1
theorem P_parts_by {vs : List (Option Int)} : ∀ (n : Nat) (s : List Nat) (res : Option Parts), n ≤ 1000 → s.length ≤ 10 → (∀ i ∈ s, i < vs.length) → partsF (evenF vs) n s = some res → gl_parts_by n [.list (vs.map encO), encS s] = .ok (encR res)
  | 0, _, _, _, _, _, h => by cases h
  | n + 1, s, res, hn, hl, hs, h => by
    have sz := size_ge
    unfold partsF at h
    refine (fnP_run (f := x_parts_by (gl_parts_by n)) rfl).trans ?_
    show retOf (x_parts_by (gl_parts_by n) [.d (.list (vs.map encO)), .d (encS s), .un, .un, .un, .un, .un]) = _
    have z0 : 0 ≤ sizeLine := by omega
    have en := eq_nilS s (by omega)
    by_cases c : s = []
    · rw [if_pos c] at h
      cases h
      rw [decide_eq_true c] at en
      simp [x_parts_by, z0, en, encR]
    · rw [if_neg c] at h
      have hd : (s.drop 1).length ≤ 10 := by rw [List.length_drop]; omega
      have hL := P_lots_of hd
      obtain ⟨s3, s4, s5, e⟩ := P_part_loop (g := gl_parts_by n) (f := partsF (evenF vs) n) hs hl (fun part o ho => ⟨P_parts_by n _ o (by omega) (by have := List.length_filter_le (fun i => !part.contains i) s; unfold restOf; omega) (fun i hi => hs i (restOf_sub i hi)) ho, fun ps e => by have := partsF_len n _ _ ho ps e; omega⟩)
        (lotsF (s.drop 1)) none res none none none (fun r hr i hi => List.mem_of_mem_drop (lotsF_sub _ r hr i hi)) (fun r hr => by have := (lotsF_len (s.drop 1)).2 r hr; omega) h
      have cd : cutD (s.map encK) (some 1) none = (s.drop 1).map encK := by
        have := cut_drop (xs := s.map encK) (i := 0)
        rw [List.map_drop]; exact this
      have cd' : gSl (encS s) (some 1) none = some (encS (s.drop 1)) := by
        show some (PyData.list (cutD (s.map encK) (some 1) none)) = _
        rw [cd]; rfl
      rw [show slO none = Sl.un from rfl, show encR none = PyData.none from rfl] at e
      rw [decide_eq_false c] at en
      generalize s.drop 1 = T at *
      simp [x_parts_by, z0, en, cd', hL, e]
theorem P_parts_of {vs : List (Option Int)} {res : Option Parts} (hl : vs.length ≤ 10) (h : partsF (evenF vs) 8 (List.range vs.length) = some res) : g_parts_of [.list (vs.map encO)] = .ok (encR res) := by
  refine (fnP_run (f := x_parts_of) rfl).trans ?_
  have hp : g_parts_by [.list (vs.map encO), encS (List.range vs.length)] = .ok (encR res) := P_parts_by 8 _ _ (by decide) (by rw [List.length_range]; exact hl) (fun i hi => List.mem_range.mp hi) h
  have er : gRgL (.int (vs.length : Nat)) = some (encS (List.range vs.length)) := by
    show (if -(2 ^ 62) ≤ ((vs.length : Nat) : Int) ∧ ((vs.length : Nat) : Int) ≤ 1000000 then some (PyData.list (rangeD 0 ((vs.length : Nat) : Int).toNat)) else none) = _
    rw [if_pos ⟨by omega, by omega⟩]
    unfold rangeD encS encK
    simp
  show retOf (x_parts_of [.d (.list (vs.map encO))]) = _
  simp [x_parts_of, er, hp]
theorem P_fewest_wrong {h : Int} {ns : List Note} {cs ls : List (Option Int)} {res : Option Parts} (k : okB h ns cs = true) (el : lacksF h.toNat ns cs = ls) (hp : partsF (evenF ls) 8 (List.range ls.length) = some res) :
    g_fewest_wrong [encB h ns cs] = .ok (encO (res.map fun ps => h - (ps.length : Int))) := by
  obtain ⟨⟨k1, k2⟩, k3, _⟩ := okB_iff.mp k
  obtain ⟨l1, l2⟩ := okB_len k
  have hL := P_lacks_of (ns := ns) (cs := cs) k1 k2 (by omega) (by omega)
  rw [el] at hL
  have ll : ls.length ≤ 10 := by rw [← el, lacks_len]; omega
  have hP := P_parts_of ll hp
  have hb := P_need_book k
  rw [encB_0] at hL hb ⊢
  refine (fnP_run (f := x_fewest_wrong) rfl).trans ?_
  show retOf (x_fewest_wrong [.d (.tuple [.int h, .tuple (ns.map encN), .tuple (cs.map encO)]), .un]) = _
  cases res with
  | none => simp [x_fewest_wrong, hb, hL, hP, encR]
  | some ps => simp [x_fewest_wrong, hb, hL, hP, encR]
/-! ### moves by partings -/
def atV (vs : List (Option Int)) (i : Nat) : Option Int := vs.getD i none
theorem atV_at {vs : List (Option Int)} {i : Nat} (hi : i < vs.length) : gIx (.list (vs.map encO)) (encK i) = some (encO (atV vs i)) := by
  show atI (vs.map encO) ((i : Nat) : Int) = _
  rw [atI_map]
  unfold atV
  rw [List.getD_eq_getElem?_getD, List.getElem?_eq_getElem hi]; rfl
def hubF (vs : List (Option Int)) (part : List Nat) : Nat := ((part.filter fun i => !isK (atV vs i)) ++ part).headD 0
def moveStep (vs : List (Option Int)) (hub : Nat) (acc : List Note) (i : Nat) : List Note := match atV vs i with
  | none => acc
  | some v => if i ≠ hub ∧ v ≠ 0 then acc ++ [if 0 < v then ((hub : Int), (i : Int), v) else ((i : Int), (hub : Int), -v)] else acc
def partMoves (vs : List (Option Int)) (acc : List Note) (part : List Nat) : List Note := part.foldl (moveStep vs (hubF vs part)) acc
def movesOfF (vs : List (Option Int)) (ps : Parts) : List Note := ps.foldl (partMoves vs) []
theorem step_len (vs : List (Option Int)) (hub : Nat) (acc : List Note) (i : Nat) : (moveStep vs hub acc i).length ≤ acc.length + 1 := by
  unfold moveStep
  cases atV vs i with
  | none => exact Nat.le_succ _
  | some v =>
    dsimp only
    split
    · rw [List.length_append]; exact Nat.le_refl _
    · exact Nat.le_succ _
theorem steps_len (vs : List (Option Int)) (hub : Nat) : ∀ (part : List Nat) (acc : List Note), (part.foldl (moveStep vs hub) acc).length ≤ acc.length + part.length
  | [], _ => Nat.le_refl _
  | i :: r, acc => by
    have h1 := steps_len vs hub r (moveStep vs hub acc i)
    have h2 := step_len vs hub acc i
    rw [List.foldl_cons, List.length_cons]; omega
theorem moves_len (vs : List (Option Int)) : ∀ (ps : Parts) (acc : List Note), (ps.foldl (partMoves vs) acc).length ≤ acc.length + (ps.map List.length).sum
  | [], _ => by simp
  | p :: r, acc => by
    have h1 := moves_len vs r (partMoves vs acc p)
    have h2 := steps_len vs (hubF vs p) p acc
    rw [List.foldl_cons, List.map_cons, List.sum_cons]
    unfold partMoves at h1 ⊢
    omega
@[simp] theorem gCmp_KNe (i j : Nat) : gCmp .NotEq (encK i) (encK j) = some (.bool (decide (i ≠ j))) := by
  show gCmp .NotEq (.int (i : Nat)) (.int (j : Nat)) = _
  rw [gCmp_Neii]
  congr 2
  by_cases c : i = j
  · subst c; simp
  · have : ¬ ((i : Int) = (j : Int)) := by omega
    simp [c, this]
end Ev
set_option maxHeartbeats 200000
/-! L14: moves by partings, ways, in plain words. Own work. -/
namespace Ev
open PySem PySem.Spec L2
@[simp] theorem slO_n : slO none = .un := rfl
@[simp] theorem slO_s (x : D) : slO (some x) = .d x := rfl
@[simp] theorem encN_K (a b : Nat) (v : Int) : encN ((a : Int), (b : Int), v) = .tuple [encK a, encK b, .int v] := rfl
abbrev mvIn : SX := sIf (vAnd (vTest (vBin (gCmp .NotEq) (vVar 5) (vBin gIx (vVar 4) (vC (.int 0))))) (vAnd (vTest (vBin (gCmp .IsNot) (vBin gIx (vVar 0) (vVar 5)) (vC .none))) (vTest (vBin (gCmp .NotEq) (vBin gIx (vVar 0) (vVar 5)) (vC (.int 0)))))) (sSeq (sSet 6 (vBin gIx (vVar 0) (vVar 5)))
  (sApp 2 (vIf (vTest (vBin (gCmp .Gt) (vVar 6) (vC (.int 0)))) (vArg mkTup (vCons (vBin gIx (vVar 4) (vC (.int 0))) (vCons (vVar 5) (vCons (vVar 6) vNil)))) (vArg mkTup (vCons (vVar 5) (vCons (vBin gIx (vVar 4) (vC (.int 0))) (vCons (vUn (iU fun i => -i) (vVar 6)) vNil))))))) sNil
theorem mv_step {vs : List (Option Int)} {P S Hb : D} {hub i : Nat} {acc : List Note} {s6 : Option D} (hh : gIx Hb (.int 0) = some (encK hub)) (hi : i < vs.length) (hl : acc.length < 1000) :
    ∃ s6' : Option D, mvIn [.d (.list (vs.map encO)), .d P, .own (acc.map encN), .d S, .d Hb, .d (encK i), slO s6] = .ok (.nx, [.d (.list (vs.map encO)), .d P, .own ((moveStep vs hub acc i).map encN), .d S, .d Hb, .d (encK i), slO s6']) := by
  have sz := size_ge
  have z3 : 3 ≤ sizeLine := by omega
  have la : acc.length < sizeLine := by omega
  have ea' := atV_at hi
  unfold moveStep
  cases hv : atV vs i with
  | none =>
    rw [hv] at ea'
    refine ⟨s6, ?_⟩
    by_cases c : i = hub <;> simp [hh, ea', c]
  | some v =>
    rw [hv] at ea'
    by_cases c : i = hub
    · refine ⟨s6, ?_⟩
      simp [hh, ea', c]
    · by_cases c2 : v = 0
      · refine ⟨s6, ?_⟩
        simp [hh, ea', c, c2]
      · refine ⟨some (.int v), ?_⟩
        by_cases c3 : 0 < v
        · cases s6 <;> simp [hh, ea', c, c2, c3, z3, la]
        · cases s6 <;> simp [hh, ea', c, c2, c3, z3, la]
theorem P_moves_of {vs : List (Option Int)} {ps : Parts} (hne : ∀ p ∈ ps, p ≠ []) (hidx : ∀ p ∈ ps, ∀ i ∈ p, i < vs.length) (hT : (ps.map List.length).sum ≤ 100) : g_moves_of [.list (vs.map encO), .list (ps.map encS)] = .ok (.list ((movesOfF vs ps).map encN)) := by
  have sz := size_ge
  refine (fnP_run (f := x_moves_of) rfl).trans ?_
  obtain ⟨δ', e1, ⟨s3, s4, s6, s5, rfl⟩⟩ := forL_pre (is := [3]) (sel := selOne) (body := sSeq (sSet 4 (vBin gAdd (vList (vLc [5] [5] selOne (vItems (vVar 3)) (vTest (vBin (gCmp .Is) (vBin gIx (vVar 0) (vVar 5)) (vC .none))) (vVar 5))) (vVar 3))) (sFor [5] selOne (vItems (vVar 3)) mvIn))
    encS (fun pre δ => ∃ s3 s4 s6 : Option D, ∃ s5 : Option D, δ = [.d (.list (vs.map encO)), .d (.list (ps.map encS)), .own ((movesOfF vs pre).map encN), slO s3, slO s4, slO s5, slO s6]) ps (fun pre part post δ e ⟨s3, s4, s6, s5, hδ⟩ => by
      subst hδ
      have pm : part ∈ ps := by rw [e]; simp
      have hpre : ((pre.map List.length).sum + part.length) ≤ 100 := by
        rw [e, List.map_append, List.map_cons, List.sum_append, List.sum_cons] at hT; omega
      have pl := moves_len vs pre []
      rw [show pre.foldl (partMoves vs) [] = movesOfF vs pre from rfl] at pl
      have pl : (movesOfF vs pre).length ≤ (pre.map List.length).sum := by simpa using pl
      have nsnoc : movesOfF vs (pre ++ [part]) = partMoves vs (movesOfF vs pre) part := by unfold movesOfF; rw [List.foldl_append]; rfl
      refine ⟨[.d (.list (vs.map encO)), .d (.list (ps.map encS)), .own ((movesOfF vs pre).map encN), .d (encS part), slO s4, slO s5, slO s6], by cases s3 <;> simp [slO], ?_⟩
      generalize movesOfF vs pre = acc at *
      have l1 : ∀ s4 s6 : Sl, lcL [5] [5] selOne (vTest (vBin (gCmp .Is) (vBin gIx (vVar 0) (vVar 5)) (vC .none))) (vVar 5) (part.map encK) [.d (.list (vs.map encO)), .d (.list (ps.map encS)), .own (acc.map encN), .d (encS part), s4, .un, s6] =
          .ok ((part.filter fun i => !isK (atV vs i)).map encK, [.d (.list (vs.map encO)), .d (.list (ps.map encS)), .own (acc.map encN), .d (encS part), s4, .un, s6]) := by
        intro s4 s6
        refine lcL_some encK (fun i => !isK (atV vs i)) encK fun i hi => ⟨_, rfl, [.d (.list (vs.map encO)), .d (.list (ps.map encS)), .own (acc.map encN), .d (encS part), s4, .d (encK i), s6], ?_, fun _ => rfl, fun _ => ⟨[.d (.list (vs.map encO)), .d (.list (ps.map encS)), .own (acc.map encN), .d (encS part), s4, .d (encK i), s6], ?_, rfl⟩⟩
        · have ea := atV_at (hidx part pm i hi)
          simp only [List.set_cons_succ, List.set_cons_zero, vTest_eq, vBin_eq, vVar_0, vVar_s, bd_ok, ea, of_some, vC_eq, gCmp_Is, isN_encO, asB_bool]
        · simp
      have fl : (part.filter fun i => !isK (atV vs i)).length ≤ part.length := List.length_filter_le _ _
      have hpl : part.length ≤ 100 := by omega
      have ez : (part.filter fun i => !isK (atV vs i)).length ≤ sizeLine := by omega
      have ea : gAdd (.list ((part.filter fun i => !isK (atV vs i)).map encK)) (encS part) = some (.list (((part.filter fun i => !isK (atV vs i)) ++ part).map encK)) := by
        show gAdd (.list _) (.list (part.map encK)) = _
        rw [gAdd_ll, if_pos (by rw [List.length_map, List.length_map]; omega), List.map_append]
      have hh : gIx (.list (((part.filter fun i => !isK (atV vs i)) ++ part).map encK)) (.int 0) = some (encK (hubF vs part)) := by
        unfold hubF
        have hn : (part.filter fun i => !isK (atV vs i)) ++ part ≠ [] := by
          intro z
          exact hne part pm (List.append_eq_nil_iff.mp z).2
        cases hc : (part.filter fun i => !isK (atV vs i)) ++ part with
        | nil => exact absurd hc hn
        | cons a r => simp
      generalize ((part.filter fun i => !isK (atV vs i)) ++ part).map encK = hubs at *
      obtain ⟨δ2, e2, ⟨t5, t6, rfl⟩⟩ := forL_pre (is := [5]) (sel := selOne) (body := mvIn) encK (fun pr δ => ∃ s5 s6 : Option D, δ = [.d (.list (vs.map encO)), .d (.list (ps.map encS)), .own ((pr.foldl (moveStep vs (hubF vs part)) acc).map encN), .d (encS part), .d (.list hubs), slO s5, slO s6]) part
        (fun pr i po δ ep ⟨s5, s6, hδ⟩ => by
          subst hδ
          have im : i ∈ part := by rw [ep]; simp
          have plen : pr.length ≤ part.length := by rw [ep]; simp
          have al := steps_len vs (hubF vs part) pr acc
          obtain ⟨s6', es⟩ := mv_step (P := .list (ps.map encS)) (S := encS part) (acc := pr.foldl (moveStep vs (hubF vs part)) acc) (s6 := s6) hh (hidx part pm i im) (by omega)
          refine ⟨[.d (.list (vs.map encO)), .d (.list (ps.map encS)), .own ((pr.foldl (moveStep vs (hubF vs part)) acc).map encN), .d (encS part), .d (.list hubs), .d (encK i), slO s6], by cases s5 <;> simp [slO], _, es, some (encK i), s6', ?_⟩
          rw [List.foldl_append]
          rfl) part [] [.d (.list (vs.map encO)), .d (.list (ps.map encS)), .own (acc.map encN), .d (encS part), .d (.list hubs), .un, slO s6] rfl ⟨none, s6, rfl⟩
      refine ⟨[.d (.list (vs.map encO)), .d (.list (ps.map encS)), .own ((movesOfF vs (pre ++ [part])).map encN), .d (encS part), .d (.list hubs), slO t5, slO t6], ?_, some (encS part), some (.list hubs), t6, t5, rfl⟩
      rw [nsnoc]
      have hitems : itemsOf (encS part) = some (part.map encK) := rfl
      have st : sSet 4 (vBin gAdd (vList (vLc [5] [5] selOne (vItems (vVar 3)) (vTest (vBin (gCmp .Is) (vBin gIx (vVar 0) (vVar 5)) (vC .none))) (vVar 5))) (vVar 3)) [.d (.list (vs.map encO)), .d (.list (ps.map encS)), .own (acc.map encN), .d (encS part), slO s4, slO s5, slO s6] =
          .ok (.nx, [.d (.list (vs.map encO)), .d (.list (ps.map encS)), .own (acc.map encN), .d (encS part), .d (.list hubs), .un, slO s6]) := by
        cases s4 with
        | none =>
          have l1' := l1 .un (slO s6)
          simp [hitems, l1', ez, ea]
        | some x =>
          have l1' := l1 (.d x) (slO s6)
          simp [hitems, l1', ez, ea]
      rw [sSeq_eq, st, bd_ok]
      dsimp only
      simp only [sFor_eq, vItems_eq, vVar_s, vVar_0, bd_ok, hitems, of_some]
      exact e2) ps [] [.d (.list (vs.map encO)), .d (.list (ps.map encS)), .own [], .un, .un, .un, .un] rfl ⟨none, none, none, none, rfl⟩
  show retOf (x_moves_of [.d (.list (vs.map encO)), .d (.list (ps.map encS)), .un, .un, .un, .un, .un]) = _
  have z0 : 0 ≤ sizeLine := by omega
  have e0 : sOwn 2 (vDisp vNil) [.d (.list (vs.map encO)), .d (.list (ps.map encS)), .un, .un, .un, .un, .un] = .ok (.nx, [.d (.list (vs.map encO)), .d (.list (ps.map encS)), .own [], .un, .un, .un, .un]) := by simp [z0]
  unfold x_moves_of
  rw [sSeq_eq, e0, bd_ok]
  dsimp only
  rw [sSeq_eq, sFor_eq]
  simp only [vItems_eq, vVar_s, vVar_0, bd_ok, itemsOf_l, of_some]
  rw [e1, bd_ok]
  simp
end Ev
set_option maxHeartbeats 200000
/-! L15: balances, ways, evens, in plain words. Own work. -/
namespace Ev
open PySem PySem.Spec L2
def okBal (bs : List Int) : Bool := decide (1 ≤ bs.length) && (decide (bs.length ≤ 6) && (bs.all (fun b => inR b (-GREAT) GREAT) && decide (bs.sum = 0)))
theorem okBal_iff {bs : List Int} : okBal bs = true ↔ 1 ≤ bs.length ∧ bs.length ≤ 6 ∧ bs.all (fun b => inR b (-GREAT) GREAT) = true ∧ bs.sum = 0 := by simp [okBal]
@[simp] theorem gSum_tI (ns : List Int) : gSum [.tuple (ns.map encI)] = some (.int ns.sum) := gSum_t ns
@[simp] theorem gSum_lI (ns : List Int) : gSum [.list (ns.map encI)] = some (.int ns.sum) := gSum_l ns
theorem P_need_balances {bs : List Int} (k : okBal bs = true) : g_need_balances [.tuple (bs.map encI)] = .ok .none := by
  obtain ⟨k1, k2, k3, k4⟩ := okBal_iff.mp k
  have sz := size_ge
  have e1 : bs.length ≤ sizeLine := by omega
  have k1' : (1 : Int) ≤ bs.length := by omega
  have k2' : (bs.length : Int) ≤ 6 := by omega
  refine (fnP_run (f := x_need_balances) rfl).trans ?_
  have l1 : lcL [1] [1] selOne tTrue (vCall g_is_integer (vCons (vVar 1) (vCons (vUn (iU fun i => -i) (vC (.int 1000000000000000000000000000000))) (vCons (vC (.int 1000000000000000000000000000000)) vNil)))) (bs.map encI) [.d (.tuple (bs.map encI)), .un] =
      .ok (bs.map fun b => .bool (inR b (-GREAT) GREAT), [.d (.tuple (bs.map encI)), .un]) := by
    refine lcL_all encI (fun b => .bool (inR b (-GREAT) GREAT)) fun b _ => ⟨_, rfl, _, rfl, [.d (.tuple (bs.map encI)), .d (.int b)], ?_, rfl⟩
    simp [encI, P_is_integer]
  have q := all_bools bs (fun b => inR b (-GREAT) GREAT)
  rw [k3] at q
  show retOf (x_need_balances [.d (.tuple (bs.map encI)), .un]) = _
  simp [x_need_balances, k1', k2', l1, e1, q, k4]
def valsF (bs : List Int) : List (Option Int) := bs.map fun b => some (-b)
theorem okRow_N {n : Note} (h : 0 ≤ n.1 ∧ 0 ≤ n.2.1 ∧ 0 ≤ n.2.2) : okRow 3 (encN n) = true := by
  obtain ⟨a, b, c⟩ := n
  show (match intsOf [PyData.int a, PyData.int b, PyData.int c] with | some ns => decide (ns.length = 3) && ns.all fun n => decide (0 ≤ n) | none => false) = true
  have : intsOf [PyData.int a, PyData.int b, PyData.int c] = some [a, b, c] := rfl
  rw [this]
  simp [h.1, h.2.1, h.2.2]
theorem sort_N {ms : List Note} (h : ∀ n ∈ ms, 0 ≤ n.1 ∧ 0 ≤ n.2.1 ∧ 0 ≤ n.2.2) (hl : ms.length < 64) : gSort [.list (ms.map encN)] = some (.list (sortD (ms.map encN))) := by
  have hr : (ms.map encN).all (okRow (rowLen (ms.map encN))) = true := by
    rw [List.all_eq_true]
    intro d hd
    obtain ⟨n, hn, rfl⟩ := List.mem_map.mp hd
    have : rowLen (ms.map encN) = 3 := by
      cases ms with
      | nil => cases hn
      | cons a r => rfl
    rw [this]
    exact okRow_N (h n hn)
  show (if (ms.map encN).length < 64 ∧ (ms.map encN).all (okRow (rowLen (ms.map encN))) = true then _ else _) = _
  rw [if_pos ⟨by rw [List.length_map]; exact hl, hr⟩]
theorem P_ways_by {bs : List Int} {ps : Parts} (hb : bs.length ≤ 6) (hp : partsF (evenF (valsF bs)) 8 (List.range bs.length) = some (some ps)) (hne : ∀ p ∈ ps, p ≠ []) (hidx : ∀ p ∈ ps, ∀ i ∈ p, i < bs.length) (hT : (ps.map List.length).sum ≤ 60)
    (hn : ∀ n ∈ movesOfF (valsF bs) ps, 0 ≤ n.1 ∧ 0 ≤ n.2.1 ∧ 0 ≤ n.2.2) : g_ways_by [.tuple (bs.map encI)] = .ok (.tuple (sortD ((movesOfF (valsF bs) ps).map encN))) := by
  have sz := size_ge
  have e1 : bs.length ≤ sizeLine := by omega
  have lv : (valsF bs).length = bs.length := by unfold valsF; rw [List.length_map]
  have hP := P_parts_of (vs := valsF bs) (by omega) (by rw [lv]; exact hp)
  have hM := P_moves_of (vs := valsF bs) hne (by rw [lv]; exact hidx) (by omega)
  have ml := moves_len (valsF bs) ps []
  have hS := sort_N hn (by show (movesOfF (valsF bs) ps).length < 64; have : (movesOfF (valsF bs) ps).length ≤ [].length + _ := ml; simp at this; omega)
  refine (fnP_run (f := x_ways_by) rfl).trans ?_
  have l1 : lcL [2] [2] selOne tTrue (vUn (iU fun i => -i) (vVar 2)) (bs.map encI) [.d (.tuple (bs.map encI)), .un, .un] = .ok (bs.map fun b => .int (-b), [.d (.tuple (bs.map encI)), .un, .un]) := by
    refine lcL_all encI (fun b => .int (-b)) fun b _ => ⟨_, rfl, _, rfl, [.d (.tuple (bs.map encI)), .un, .d (.int b)], ?_, rfl⟩
    simp [encI]
  have ev : (bs.map fun b => PyData.int (-b)) = (valsF bs).map encO := by unfold valsF; rw [List.map_map]; rfl
  rw [ev] at l1
  have lV : ((valsF bs).map encO).length ≤ sizeLine := by rw [List.length_map, lv]; omega
  generalize (valsF bs).map encO = V at *
  show retOf (x_ways_by [.d (.tuple (bs.map encI)), .un, .un]) = _
  simp [x_ways_by, l1, lV, hP, hM, hS, encR]
theorem P_ways {bs : List Int} {d : D} (k : okBal bs = true) (e : g_ways_by [.tuple (bs.map encI)] = .ok d) : g_ways [.tuple (bs.map encI)] = .ok d := by
  refine (fnP_run (f := x_ways) rfl).trans ?_
  show retOf (x_ways [.d (.tuple (bs.map encI))]) = _
  simp [x_ways, P_need_balances k, e]
theorem P_fewest_ways {bs : List Int} {xs : List D} (k : okBal bs = true) (e : g_ways_by [.tuple (bs.map encI)] = .ok (.tuple xs)) : g_fewest_ways [.tuple (bs.map encI)] = .ok (.int xs.length) := by
  refine (fnP_run (f := x_fewest_ways) rfl).trans ?_
  show retOf (x_fewest_ways [.d (.tuple (bs.map encI))]) = _
  simp [x_fewest_ways, P_need_balances k, e]
/-! ### evens -/
def okW (h : Nat) (n : Note) : Bool := (decide (0 ≤ n.1) && decide (n.1 < h)) && ((decide (0 ≤ n.2.1) && decide (n.2.1 < h)) && (decide (n.1 ≠ n.2.1) && decide (0 < n.2.2)))
theorem P_is_way (h : Nat) (n : Note) : g_is_way [.int (h : Nat), encN n] = .ok (.bool (okW h n)) := by
  obtain ⟨a, b, c⟩ := n
  have sz := size_ge
  have z3 : 3 ≤ sizeLine := by omega
  refine (fnP_run (f := x_is_way) rfl).trans ?_
  have l1 : lcL [5] [5] selOne tTrue (vAndV (vIsi .int (vVar 5)) (vNotV (vIsi .bool (vVar 5)))) ([a, b, c].map encI) [.d (.int (h : Nat)), .d (.tuple [.int a, .int b, .int c]), .un, .un, .un, .un] =
      .ok ([a, b, c].map fun _ => .bool true, [.d (.int (h : Nat)), .d (.tuple [.int a, .int b, .int c]), .un, .un, .un, .un]) :=
    all_ints [5] fun x => ⟨_, rfl, [.d (.int (h : Nat)), .d (.tuple [.int a, .int b, .int c]), .un, .un, .un, .d (.int x)], by simp, rfl⟩
  have q : gAll [.list [.bool true, .bool true, .bool true]] = some (.bool true) := rfl
  rw [show [a, b, c].map encI = [.int a, .int b, .int c] from rfl] at l1
  show retOf (x_is_way [.d (.int (h : Nat)), .d (.tuple [.int a, .int b, .int c]), .un, .un, .un, .un]) = _
  unfold okW
  by_cases c5 : a = b
  · subst c5
    by_cases c1 : 0 ≤ a <;> by_cases c2 : a < (h : Int) <;> simp [x_is_way, l1, z3, q, c1, c2]
  · by_cases c1 : 0 ≤ a <;> by_cases c2 : a < (h : Int) <;> by_cases c3 : 0 ≤ b <;> by_cases c4 : b < (h : Int) <;> simp [x_is_way, l1, z3, q, c1, c2, c3, c4, c5]
end Ev
set_option maxHeartbeats 200000
/-! L16: evens in plain words. Own work. -/
namespace Ev
open PySem PySem.Spec L2
def rowN (n : Note) : List Int := [n.1, n.2.1, n.2.2]
def ltN (p : Note × Note) : Bool := HT.lexLt (rowN p.1) (rowN p.2)
theorem gLtT_N (p q : Note) : gLtT (encN p) (encN q) = some (.bool (HT.lexLt (rowN p) (rowN q))) := rfl
def getI (gs : List Int) (i : Int) : Int := gs.getD i.toNat 0
def giveF (gs : List Int) (n : Note) : List Int := (gs.set n.1.toNat (getI gs n.1 - n.2.2)).set n.2.1.toNat (getI gs n.2.1 + n.2.2)
theorem giveF_len (gs : List Int) (n : Note) : (giveF gs n).length = gs.length := by unfold giveF; rw [List.length_set, List.length_set]
def evensF (bs : List Int) (ws : List Note) : Bool := ws.all (okW bs.length) && ((ws.zip (ws.drop 1)).all ltN && decide (ws.foldl giveF bs = List.replicate bs.length 0))
theorem eq_intsL (xs ys : List Int) : gCmp .Eq (.list (xs.map encI)) (.list (ys.map encI)) = some (.bool (decide (xs = ys))) := by
  show (if SeqAt.shaped (.list (xs.map encI)) && SeqAt.shaped (.list (ys.map encI)) then some (PyData.bool (PyData.eqv (.list (xs.map encI)) (.list (ys.map encI)))) else none) = _
  rw [ints_shaped, ints_shaped]
  simp only [Bool.and_self, if_true, PyData.eqv, eqv_ints]
theorem rep0 (n : Nat) (h : n ≤ 1000) : gRepL [.int 0] (.int (n : Nat)) = some (.list ((List.replicate n (0 : Int)).map encI)) := by
  show (if 0 ≤ ((n : Nat) : Int) ∧ ((n : Nat) : Int) ≤ 1000 then some (PyData.list (List.replicate ((n : Nat) : Int).toNat [PyData.int 0]).flatten) else none) = _
  rw [if_pos ⟨by omega, by omega⟩, Int.toNat_natCast]
  congr 2
  induction n with
  | zero => rfl
  | succ n ih => rw [List.replicate_succ, List.flatten_cons, ih (by omega), List.replicate_succ]; rfl
theorem okW_iff {h : Nat} {n : Note} : okW h n = true ↔ (0 ≤ n.1 ∧ n.1 < h) ∧ (0 ≤ n.2.1 ∧ n.2.1 < h) ∧ n.1 ≠ n.2.1 ∧ 0 < n.2.2 := by simp [okW]
theorem ixN_int {n : Nat} {i : Int} (h0 : 0 ≤ i) (h1 : i < n) : ixN n i = some i.toNat := by
  unfold ixN
  rw [if_pos h0, if_pos h1]
theorem atI_int {gs : List Int} {i : Int} (h0 : 0 ≤ i) (h1 : i < gs.length) : atI (gs.map encI) i = some (.int (getI gs i)) := by
  unfold atI
  rw [List.length_map, ixN_int h0 h1]
  show (gs.map encI)[i.toNat]? = _
  rw [List.getElem?_map]
  unfold getI
  rw [List.getD_eq_getElem?_getD, List.getElem?_eq_getElem (by omega)]
  rfl
theorem st1_ok {i : Nat} {fi : XT D} {v : D} {δ δ' : List Sl} {xs ys : List D} {k : Int} {j : Nat} (h1 : lstAt i δ = some xs) (h2 : fi δ = .ok (.int k, δ')) (h3 : lstAt i δ' = some ys) (h4 : ixN ys.length k = some j) : st1 i fi v δ = .ok ((), putAt i (ys.set j v) δ') := by
  unfold st1
  rw [h1]
  show (fi δ).bind _ = _
  rw [h2]
  show (Rs.of (lstAt i δ')).bind _ = _
  rw [h3]
  show (Rs.of (ixN ys.length k)).bind _ = _
  rw [h4]
  rfl
theorem give_step {B W : D} {gs : List Int} {n : Note} {s6 s7 s8 : Sl} (h : okW gs.length n = true) :
    sSt2 2 2 (vVar 3) (vVar 4) (vArg mkTup (vCons (vBin gSub (vIxV 2 (vVar 3)) (vVar 5)) (vCons (vBin gAdd (vIxV 2 (vVar 4)) (vVar 5)) vNil))) [.d B, .d W, .own (gs.map encI), .d (.int n.1), .d (.int n.2.1), .d (.int n.2.2), s6, s7, s8] =
      .ok (.nx, [.d B, .d W, .own ((giveF gs n).map encI), .d (.int n.1), .d (.int n.2.1), .d (.int n.2.2), s6, s7, s8]) := by
  obtain ⟨⟨h1, h2⟩, ⟨h3, h4⟩, _, _⟩ := okW_iff.mp h
  have sz := size_ge
  have z2 : 2 ≤ sizeLine := by omega
  have a1 := atI_int h1 h2
  have a2 := atI_int h3 h4
  have e1 : (vArg mkTup (vCons (vBin gSub (vIxV 2 (vVar 3)) (vVar 5)) (vCons (vBin gAdd (vIxV 2 (vVar 4)) (vVar 5)) vNil))) [.d B, .d W, .own (gs.map encI), .d (.int n.1), .d (.int n.2.1), .d (.int n.2.2), s6, s7, s8] =
      .ok (.tuple [.int (getI gs n.1 - n.2.2), .int (getI gs n.2.1 + n.2.2)], [.d B, .d W, .own (gs.map encI), .d (.int n.1), .d (.int n.2.1), .d (.int n.2.2), s6, s7, s8]) := by simp [a1, a2, z2]
  unfold sSt2
  rw [e1]
  show (st1 2 (vVar 3) (.int (getI gs n.1 - n.2.2)) _).bind _ = _
  rw [st1_ok (xs := gs.map encI) (ys := gs.map encI) (k := n.1) (j := n.1.toNat) (δ' := [.d B, .d W, .own (gs.map encI), .d (.int n.1), .d (.int n.2.1), .d (.int n.2.2), s6, s7, s8]) rfl (by simp) rfl (by rw [List.length_map]; exact ixN_int h1 h2)]
  show (st1 2 (vVar 4) (.int (getI gs n.2.1 + n.2.2)) [.d B, .d W, .own ((gs.map encI).set n.1.toNat (.int (getI gs n.1 - n.2.2))), .d (.int n.1), .d (.int n.2.1), .d (.int n.2.2), s6, s7, s8]).bind _ = _
  rw [st1_ok (xs := (gs.map encI).set n.1.toNat (.int (getI gs n.1 - n.2.2))) (ys := (gs.map encI).set n.1.toNat (.int (getI gs n.1 - n.2.2))) (k := n.2.1) (j := n.2.1.toNat) (δ' := [.d B, .d W, .own ((gs.map encI).set n.1.toNat (.int (getI gs n.1 - n.2.2))), .d (.int n.1), .d (.int n.2.1), .d (.int n.2.2), s6, s7, s8]) rfl (by simp) rfl (by rw [List.length_set, List.length_map]; exact ixN_int h3 h4)]
  show Rs.ok (Fl.nx, [Sl.d B, .d W, .own (((gs.map encI).set n.1.toNat (.int (getI gs n.1 - n.2.2))).set n.2.1.toNat (.int (getI gs n.2.1 + n.2.2))), .d (.int n.1), .d (.int n.2.1), .d (.int n.2.2), s6, s7, s8]) = _
  unfold giveF
  rw [List.map_set, List.map_set]
  rfl
theorem P_evens {bs : List Int} {ws : List Note} (k : okBal bs = true) (hw : ws.length ≤ 100) : g_evens [.tuple (bs.map encI), .tuple (ws.map encN)] = .ok (.bool (evensF bs ws)) := by
  obtain ⟨k1, k2, k3, k4⟩ := okBal_iff.mp k
  have sz := size_ge
  have hb := P_need_balances k
  have z1 : 1 ≤ 1000 := by decide
  refine (fnP_run (f := x_evens) rfl).trans ?_
  have lb : gLen [.tuple (bs.map encI)] = some (.int (bs.length : Nat)) := by simp
  have hr := rep0 bs.length (by omega)
  have hl1 : gTup1 [.tuple (bs.map encI)] = some (.tuple (bs.map encI)) := rfl
  have l1 : lcL [8] [8] selOne tTrue (vCall g_is_way (vCons (vArg gLen (vCons (vVar 0) vNil)) (vCons (vVar 8) vNil))) (ws.map encN) [.d (.tuple (bs.map encI)), .d (.tuple (ws.map encN)), .un, .un, .un, .un, .un, .un, .un] =
      .ok (ws.map fun n => .bool (okW bs.length n), [.d (.tuple (bs.map encI)), .d (.tuple (ws.map encN)), .un, .un, .un, .un, .un, .un, .un]) := by
    refine lcL_all encN (fun n => .bool (okW bs.length n)) fun n _ => ⟨_, rfl, _, rfl, [.d (.tuple (bs.map encI)), .d (.tuple (ws.map encN)), .un, .un, .un, .un, .un, .un, .d (encN n)], ?_, rfl⟩
    simp [P_is_way]
  have l2 : lcL [6, 7] [6, 7] (selTup 2) tTrue (vBin gLtT (vVar 6) (vVar 7)) ((ws.zip (ws.drop 1)).map fun p => .tuple [encN p.1, encN p.2]) [.d (.tuple (bs.map encI)), .d (.tuple (ws.map encN)), .un, .un, .un, .un, .un, .un, .un] =
      .ok ((ws.zip (ws.drop 1)).map fun p => .bool (ltN p), [.d (.tuple (bs.map encI)), .d (.tuple (ws.map encN)), .un, .un, .un, .un, .un, .un, .un]) := by
    refine lcL_all (fun p : Note × Note => .tuple [encN p.1, encN p.2]) (fun p => .bool (ltN p)) fun p _ => ⟨[.d (.tuple (bs.map encI)), .d (.tuple (ws.map encN)), .un, .un, .un, .un, .d (encN p.1), .d (encN p.2), .un], ?_, _, rfl, [.d (.tuple (bs.map encI)), .d (.tuple (ws.map encN)), .un, .un, .un, .un, .d (encN p.1), .d (encN p.2), .un], ?_, rfl⟩
    · simp
    · simp [gLtT_N, ltN]
  have ez : zip2 [.tuple (ws.map encN), .tuple ((ws.drop 1).map encN)] = some ((ws.zip (ws.drop 1)).map fun p => .tuple [encN p.1, encN p.2]) := by rw [zip2_of rfl rfl, zipD_map]
  have es : gSl (.tuple (ws.map encN)) (some 1) none = some (.tuple ((ws.drop 1).map encN)) := by
    show some (PyData.tuple (cutD (ws.map encN) (some 1) none)) = _
    have := cut_drop (xs := ws.map encN) (i := 0)
    rw [List.map_drop]
    congr 2
  have w1 : ws.length ≤ sizeLine := by omega
  have w2 : (ws.zip (ws.drop 1)).length ≤ sizeLine := by rw [List.length_zip]; omega
  have q1 := all_bools ws (okW bs.length)
  have q2 := all_bools (ws.zip (ws.drop 1)) ltN
  unfold evensF
  show retOf (x_evens [.d (.tuple (bs.map encI)), .d (.tuple (ws.map encN)), .un, .un, .un, .un, .un, .un, .un]) = _
  cases c1 : ws.all (okW bs.length) with
  | false =>
    rw [c1] at q1
    simp [x_evens, hb, l1, w1, q1]
  | true =>
    rw [c1] at q1
    cases c2 : (ws.zip (ws.drop 1)).all ltN with
    | false =>
      rw [c2] at q2
      generalize ws.drop 1 = T at *
      rw [List.length_zip] at w2
      simp [x_evens, hb, l1, w1, q1, es, ez, l2, w2, q2]
    | true =>
      rw [c2] at q2
      have hall : ∀ n ∈ ws, okW bs.length n = true := fun n hn => List.all_eq_true.mp c1 n hn
      obtain ⟨δ', e1, ⟨s3, s4, s5, rfl, _⟩⟩ := forL_pre (is := [3, 4, 5]) (sel := selTup 3) (body := sSt2 2 2 (vVar 3) (vVar 4) (vArg mkTup (vCons (vBin gSub (vIxV 2 (vVar 3)) (vVar 5)) (vCons (vBin gAdd (vIxV 2 (vVar 4)) (vVar 5)) vNil))))
        encN (fun pre δ => ∃ s3 s4 s5 : Option D, δ = [.d (.tuple (bs.map encI)), .d (.tuple (ws.map encN)), .own ((pre.foldl giveF bs).map encI), slO s3, slO s4, slO s5, .un, .un, .un] ∧ (pre.foldl giveF bs).length = bs.length) ws
        (fun pre n post δ e ⟨s3, s4, s5, hδ, hlen⟩ => by
          subst hδ
          have hn : okW (pre.foldl giveF bs).length n = true := by rw [hlen]; exact hall n (by rw [e]; simp)
          refine ⟨[.d (.tuple (bs.map encI)), .d (.tuple (ws.map encN)), .own ((pre.foldl giveF bs).map encI), .d (.int n.1), .d (.int n.2.1), .d (.int n.2.2), .un, .un, .un], by cases s3 <;> cases s4 <;> cases s5 <;> simp [encN], _, give_step hn, some (.int n.1), some (.int n.2.1), some (.int n.2.2), ?_, ?_⟩
          · rw [List.foldl_append]; rfl
          · rw [List.foldl_append]
            exact (giveF_len _ n).trans hlen) ws [] [.d (.tuple (bs.map encI)), .d (.tuple (ws.map encN)), .own (bs.map encI), .un, .un, .un, .un, .un, .un] rfl ⟨none, none, none, rfl, rfl⟩
      have ef := eq_intsL (ws.foldl giveF bs) (List.replicate bs.length 0)
      generalize ws.drop 1 = T at *
      generalize (List.replicate bs.length (0 : Int)).map encI = Z at *
      rw [List.length_zip] at w2
      have vr : ∀ (fe : XT (List D)) (fb : XT D) (δ : List Sl), vRepL fe fb δ = bd (fe δ) fun p => if p.1.length ≤ 1000 then bd (fb p.2) fun q => bd (Rs.of (gRepL p.1 q.1)) fun z => .ok (z, q.2) else .no := fun _ _ _ => rfl
      simp [x_evens, hb, l1, w1, q1, es, ez, l2, w2, q2, e1, vr, lb, hr, ef, z1]
end Ev
set_option maxHeartbeats 200000
/-! L17: the chain by hand. Own work. -/
namespace Ev
open PySem PySem.Spec L2
theorem eqT1 (a c : Int) : gCmp .Eq (.tuple [.int a]) (.tuple [.int c]) = some (.bool (decide (a = c))) := by
  refine (eq_ints [a] [c]).trans ?_
  congr 2
  simp
theorem eqT2 (a b c d : Int) : gCmp .Eq (.tuple [.int a, .int b]) (.tuple [.int c, .int d]) = some (.bool (decide (a = c ∧ b = d))) := by
  refine (eq_ints [a, b] [c, d]).trans ?_
  congr 2
  simp
theorem eqT3 (a b e c d f : Int) : gCmp .Eq (.tuple [.int a, .int b, .int e]) (.tuple [.int c, .int d, .int f]) = some (.bool (decide (a = c ∧ b = d ∧ e = f))) := by
  refine (eq_ints [a, b, e] [c, d, f]).trans ?_
  congr 2
  simp
def nsC (m : Int) : List Note := [(0, 1, 10 + m), (1, 2, 4)]
def csC (m : Int) : List (Option Int) := [some (-10 - m), some (5 + m), some 5]
def csO (m : Int) : List (Option Int) := [none, some (5 + m), none]
theorem kC {m : Int} (h1 : 1 ≤ m) (h2 : m ≤ 100000000000000000000000000000) : okB 3 (nsC m) (csC m) = true := by
  simp [okB, nsC, csC, inR, okN, okC, GREAT]; omega
theorem kO {m : Int} (h1 : 1 ≤ m) (h2 : m ≤ 100000000000000000000000000000) : okB 3 (nsC m) (csO m) = true := by
  simp [okB, nsC, csO, inR, okN, okC, GREAT]; omega
theorem kN {m : Int} (h1 : 1 ≤ m) (h2 : m ≤ 100000000000000000000000000000) : okB 3 (nsC m) (List.replicate (3 : Int).toNat none) = true := by
  have : List.replicate (3 : Int).toNat (none : Option Int) = [none, none, none] := rfl
  rw [this]
  simp [okB, nsC, inR, okN, okC, GREAT]; omega
theorem netC (m : Int) : netsF (3 : Int).toNat (nsC m) = [10 + m, 0, 4] := by
  have : pairsF (3 : Int).toNat = [(0, 1), (0, 2), (1, 2)] := rfl
  unfold netsF
  rw [this]
  simp [goneF, isFor, nsC, List.filter_cons]
theorem gainC (m : Int) : gainsF (3 : Int).toNat [10 + m, 0, 4] = [-(10 + m), 10 + m - 4, 4] := by
  have : pairsF (3 : Int).toNat = [(0, 1), (0, 2), (1, 2)] := rfl
  have r : List.range (3 : Int).toNat = [0, 1, 2] := rfl
  unfold gainsF
  rw [r]
  unfold gainF
  rw [this]
  simp [inTo, outOf, List.filter_cons]
theorem lackC (m : Int) : lacksF (3 : Int).toNat (nsC m) (csC m) = [some 0, some (-1), some 1] := by
  unfold lacksF
  rw [netC, gainC]
  simp [csC]; omega
theorem lackO (m : Int) : lacksF (3 : Int).toNat (nsC m) (csO m) = [none, some (-1), none] := by
  unfold lacksF
  rw [netC, gainC]
  simp [csO]; omega
theorem lackN (m : Int) : lacksF (3 : Int).toNat (nsC m) (List.replicate (3 : Int).toNat none) = [none, none, none] := by
  unfold lacksF
  rw [netC, gainC]
  rfl
theorem netsC_by {m s r1 r2 : Int} (h1 : 1 ≤ m) (h2 : m ≤ 100000000000000000000000000000) (hs : 1 ≤ s)
    (e1 : g_most_more [.list (([some 0, some (-1), some 1] : List (Option Int)).map encO), .int (0 : Nat), .int (1 : Nat), .int 0, .int s] = .ok (.int r1))
    (e2 : g_most_more [.list (([some 0, some (-1), some 1] : List (Option Int)).map encO), .int (1 : Nat), .int (0 : Nat), .int (-0), .int s] = .ok (.int r2)) :
    g_nets_by [encB 3 (nsC m) (csC m), .int s, .int (0 : Nat), .int (1 : Nat)] = .ok (.tuple [.int (10 + m - r2), .int (10 + m + r1)]) :=
  P_nets_by (ms := [(1, 2, 1)]) (i := 0) (kC h1 h2) (lackC m) (l := 1) rfl hs rfl (by decide) rfl (by rw [netC]; rfl) rfl e1 e2
theorem netsC_by12 {m s r1 r2 : Int} (h1 : 1 ≤ m) (h2 : m ≤ 100000000000000000000000000000) (hs : 1 ≤ s)
    (e1 : g_most_more [.list (([some 0, some (-1), some 1] : List (Option Int)).map encO), .int (1 : Nat), .int (2 : Nat), .int 1, .int s] = .ok (.int r1))
    (e2 : g_most_more [.list (([some 0, some (-1), some 1] : List (Option Int)).map encO), .int (2 : Nat), .int (1 : Nat), .int (-1), .int s] = .ok (.int r2)) :
    g_nets_by [encB 3 (nsC m) (csC m), .int s, .int (1 : Nat), .int (2 : Nat)] = .ok (.tuple [.int (4 - r2), .int (4 + r1)]) :=
  P_nets_by (ms := [(1, 2, 1)]) (i := 2) (kC h1 h2) (lackC m) (l := 1) rfl hs rfl (by decide) rfl (by rw [netC]; rfl) rfl e1 e2
theorem netsO_by {m s r1 r2 : Int} (h1 : 1 ≤ m) (h2 : m ≤ 100000000000000000000000000000) (hs : 1 ≤ s)
    (e1 : g_most_more [.list (([none, some (-1), none] : List (Option Int)).map encO), .int (0 : Nat), .int (1 : Nat), .int (-1), .int s] = .ok (.int r1))
    (e2 : g_most_more [.list (([none, some (-1), none] : List (Option Int)).map encO), .int (1 : Nat), .int (0 : Nat), .int (- -1), .int s] = .ok (.int r2)) :
    g_nets_by [encB 3 (nsC m) (csO m), .int s, .int (0 : Nat), .int (1 : Nat)] = .ok (.tuple [.int (10 + m - r2), .int (10 + m + r1)]) :=
  P_nets_by (ms := [(1, 0, 1)]) (i := 0) (kO h1 h2) (lackO m) (l := 1) rfl hs rfl (by decide) rfl (by rw [netC]; rfl) rfl e1 e2
theorem netsN_by {m : Int} (h1 : 1 ≤ m) (h2 : m ≤ 100000000000000000000000000000) :
    g_nets_by [encB 3 (nsC m) (List.replicate (3 : Int).toNat none), .int 0, .int (0 : Nat), .int (1 : Nat)] = .ok (.tuple [.int (10 + m - 0), .int (10 + m + 0)]) :=
  P_nets_by (ms := []) (i := 0) (kN h1 h2) (lackN m) (l := 0) rfl (by decide) rfl (by decide) rfl (by rw [netC]; rfl) rfl (by kernel_rfl) (by kernel_rfl)
theorem netsN_by12 {m : Int} (h1 : 1 ≤ m) (h2 : m ≤ 100000000000000000000000000000) :
    g_nets_by [encB 3 (nsC m) (List.replicate (3 : Int).toNat none), .int 0, .int (1 : Nat), .int (2 : Nat)] = .ok (.tuple [.int (4 - 0), .int (4 + 0)]) :=
  P_nets_by (ms := []) (i := 2) (kN h1 h2) (lackN m) (l := 0) rfl (by decide) rfl (by decide) rfl (by rw [netC]; rfl) rfl (by kernel_rfl) (by kernel_rfl)
theorem countO0 {m s r1 r2 : Int} (h1 : 1 ≤ m) (h2 : m ≤ 100000000000000000000000000000) (hs : 1 ≤ s)
    (e1 : g_most_lack [.list (([none, some (-1), none] : List (Option Int)).map encO), .int (0 : Nat), .int 1, .int s, .int (-1)] = .ok (.int r1))
    (e2 : g_most_lack [.list (([none, some (-1), none] : List (Option Int)).map encO), .int (0 : Nat), .int 1, .int s, .int 1] = .ok (.int r2)) :
    g_count_by [encB 3 (nsC m) (csO m), .int s, .int (0 : Nat)] = .ok (.tuple [.int (-(10 + m) + r1), .int (-(10 + m) + r2)]) :=
  P_count_open (ms := [(1, 0, 1)]) (kO h1 h2) (lackO m) (l := 1) rfl hs rfl rfl (by decide) (by rw [netC, gainC]; rfl) rfl e1 e2
theorem countO2 {m s r1 r2 : Int} (h1 : 1 ≤ m) (h2 : m ≤ 100000000000000000000000000000) (hs : 1 ≤ s)
    (e1 : g_most_lack [.list (([none, some (-1), none] : List (Option Int)).map encO), .int (2 : Nat), .int 0, .int s, .int (-1)] = .ok (.int r1))
    (e2 : g_most_lack [.list (([none, some (-1), none] : List (Option Int)).map encO), .int (2 : Nat), .int 0, .int s, .int 1] = .ok (.int r2)) :
    g_count_by [encB 3 (nsC m) (csO m), .int s, .int (2 : Nat)] = .ok (.tuple [.int (4 + r1), .int (4 + r2)]) :=
  P_count_open (ms := [(1, 0, 1)]) (kO h1 h2) (lackO m) (l := 1) rfl hs rfl rfl (by decide) (by rw [netC, gainC]; rfl) rfl e1 e2
theorem countO1 {m s : Int} (h1 : 1 ≤ m) (h2 : m ≤ 100000000000000000000000000000) (hs : 1 ≤ s) : g_count_by [encB 3 (nsC m) (csO m), .int s, .int (1 : Nat)] = .ok (.tuple [.int (5 + m), .int (5 + m)]) :=
  P_count_known (kO h1 h2) (lackO m) (l := 1) rfl hs rfl
end Ev
set_option maxHeartbeats 200000
/-! L18: the chain holds. Own work. -/
namespace Ev
open PySem PySem.Spec L2
theorem okT2 {a b c d : Int} (h1 : a = c) (h2 : b = d) : (Rs.ok (PyData.tuple [.int a, .int b]) : Rs D) = .ok (.tuple [.int c, .int d]) := by rw [h1, h2]
theorem P_chain {m : Int} (h1 : 1 ≤ m) (h2 : m ≤ 100000000000000000000000000000) : g__law_chain [.int m] = .ok (.list (List.replicate 11 (.bool true))) := by
  have sz := size_ge
  have z1 : 1 ≤ sizeLine := by omega
  have z2 : 2 ≤ sizeLine := by omega
  have z3 : 3 ≤ sizeLine := by omega
  have y1 : 1 < sizeLine := by omega
  have y2 : 2 < sizeLine := by omega
  have y3 : 3 < sizeLine := by omega
  have y4 : 4 < sizeLine := by omega
  have y5 : 5 < sizeLine := by omega
  have y6 : 6 < sizeLine := by omega
  have y7 : 7 < sizeLine := by omega
  have y8 : 8 < sizeLine := by omega
  have y9 : 9 < sizeLine := by omega
  have y10 : 10 < sizeLine := by omega
  have y11 : 11 < sizeLine := by omega
  have y12 : 12 < sizeLine := by omega
  have z4 : 4 ≤ sizeLine := by omega
  have z5 : 5 ≤ sizeLine := by omega
  have z6 : 6 ≤ sizeLine := by omega
  have z7 : 7 ≤ sizeLine := by omega
  have z8 : 8 ≤ sizeLine := by omega
  have z9 : 9 ≤ sizeLine := by omega
  have z10 : 10 ≤ sizeLine := by omega
  have z11 : 11 ≤ sizeLine := by omega
  have z12 : 12 ≤ sizeLine := by omega
  have k := kC h1 h2
  have ko := kO h1 h2
  have f1 : g_nets [encB 3 (nsC m) (csC m)] = .ok (.tuple [.int (10 + m), .int 0, .int 4]) := by rw [P_nets k, netC]; rfl
  have f2 : g_lacks [encB 3 (nsC m) (csC m)] = .ok (.tuple [.int 0, .int (-1), .int 1]) := by rw [P_lacks k, lackC]; rfl
  have f3 : g_least_error [encB 3 (nsC m) (csC m)] = .ok (.int 1) := by rw [P_least_error k, lackC]; rfl
  have f4 : g_truth [encB 3 (nsC m) (csC m)] = .ok (.tuple [.int (10 + m), .int 0, .int 5]) := by
    rw [P_truth (ms := [(1, 2, 1)]) (l := 1) k (lackC m) rfl rfl (by decide)]
    unfold truthF
    rw [netC]
    have : netsF (3 : Int).toNat [(1, 2, 1)] = [0, 0, 1] := rfl
    rw [this]
    simp [encI]
  have f5 : g_shown [encB 3 (nsC m) (csC m), .tuple [.int 0, .int 0, .int 1]] = .ok (.int 1) := P_shown (ps := [0, 0, 1]) k (lackC m) rfl (by decide)
  have f6 : g_shown [encB 3 (nsC m) (csC m), .tuple [.int 0, .int (-1), .int 0]] = .ok (.int 1) := P_shown (ps := [0, -1, 0]) k (lackC m) rfl (by decide)
  have w1 := netsC_by (s := 1) (r1 := 0) (r2 := 0) h1 h2 (by decide) (by kernel_rfl) (by kernel_rfl)
  have w3 := netsC_by (s := 3) (r1 := 0) (r2 := 1) h1 h2 (by decide) (by kernel_rfl) (by kernel_rfl)
  have w4 := netsC_by (s := 4) (r1 := 1) (r2 := 1) h1 h2 (by decide) (by kernel_rfl) (by kernel_rfl)
  have w5 := netsC_by12 (s := 1) (r1 := 1) (r2 := -1) h1 h2 (by decide) (by kernel_rfl) (by kernel_rfl)
  have w6 := netsO_by (s := 1) (r1 := 0) (r2 := 1) h1 h2 (by decide) (by kernel_rfl) (by kernel_rfl)
  have b0 := netsN_by h1 h2
  have b1 := netsN_by12 h1 h2
  have f7 := P_owes (a := 1) (b := 0) k (by decide) (by decide) (by decide) (by decide) (by decide) (by decide) (by decide) (P_owes_by2 (a := 1) (b := 0) w1)
  have f8 := P_owes (a := 1) (b := 0) k (by decide) (by decide) (by decide) (by decide) (by decide) (by decide) (by decide) (P_owes_by2 (a := 1) (b := 0) w3)
  have f9 := P_owes (a := 1) (b := 0) k (by decide) (by decide) (by decide) (by decide) (by decide) (by decide) (by decide) (P_owes_by2 (a := 1) (b := 0) w4)
  have f10 := P_owes (a := 2) (b := 1) k (by decide) (by decide) (by decide) (by decide) (by decide) (by decide) (by decide) (P_owes_by2 (a := 2) (b := 1) w5)
  have f11 := P_owes (a := 1) (b := 0) ko (by decide) (by decide) (by decide) (by decide) (by decide) (by decide) (by decide) (P_owes_by2 (a := 1) (b := 0) w6)
  have f12 := P_is_wrong (a := 0) (b := 1) ko (by decide) (by decide) (by decide) (by decide) (by decide) (by decide) (by decide) (P_owes_by2 (a := 0) (b := 1) w6) (P_owes_by2 (a := 0) (b := 1) b0)
  have f13 := P_is_wrong (a := 2) (b := 1) k (by decide) (by decide) (by decide) (by decide) (by decide) (by decide) (by decide) (P_owes_by2 (a := 2) (b := 1) w5) (P_owes_by2 (a := 2) (b := 1) b1)
  have f14 := P_is_wrong (a := 0) (b := 1) k (by decide) (by decide) (by decide) (by decide) (by decide) (by decide) (by decide) (P_owes_by2 (a := 0) (b := 1) w1) (P_owes_by2 (a := 0) (b := 1) b0)
  have c1 := countO0 (s := 1) (r1 := 0) (r2 := 1) h1 h2 (by decide) (by kernel_rfl) (by kernel_rfl)
  have c2 := countO0 (s := 2) (r1 := -1) (r2 := 2) h1 h2 (by decide) (by kernel_rfl) (by kernel_rfl)
  have c3 := countO2 (s := 2) (r1 := -1) (r2 := 2) h1 h2 (by decide) (by kernel_rfl) (by kernel_rfl)
  have c4 := countO1 (s := 2) h1 h2 (by decide)
  have f15 := P_count_of (i := 0) ko (by decide) (by decide) (by decide) (by decide) c1
  have f16 := P_count_of (i := 0) ko (by decide) (by decide) (by decide) (by decide) c2
  have f17 := P_best_counted (slack := 2) (l := 1) (lo := fun i => if i = 0 then -(10 + m) + -1 else if i = 1 then 5 + m else 4 + -1) (hi := fun i => if i = 0 then -(10 + m) + 2 else if i = 1 then 5 + m else 4 + 2) ko (by decide) (by decide) (lackO m) rfl (by decide)
    (fun i hi => by
      have hi : i < 3 := hi
      match i, hi with
      | 0, _ => exact c2
      | 1, _ => exact c4
      | 2, _ => exact c3)
  have f18 := P_needless k
  have f19 := P_fewest_wrong (res := some [[0], [1, 2]]) k (lackC m) (by decide)
  have q17 : bestF (3 : Int).toNat (csO m) (fun i => if i = 0 then -(10 + m) + -1 else if i = 1 then 5 + m else 4 + -1) (fun i => if i = 0 then -(10 + m) + 2 else if i = 1 then 5 + m else 4 + 2) = some 0 := by
    have a0 : bestStep (csO m) (fun i => if i = 0 then -(10 + m) + -1 else if i = 1 then 5 + m else 4 + -1) (fun i => if i = 0 then -(10 + m) + 2 else if i = 1 then 5 + m else 4 + 2) (-1, none) 0 = (3, some 0) := by
      unfold bestStep
      have : -(10 + m) + 2 - (-(10 + m) + -1) = 3 := by omega
      simp [csO, this]
    have a1 : bestStep (csO m) (fun i => if i = 0 then -(10 + m) + -1 else if i = 1 then 5 + m else 4 + -1) (fun i => if i = 0 then -(10 + m) + 2 else if i = 1 then 5 + m else 4 + 2) (3, some 0) 1 = (3, some 0) := by
      unfold bestStep
      simp [csO]
    have a2 : bestStep (csO m) (fun i => if i = 0 then -(10 + m) + -1 else if i = 1 then 5 + m else 4 + -1) (fun i => if i = 0 then -(10 + m) + 2 else if i = 1 then 5 + m else 4 + 2) (3, some 0) 2 = (3, some 0) := by
      unfold bestStep
      simp [csO]
    unfold bestF
    have r : List.range (3 : Int).toNat = [0, 1, 2] := rfl
    rw [r]
    simp only [List.foldl_cons, List.foldl_nil, a0, a1, a2]
  rw [q17] at f17
  rw [if_neg (by omega), if_neg (by omega)] at f12
  rw [if_pos (by omega)] at f13
  rw [if_neg (by omega), if_pos (by omega)] at f14
  have f18 : g_needless [encB 3 (nsC m) (csC m)] = .ok (.list [.int 0, .int 1, .int 2]) := by
    rw [f18, if_pos ⟨rfl, by show -10 - m + (5 + m + (5 + 0)) = 0; omega⟩]; rfl
  have f19 : g_fewest_wrong [encB 3 (nsC m) (csC m)] = .ok (.int 1) := f19
  have f17 : g_best_counted [encB 3 (nsC m) (csO m), .int 2] = .ok (.int 0) := f17
  have f7 : g_owes [encB 3 (nsC m) (csC m), .int 1, .int 1, .int 0] = .ok (.tuple [.int (10 + m), .int (10 + m)]) := f7.trans (okT2 (by omega) (by omega))
  have f8 : g_owes [encB 3 (nsC m) (csC m), .int 3, .int 1, .int 0] = .ok (.tuple [.int (9 + m), .int (10 + m)]) := f8.trans (okT2 (by omega) (by omega))
  have f9 : g_owes [encB 3 (nsC m) (csC m), .int 4, .int 1, .int 0] = .ok (.tuple [.int (9 + m), .int (11 + m)]) := f9.trans (okT2 (by omega) (by omega))
  have f10 : g_owes [encB 3 (nsC m) (csC m), .int 1, .int 2, .int 1] = .ok (.tuple [.int 5, .int 5]) := f10.trans (okT2 (by omega) (by omega))
  have f11 : g_owes [encB 3 (nsC m) (csO m), .int 1, .int 1, .int 0] = .ok (.tuple [.int (9 + m), .int (10 + m)]) := f11.trans (okT2 (by omega) (by omega))
  have f15 : g_count_of [encB 3 (nsC m) (csO m), .int 1, .int 0] = .ok (.tuple [.int (-10 - m), .int (-9 - m)]) := f15.trans (okT2 (by omega) (by omega))
  have f16 : g_count_of [encB 3 (nsC m) (csO m), .int 2, .int 0] = .ok (.tuple [.int (-11 - m), .int (-8 - m)]) := f16.trans (okT2 (by omega) (by omega))
  have hB : encB 3 (nsC m) (csC m) = .tuple [.int 3, .tuple [.tuple [.int 0, .int 1, .int (10 + m)], .tuple [.int 1, .int 2, .int 4]], .tuple [.int (-10 - m), .int (5 + m), .int 5]] := rfl
  have hO : encB 3 (nsC m) (csO m) = .tuple [.int 3, .tuple [.tuple [.int 0, .int 1, .int (10 + m)], .tuple [.int 1, .int 2, .int 4]], .tuple [.none, .int (5 + m), .none]] := rfl
  have e1 : gSl (.tuple [.int 3, .tuple [.tuple [.int 0, .int 1, .int (10 + m)], .tuple [.int 1, .int 2, .int 4]], .tuple [.int (-10 - m), .int (5 + m), .int 5]]) none (some 2) = some (.tuple [.int 3, .tuple [.tuple [.int 0, .int 1, .int (10 + m)], .tuple [.int 1, .int 2, .int 4]]]) := rfl
  have e2 : gAdd (.tuple [.int 3, .tuple [.tuple [.int 0, .int 1, .int (10 + m)], .tuple [.int 1, .int 2, .int 4]]]) (.tuple [.tuple [.none, .int (5 + m), .none]]) = some (.tuple [.int 3, .tuple [.tuple [.int 0, .int 1, .int (10 + m)], .tuple [.int 1, .int 2, .int 4]], .tuple [.none, .int (5 + m), .none]]) := rfl
  rw [hB] at f1 f2 f3 f4 f5 f6 f7 f8 f9 f10 f13 f14 f18 f19
  rw [hO] at f11 f12 f15 f16 f17
  refine (fnP_run (f := x__law_chain) rfl).trans ?_
  show retOf (x__law_chain [.d (.int m), .un, .un, .un]) = _
  have t3 : gCmp .Eq (.list [.int 0, .int 1, .int 2]) (.list [.int 0, .int 1, .int 2]) = some (.bool true) := rfl
  have s1 : gCmp .Eq (.str "open") (.str "open") = some (.bool true) := by kernel_rfl
  have s2 : gCmp .Eq (.str "sure") (.str "sure") = some (.bool true) := by kernel_rfl
  have s3 : gCmp .Eq (.str "never") (.str "never") = some (.bool true) := by kernel_rfl
  simp [x__law_chain, e1, e2, s1, s2, s3, f1, f2, f3, f4, f5, f6, f7, f8, f9, f10, f11, f12, f13, f14, f15, f16, f17, f18, f19, eqT2, eqT3, z1, z2, z3, t3, y1, y2, y3, y4, y5, y6, y7, y8, y9, y10, y11, y12, z4, z5, z6, z7, z8, z9, z10, z11, z12]
end Ev
set_option maxHeartbeats 200000
set_option maxHeartbeats 2000000
/-! L19: the evened hold. Own work. -/
namespace Ev
open PySem PySem.Spec L2
def sc (m : Int) (cs : List Int) : List Int := cs.map (· * m)
theorem getD_sc (m : Int) (cs : List Int) (i : Nat) : (valsF (sc m cs)).getD i none = ((valsF cs).getD i none).map (· * m) := by
  unfold valsF sc
  rw [List.getD_eq_getElem?_getD, List.getD_eq_getElem?_getD, List.getElem?_map, List.getElem?_map, List.getElem?_map]
  cases cs[i]? with
  | none => rfl
  | some c =>
    show some (-(c * m)) = some (-c * m)
    rw [Int.neg_mul]
theorem known_sc (m : Int) : ∀ ls : List (Option Int), known (ls.map (Option.map (· * m))) = (known ls).map (· * m)
  | [] => rfl
  | none :: r => known_sc m r
  | some c :: r => congrArg (c * m :: ·) (known_sc m r)
theorem sum_sc (m : Int) : ∀ xs : List Int, (xs.map (· * m)).sum = xs.sum * m
  | [] => by simp
  | x :: r => by rw [List.map_cons, List.sum_cons, List.sum_cons, sum_sc m r, Int.add_mul]
theorem evenF_sc {m : Int} (hm : m ≠ 0) (cs : List Int) : evenF (valsF (sc m cs)) = evenF (valsF cs) := by
  funext s
  have e : ownF (valsF (sc m cs)) s = (ownF (valsF cs) s).map (Option.map (· * m)) := by
    unfold ownF
    rw [List.map_map]
    refine List.map_congr_left fun i _ => ?_
    exact getD_sc m cs i
  unfold evenF
  rw [e, known_sc, sum_sc]
  have h1 : ((ownF (valsF cs) s).map (Option.map (· * m))).all isK = (ownF (valsF cs) s).all isK := by
    have : (isK ∘ Option.map (· * m)) = isK := funext fun o => by cases o <;> rfl
    rw [List.all_map, this]
  have h2 : decide ((known (ownF (valsF cs) s)).sum * m = 0) = decide ((known (ownF (valsF cs) s)).sum = 0) := decide_eq_decide.mpr ⟨fun h => by rcases Int.mul_eq_zero.mp h with h | h; exact h; exact absurd h hm, fun h => by rw [h, Int.zero_mul]⟩
  rw [h1, h2]
theorem ways_sc {m : Int} {cs : List Int} {ps : Parts} {ms : List Note} (hm : m ≠ 0) (hl : cs.length ≤ 6) (hp : partsF (evenF (valsF cs)) 8 (List.range cs.length) = some (some ps)) (hne : ∀ p ∈ ps, p ≠ []) (hidx : ∀ p ∈ ps, ∀ i ∈ p, i < cs.length) (hT : (ps.map List.length).sum ≤ 60)
    (hmv : movesOfF (valsF (sc m cs)) ps = ms) (hn : ∀ n ∈ ms, 0 ≤ n.1 ∧ 0 ≤ n.2.1 ∧ 0 ≤ n.2.2) : g_ways_by [.tuple ((sc m cs).map encI)] = .ok (.tuple (sortD (ms.map encN))) := by
  have l : (sc m cs).length = cs.length := by unfold sc; rw [List.length_map]
  have := P_ways_by (bs := sc m cs) (ps := ps) (by omega) (by rw [l, evenF_sc hm]; exact hp) hne (by rw [l]; exact hidx) hT (by rw [hmv]; exact hn)
  rw [hmv] at this
  exact this
theorem few_sc {m : Int} {cs : List Int} {ps : Parts} {ms : List Note} (hm : m ≠ 0) (k : okBal (sc m cs) = true) (hl : cs.length ≤ 6) (hp : partsF (evenF (valsF cs)) 8 (List.range cs.length) = some (some ps)) (hne : ∀ p ∈ ps, p ≠ []) (hidx : ∀ p ∈ ps, ∀ i ∈ p, i < cs.length) (hT : (ps.map List.length).sum ≤ 60)
    (hmv : movesOfF (valsF (sc m cs)) ps = ms) (hn : ∀ n ∈ ms, 0 ≤ n.1 ∧ 0 ≤ n.2.1 ∧ 0 ≤ n.2.2) : g_fewest_ways [.tuple ((sc m cs).map encI)] = .ok (.int ms.length) := by
  have := P_fewest_ways k (ways_sc hm hl hp hne hidx hT hmv hn)
  rw [this, (sortD_perm _).length_eq, List.length_map]
theorem cMul_big {i j : Int} (hi : i.natAbs < 2 ^ 100) (hj : j.natAbs < 2 ^ 100) : cMul i j = true := cMul_small (Nat.lt_of_lt_of_le hi (Nat.pow_le_pow_right (by decide) (by decide))) (Nat.lt_of_lt_of_le hj (Nat.pow_le_pow_right (by decide) (by decide)))
theorem P_evened {m : Int} (h1 : 1 ≤ m) (h2 : m ≤ 100000000000000000000000000000) : g__law_evened [.int m] = .ok (.list (List.replicate 7 (.bool true))) := by
  have hm : m ≠ 0 := by omega
  have k1 : okBal (sc m [3, -3]) = true := by simp [okBal, sc, inR, GREAT]; omega
  have k2 : okBal (sc m [5, -5]) = true := by simp [okBal, sc, inR, GREAT]; omega
  have k3 : okBal (sc m [4, 2, -4, -2]) = true := by simp [okBal, sc, inR, GREAT]; omega
  have k4 : okBal (sc m [3, 3, -2, -2, -2]) = true := by simp [okBal, sc, inR, GREAT]; omega
  have k5 : okBal (sc m [5, -2, -3]) = true := by simp [okBal, sc, inR, GREAT]; omega
  have k6 : okBal [0, 0, 0] = true := by decide
  have n2 : (2 * m = 0) = False := eq_false (by omega)
  have p2 : (0 < 2 * m) = True := eq_true (by omega)
  have q2 : (2 * m < 0) = False := eq_false (by omega)
  have n3 : (3 * m = 0) = False := eq_false (by omega)
  have p3 : (0 < 3 * m) = True := eq_true (by omega)
  have q3 : (3 * m < 0) = False := eq_false (by omega)
  have n4 : (4 * m = 0) = False := eq_false (by omega)
  have p4 : (0 < 4 * m) = True := eq_true (by omega)
  have q4 : (4 * m < 0) = False := eq_false (by omega)
  have n5 : (5 * m = 0) = False := eq_false (by omega)
  have p5 : (0 < 5 * m) = True := eq_true (by omega)
  have q5 : (5 * m < 0) = False := eq_false (by omega)
  have r2 : (-2 * m < 0) = True := eq_true (by omega)
  have t2 : -(-2 * m) = 2 * m := by omega
  have r3 : (-3 * m < 0) = True := eq_true (by omega)
  have t3 : -(-3 * m) = 3 * m := by omega
  have r4 : (-4 * m < 0) = True := eq_true (by omega)
  have t4 : -(-4 * m) = 4 * m := by omega
  have r5 : (-5 * m < 0) = True := eq_true (by omega)
  have t5 : -(-5 * m) = 5 * m := by omega
  have v1 : movesOfF (valsF (sc m [3, -3])) [[0, 1]] = [(0, 1, 3 * m)] := by
    simp [movesOfF, partMoves, hubF, moveStep, atV, valsF, sc, isK, n2, n3, n4, n5, p2, p3, p4, p5, q2, q3, q4, q5, r2, r3, r4, r5, t2, t3, t4, t5, hm]
  have v2 : movesOfF (valsF (sc m [5, -5])) [[0, 1]] = [(0, 1, 5 * m)] := by
    simp [movesOfF, partMoves, hubF, moveStep, atV, valsF, sc, isK, n2, n3, n4, n5, p2, p3, p4, p5, q2, q3, q4, q5, r2, r3, r4, r5, t2, t3, t4, t5, hm]
  have v3 : movesOfF (valsF (sc m [4, 2, -4, -2])) [[0, 2], [1, 3]] = [(0, 2, 4 * m), (1, 3, 2 * m)] := by
    simp [movesOfF, partMoves, hubF, moveStep, atV, valsF, sc, isK, n2, n3, n4, n5, p2, p3, p4, p5, q2, q3, q4, q5, r2, r3, r4, r5, t2, t3, t4, t5, hm]
  have v4 : movesOfF (valsF (sc m [3, 3, -2, -2, -2])) [[0, 1, 2, 3, 4]] = [(1, 0, 3 * m), (0, 2, 2 * m), (0, 3, 2 * m), (0, 4, 2 * m)] := by
    simp [movesOfF, partMoves, hubF, moveStep, atV, valsF, sc, isK, n2, n3, n4, n5, p2, p3, p4, p5, q2, q3, q4, q5, r2, r3, r4, r5, t2, t3, t4, t5, hm]
  have f1 := few_sc (ps := [[0, 1]]) hm k1 (by decide) (by kernel_rfl) (by decide) (by decide) (by decide) v1 (by intro n hn; simp at hn; subst hn; simp; omega)
  have f2 := ways_sc (ps := [[0, 1]]) hm (by decide) (by kernel_rfl) (by decide) (by decide) (by decide) v2 (by intro n hn; simp at hn; subst hn; simp; omega)
  have f3 := few_sc (ps := [[0, 2], [1, 3]]) hm k3 (by decide) (by kernel_rfl) (by decide) (by decide) (by decide) v3 (by intro n hn; simp at hn; rcases hn with rfl | rfl <;> simp <;> omega)
  have f4 := few_sc (ps := [[0, 1, 2, 3, 4]]) hm k4 (by decide) (by kernel_rfl) (by decide) (by decide) (by decide) v4 (by intro n hn; simp at hn; rcases hn with rfl | rfl | rfl | rfl <;> simp <;> omega)
  have f5 := P_evens (ws := [(0, 1, 2 * m), (0, 2, 3 * m)]) k5 (Nat.le_of_ble_eq_true rfl)
  have f6 := P_evens (ws := [(0, 1, 5 * m), (1, 2, 3 * m)]) k5 (Nat.le_of_ble_eq_true rfl)
  have f7 := P_evens (ws := [(0, 1, 5 * m)]) k5 (Nat.le_of_ble_eq_true rfl)
  have f8 : g_ways [.tuple [.int 0, .int 0, .int 0]] = .ok (.tuple []) := by kernel_rfl
  have q5 : evensF (sc m [5, -2, -3]) [(0, 1, 2 * m), (0, 2, 3 * m)] = true := by
    simp [evensF, sc, okW, ltN, HT.lexLt, rowN, giveF, getI]; omega
  have q6 : evensF (sc m [5, -2, -3]) [(0, 1, 5 * m), (1, 2, 3 * m)] = true := by
    simp [evensF, sc, okW, ltN, HT.lexLt, rowN, giveF, getI]; omega
  have q7 : evensF (sc m [5, -2, -3]) [(0, 1, 5 * m)] = false := by
    simp [evensF, sc, okW, ltN, HT.lexLt, rowN, giveF, getI]; omega
  have cm : ∀ c : Int, c.natAbs < 2 ^ 100 → cMul c m = true := fun c hc => cMul_big hc (show m.natAbs < 2 ^ 100 by omega)
  have c2 := cm 2 (by decide)
  have c3 := cm 3 (by decide)
  have c4 := cm 4 (by decide)
  have c5 := cm 5 (by decide)
  have d2 := cm (-2) (by decide)
  have d3 := cm (-3) (by decide)
  have d4 := cm (-4) (by decide)
  have d5 := cm (-5) (by decide)
  have g1 : g_fewest_ways [.tuple [.int (3 * m), .int (-3 * m)]] = .ok (.int 1) := f1
  have g2 : g_ways [.tuple [.int (5 * m), .int (-5 * m)]] = .ok (.tuple [.tuple [.int 0, .int 1, .int (5 * m)]]) := P_ways (bs := sc m [5, -5]) k2 (d := .tuple [.tuple [.int 0, .int 1, .int (5 * m)]]) f2
  have g3 : g_fewest_ways [.tuple [.int (4 * m), .int (2 * m), .int (-4 * m), .int (-2 * m)]] = .ok (.int 2) := f3
  have g4 : g_fewest_ways [.tuple [.int (3 * m), .int (3 * m), .int (-2 * m), .int (-2 * m), .int (-2 * m)]] = .ok (.int 4) := f4
  rw [q5] at f5
  rw [q6] at f6
  rw [q7] at f7
  have g5 : g_evens [.tuple [.int (5 * m), .int (-2 * m), .int (-3 * m)], .tuple [.tuple [.int 0, .int 1, .int (2 * m)], .tuple [.int 0, .int 2, .int (3 * m)]]] = .ok (.bool true) := f5
  have g6 : g_evens [.tuple [.int (5 * m), .int (-2 * m), .int (-3 * m)], .tuple [.tuple [.int 0, .int 1, .int (5 * m)], .tuple [.int 1, .int 2, .int (3 * m)]]] = .ok (.bool true) := f6
  have g7 : g_evens [.tuple [.int (5 * m), .int (-2 * m), .int (-3 * m)], .tuple [.tuple [.int 0, .int 1, .int (5 * m)]]] = .ok (.bool false) := f7
  have e1 : gCmp .Eq (.tuple [.tuple [.int 0, .int 1, .int (5 * m)]]) (.tuple [.tuple [.int 0, .int 1, .int (5 * m)]]) = some (.bool true) := by
    show (if SeqAt.shaped (.tuple [.tuple [.int 0, .int 1, .int (5 * m)]]) && SeqAt.shaped (.tuple [.tuple [.int 0, .int 1, .int (5 * m)]]) then some (PyData.bool (PyData.eqv (.tuple [.tuple [.int 0, .int 1, .int (5 * m)]]) (.tuple [.tuple [.int 0, .int 1, .int (5 * m)]]))) else none) = _
    have h : SeqAt.shaped (.tuple [.tuple [.int 0, .int 1, .int (5 * m)]]) = true := by rfl
    rw [h]
    simp [PyData.eqv, PyData.eqvAll]
  have e2 : gCmp .Eq (.tuple []) (.tuple []) = some (.bool true) := rfl
  have sz := size_ge
  have y0 : 0 < sizeLine := by omega
  have y1 : 1 < sizeLine := by omega
  have y2 : 2 < sizeLine := by omega
  have y3 : 3 < sizeLine := by omega
  have y4 : 4 < sizeLine := by omega
  have y5 : 5 < sizeLine := by omega
  have y6 : 6 < sizeLine := by omega
  have y7 : 7 < sizeLine := by omega
  have y8 : 8 < sizeLine := by omega
  have y9 : 9 < sizeLine := by omega
  have y10 : 10 < sizeLine := by omega
  have y11 : 11 < sizeLine := by omega
  have y12 : 12 < sizeLine := by omega
  have z1 : 1 ≤ sizeLine := by omega
  have z2 : 2 ≤ sizeLine := by omega
  have z3 : 3 ≤ sizeLine := by omega
  have z4 : 4 ≤ sizeLine := by omega
  have z5 : 5 ≤ sizeLine := by omega
  have z6 : 6 ≤ sizeLine := by omega
  have z7 : 7 ≤ sizeLine := by omega
  have z8 : 8 ≤ sizeLine := by omega
  have z9 : 9 ≤ sizeLine := by omega
  have z10 : 10 ≤ sizeLine := by omega
  have z11 : 11 ≤ sizeLine := by omega
  have z12 : 12 ≤ sizeLine := by omega
  refine (fnP_run (f := x__law_evened) rfl).trans ?_
  show retOf (x__law_evened [.d (.int m), .un]) = _
  simp [x__law_evened, g1, g2, g3, g4, g5, g6, g7, f8, e1, e2, c2, c3, c4, c5, d2, d3, d4, d5, y0, y1, y2, y3, y4, y5, y6, y7, y8, y9, y10, y11, y12, z1, z2, z3, z4, z5, z6, z7, z8, z9, z10, z11, z12]
end Ev
set_option maxHeartbeats 200000
/-! L20: prices in plain words. Own work. -/
namespace Ev
open PySem PySem.Spec L2
def posOL (o : Option Int) : Bool := match o with | none => false | some c => decide (0 < c)
def negO (o : Option Int) : Bool := match o with | none => false | some c => decide (c < 0)
def b01 (b : Bool) : Int := if b then 1 else 0
def pricesF (ls : List (Option Int)) : Option (List Int) := match leastF ls with
  | none => none
  | some _ => if underF ls ≥ overF ls then some (ls.map fun o => b01 (posOL o)) else some (ls.map fun o => -b01 (negO o))
def encT : Option (List Int) → D
  | none => .none
  | some xs => .tuple (xs.map encI)
@[simp] theorem gInt_t : gInt [.bool true] = some (.int 1) := rfl
@[simp] theorem gInt_f : gInt [.bool false] = some (.int 0) := rfl
theorem P_prices {h : Int} {ns : List Note} {cs : List (Option Int)} (k : okB h ns cs = true) : g_prices [encB h ns cs] = .ok (encT (pricesF (lacksF h.toNat ns cs))) := by
  obtain ⟨⟨k1, k2⟩, k3, _⟩ := okB_iff.mp k
  obtain ⟨l1, l2⟩ := okB_len k
  have sz := size_ge
  have hb := P_need_book k
  have hL := P_lacks_of (ns := ns) (cs := cs) k1 k2 (by omega) (by omega)
  have ll : (lacksF h.toNat ns cs).length ≤ 1000 := by
    unfold lacksF
    rw [List.length_map, List.length_zip]
    omega
  generalize lacksF h.toNat ns cs = ls at *
  generalize encB h ns cs = B at *
  have hS := P_sums_of (X := .list (ls.map encO)) (ls := ls) rfl ll
  have hl := P_least_by ll
  have e1 : ∀ s2 s3, lcL [4] [4] selOne tTrue (vArg gInt (vCons (vAndV (vBin (gCmp .IsNot) (vVar 4) (vC .none)) (vBin (gCmp .Gt) (vVar 4) (vC (.int 0)))) vNil)) (ls.map encO) [.d B, .d (.list (ls.map encO)), s2, s3, .un] =
      .ok (ls.map fun o => encI (b01 (posOL o)), [.d B, .d (.list (ls.map encO)), s2, s3, .un]) := fun s2 s3 => by
    refine lcL_all encO (fun o => encI (b01 (posOL o))) fun o _ => ⟨_, rfl, _, rfl, [.d B, .d (.list (ls.map encO)), s2, s3, .d (encO o)], ?_, rfl⟩
    cases o with
    | none => rfl
    | some c => by_cases hc : 0 < c <;> simp [encO, posOL, b01, encI, hc]
  have e2 : ∀ s2 s3, lcL [4] [4] selOne tTrue (vUn (iU fun i => -i) (vArg gInt (vCons (vAndV (vBin (gCmp .IsNot) (vVar 4) (vC .none)) (vBin (gCmp .Lt) (vVar 4) (vC (.int 0)))) vNil))) (ls.map encO) [.d B, .d (.list (ls.map encO)), s2, s3, .un] =
      .ok (ls.map fun o => encI (-b01 (negO o)), [.d B, .d (.list (ls.map encO)), s2, s3, .un]) := fun s2 s3 => by
    refine lcL_all encO (fun o => encI (-b01 (negO o))) fun o _ => ⟨_, rfl, _, rfl, [.d B, .d (.list (ls.map encO)), s2, s3, .d (encO o)], ?_, rfl⟩
    cases o with
    | none => rfl
    | some c => by_cases hc : c < 0 <;> simp [encO, negO, b01, encI, hc]
  have w : ls.length ≤ sizeLine := by omega
  refine (fnP_run (f := x_prices) rfl).trans ?_
  show retOf (x_prices [.d B, .un, .un, .un, .un]) = _
  unfold pricesF
  cases hh : leastF ls with
  | none => simp [x_prices, hb, hL, hl, hh, encT]
  | some l =>
    dsimp only
    by_cases hc : underF ls ≥ overF ls
    · rw [if_pos hc]
      have hc : overF ls ≤ underF ls := hc
      simp [x_prices, hb, hL, hl, hh, hS, e1, w, hc, encT]
    · rw [if_neg hc]
      have hc : ¬ overF ls ≤ underF ls := hc
      simp [x_prices, hb, hL, hl, hh, hS, e2, w, hc, encT]
end Ev
set_option maxHeartbeats 200000
set_option maxHeartbeats 1000000
/-! L21: the doubled, in parts. Own work. -/
namespace Ev
open PySem PySem.Spec L2
def nsD (m : Int) : List Note := [(0, 1, m), (0, 1, m)]
theorem kD2 {m : Int} {cs : List (Option Int)} (h1 : 1 ≤ m) (h2 : m ≤ 100000000000000000000000000000) (hl : cs.length = 2) (hc : cs.all okC = true) : okB 2 (nsD m) cs = true := by
  unfold okB
  rw [hc]
  simp [nsD, inR, okN, GREAT, hl]; omega
theorem kD3 {m : Int} {cs : List (Option Int)} (h1 : 1 ≤ m) (h2 : m ≤ 100000000000000000000000000000) (hl : cs.length = 3) (hc : cs.all okC = true) : okB 3 (nsD m) cs = true := by
  unfold okB
  rw [hc]
  simp [nsD, inR, okN, GREAT, hl]; omega
theorem netD2 (m : Int) : netsF (2 : Int).toNat (nsD m) = [2 * m] := by
  have : pairsF (2 : Int).toNat = [(0, 1)] := rfl
  unfold netsF
  rw [this]
  simp [goneF, isFor, nsD, List.filter_cons]; omega
theorem netD3 (m : Int) : netsF (3 : Int).toNat (nsD m) = [2 * m, 0, 0] := by
  have : pairsF (3 : Int).toNat = [(0, 1), (0, 2), (1, 2)] := rfl
  unfold netsF
  rw [this]
  simp [goneF, isFor, nsD, List.filter_cons]; omega
theorem gainD2 (x : Int) : gainsF (2 : Int).toNat [x] = [-x, x] := by
  have : pairsF (2 : Int).toNat = [(0, 1)] := rfl
  have r : List.range (2 : Int).toNat = [0, 1] := rfl
  unfold gainsF
  rw [r]
  unfold gainF
  rw [this]
  simp [inTo, outOf, List.filter_cons]
theorem gainD3 (x : Int) : gainsF (3 : Int).toNat [x, 0, 0] = [-x, x, 0] := by
  have : pairsF (3 : Int).toNat = [(0, 1), (0, 2), (1, 2)] := rfl
  have r : List.range (3 : Int).toNat = [0, 1, 2] := rfl
  unfold gainsF
  rw [r]
  unfold gainF
  rw [this]
  simp [inTo, outOf, List.filter_cons]
theorem lackD1 (m : Int) : lacksF (2 : Int).toNat (nsD m) [none, some m] = [none, some (-m)] := by
  unfold lacksF
  rw [netD2, gainD2]
  simp; omega
theorem lackD2 (m : Int) : lacksF (2 : Int).toNat (nsD m) [some (-m), some m] = [some m, some (-m)] := by
  unfold lacksF
  rw [netD2, gainD2]
  simp; omega
theorem lackD3 (m : Int) : lacksF (2 : Int).toNat (nsD m) [some (-m), some (2 * m)] = [some m, some 0] := by
  unfold lacksF
  rw [netD2, gainD2]
  simp; omega
theorem lackD4 (m : Int) : lacksF (3 : Int).toNat (nsD m) [none, some m, none] = [none, some (-m), none] := by
  unfold lacksF
  rw [netD3, gainD3]
  simp; omega
theorem lackD5 (m : Int) : lacksF (3 : Int).toNat (nsD m) [none, some m, some 0] = [none, some (-m), some 0] := by
  unfold lacksF
  rw [netD3, gainD3]
  simp; omega
theorem ov1 (c : Int) : overF [none, some c] = (if c < 0 then -c else 0) := by
  by_cases h : c < 0 <;> simp [overF, known, neg, h, List.filter_cons]
theorem un1 (c : Int) : underF [none, some c] = (if 0 < c then c else 0) := by
  by_cases h : 0 < c <;> simp [underF, known, pos, h, List.filter_cons]
theorem ov4 (c : Int) : overF [none, some c, none] = (if c < 0 then -c else 0) := by
  by_cases h : c < 0 <;> simp [overF, known, neg, h, List.filter_cons]
theorem un4 (c : Int) : underF [none, some c, none] = (if 0 < c then c else 0) := by
  by_cases h : 0 < c <;> simp [underF, known, pos, h, List.filter_cons]
theorem ov5 (c : Int) : overF [none, some c, some 0] = (if c < 0 then -c else 0) := by
  by_cases h : c < 0 <;> simp [overF, known, neg, h, List.filter_cons]
theorem un5 (c : Int) : underF [none, some c, some 0] = (if 0 < c then c else 0) := by
  by_cases h : 0 < c <;> simp [underF, known, pos, h, List.filter_cons]
theorem least1 (c : Int) : leastF [none, some c] = some (absI c) := by
  unfold leastF
  rw [if_neg (by simp [isK]), ov1, un1]
  unfold absI
  congr 1
  split <;> split <;> omega
theorem least4 (c : Int) : leastF [none, some c, none] = some (absI c) := by
  unfold leastF
  rw [if_neg (by simp [isK]), ov4, un4]
  unfold absI
  congr 1
  split <;> split <;> omega
theorem least5 (c : Int) : leastF [none, some c, some 0] = some (absI c) := by
  unfold leastF
  rw [if_neg (by simp [isK]), ov5, un5]
  unfold absI
  congr 1
  split <;> split <;> omega
theorem absI_cases (c : Int) : (c < 0 ∧ absI c = -c) ∨ (0 ≤ c ∧ absI c = c) := by
  unfold absI
  by_cases h : c < 0
  · exact .inl ⟨h, if_pos h⟩
  · exact .inr ⟨by omega, if_neg h⟩
theorem loop_one {g t m : Int} (hm : 1 ≤ m) : loopN 300 [(g, m)] [(t, m)] [] = some [(g, t, m)] := by
  have e : (if m < m then m else m) = m := by rw [if_neg (by omega)]
  have p : ∀ x : Int, posM [(x, m - m)] = [] := fun x => by simp [posM]
  show loopN 299 (posM [(g, m - (if m < m then m else m))]) (posM [(t, m - (if m < m then m else m))]) ([] ++ [(g, t, if m < m then m else m)]) = _
  rw [e, p]
  rfl
theorem rows1 {m : Int} (hm : 1 ≤ m) : rowsM (-1) 0 [none, some (-m)] = [(1, m)] ∧ rowsM 1 0 [none, some (-m)] = [] := by
  constructor
  · simp [rowsM]; omega
  · simp [rowsM]; omega
theorem rows4 {m : Int} (hm : 1 ≤ m) : rowsM (-1) 0 [none, some (-m), none] = [(1, m)] ∧ rowsM 1 0 [none, some (-m), none] = [] := by
  constructor
  · simp [rowsM]; omega
  · simp [rowsM]; omega
theorem rows5 {m : Int} (hm : 1 ≤ m) : rowsM (-1) 0 [none, some (-m), some 0] = [(1, m)] ∧ rowsM 1 0 [none, some (-m), some 0] = [] := by
  constructor
  · simp [rowsM]; omega
  · simp [rowsM]; omega
theorem rows2 {m : Int} (hm : 1 ≤ m) : rowsM (-1) 0 [some m, some (-m)] = [(1, m)] ∧ rowsM 1 0 [some m, some (-m)] = [(0, m)] := by
  have a : ¬ m < 0 := by omega
  have b : 0 < m := by omega
  constructor
  · simp [rowsM, a, b]
  · simp [rowsM, a, b]
theorem moves1 {m : Int} (hm : 1 ≤ m) : movesF [none, some (-m)] = some [(1, 0, m)] := by
  unfold movesF
  rw [(rows1 hm).1, (rows1 hm).2, ov1, un1, if_pos (show -m < 0 by omega), if_neg (show ¬ 0 < -m by omega), if_neg (show ¬ - -m < 0 by omega), if_pos (show 0 < - -m by omega)]
  have : - -m - 0 = m := by omega
  rw [this]
  exact loop_one hm
theorem moves4 {m : Int} (hm : 1 ≤ m) : movesF [none, some (-m), none] = some [(1, 0, m)] := by
  unfold movesF
  rw [(rows4 hm).1, (rows4 hm).2, ov4, un4, if_pos (show -m < 0 by omega), if_neg (show ¬ 0 < -m by omega), if_neg (show ¬ - -m < 0 by omega), if_pos (show 0 < - -m by omega)]
  have : - -m - 0 = m := by omega
  rw [this]
  exact loop_one hm
theorem moves5 {m : Int} (hm : 1 ≤ m) : movesF [none, some (-m), some 0] = some [(1, 0, m)] := by
  unfold movesF
  rw [(rows5 hm).1, (rows5 hm).2, ov5, un5, if_pos (show -m < 0 by omega), if_neg (show ¬ 0 < -m by omega), if_neg (show ¬ - -m < 0 by omega), if_pos (show 0 < - -m by omega)]
  have : - -m - 0 = m := by omega
  rw [this]
  exact loop_one hm
theorem moves2 {m : Int} (hm : 1 ≤ m) : movesF [some m, some (-m)] = some [(1, 0, m)] := by
  have o : overF [some m, some (-m)] = m := by
    have a : ¬ m < 0 := by omega
    have b : 0 < m := by omega
    simp [overF, known, neg, a, b, List.filter_cons]
  have u : underF [some m, some (-m)] = m := by
    have a : ¬ m < 0 := by omega
    have b : 0 < m := by omega
    simp [underF, known, pos, a, b, List.filter_cons]
  unfold movesF
  rw [(rows2 hm).1, (rows2 hm).2, o, u, if_neg (by omega), if_neg (by omega)]
  exact loop_one hm
theorem mnet2 (m : Int) : netsF (2 : Int).toNat [(1, 0, m)] = [-m] := by
  have : pairsF (2 : Int).toNat = [(0, 1)] := rfl
  unfold netsF
  rw [this]
  simp [goneF, isFor, List.filter_cons]
theorem mnet3 (m : Int) : netsF (3 : Int).toNat [(1, 0, m)] = [-m, 0, 0] := by
  have : pairsF (3 : Int).toNat = [(0, 1), (0, 2), (1, 2)] := rfl
  unfold netsF
  rw [this]
  simp [goneF, isFor, List.filter_cons]
end Ev
set_option maxHeartbeats 200000
set_option maxHeartbeats 1000000
/-! L22: the doubled hold. Own work. -/
namespace Ev
open PySem PySem.Spec L2
theorem letF1 {m s x : Int} (hx : -m < x) : letF [none, some (-m)] 0 1 none (some (-m)) s x = false := by
  have e : shiftF [none, some (-m)] 0 1 none (some (-m)) x = [none, some (-m - x)] := rfl
  have d : 0 < detourF [none, some (-m - x)] 0 1 none (some (-m - x)) := by
    show 0 < (if (freeF [none, some (-m - x)] ((0 : Nat) : Int) ((1 : Nat) : Int)).isEmpty then max 0 (absI (-m - x) - (if -m - x < 0 then underF [none, some (-m - x)] else overF [none, some (-m - x)])) else 0)
    have f : freeF [none, some (-m - x)] ((0 : Nat) : Int) ((1 : Nat) : Int) = [] := rfl
    rw [f, ov1, un1]
    show 0 < max 0 _
    rw [if_pos (show -m - x < 0 by omega), if_neg (show ¬ 0 < -m - x by omega)]
    unfold absI
    rw [if_pos (show -m - x < 0 by omega)]
    omega
  unfold letF errorF shutF
  rw [e]
  have p1 : plusO none x = none := rfl
  have p2 : minusO (some (-m)) x = some (-m - x) := rfl
  rw [p1, p2, least1]
  dsimp only
  rw [if_pos ⟨d, rfl⟩]
  rfl
theorem letF4 {m s x : Int} : letF [none, some (-m), none] 0 1 none (some (-m)) s x = decide (absI (-m - x) + absI x ≤ s) := by
  have e : shiftF [none, some (-m), none] 0 1 none (some (-m)) x = [none, some (-m - x), none] := rfl
  have d : detourF [none, some (-m - x), none] 0 1 none (some (-m - x)) = 0 := by
    show (if (freeF [none, some (-m - x), none] ((0 : Nat) : Int) ((1 : Nat) : Int)).isEmpty then max 0 (absI (-m - x) - (if -m - x < 0 then underF [none, some (-m - x), none] else overF [none, some (-m - x), none])) else (0 : Int)) = _
    have f : freeF [none, some (-m - x), none] ((0 : Nat) : Int) ((1 : Nat) : Int) = [2] := rfl
    rw [f]
    rfl
  unfold letF errorF shutF
  rw [e]
  have p1 : plusO none x = none := rfl
  have p2 : minusO (some (-m)) x = some (-m - x) := rfl
  rw [p1, p2, least4, d]
  simp
theorem letF5 {m s x : Int} : letF [none, some (-m), some 0] 0 1 none (some (-m)) s x = decide (absI (-m - x) + absI (-m - x) + absI x ≤ s) := by
  have e : shiftF [none, some (-m), some 0] 0 1 none (some (-m)) x = [none, some (-m - x), some 0] := rfl
  have d : detourF [none, some (-m - x), some 0] 0 1 none (some (-m - x)) = absI (-m - x) := by
    show (if (freeF [none, some (-m - x), some 0] ((0 : Nat) : Int) ((1 : Nat) : Int)).isEmpty then max 0 (absI (-m - x) - (if -m - x < 0 then underF [none, some (-m - x), some 0] else overF [none, some (-m - x), some 0])) else (0 : Int)) = _
    have f : freeF [none, some (-m - x), some 0] ((0 : Nat) : Int) ((1 : Nat) : Int) = [] := rfl
    rw [f, ov5, un5]
    show max 0 _ = _
    have := absI_cases (-m - x)
    split
    · split <;> omega
    · omega
  unfold letF errorF shutF
  rw [e]
  have p1 : plusO none x = none := rfl
  have p2 : minusO (some (-m)) x = some (-m - x) := rfl
  rw [p1, p2, least5, d]
  simp
theorem letF5b {m s x : Int} : letF [none, some (-m), some 0] 1 0 (some (-m)) none s x = decide (absI (-m + x) + absI (-m + x) + absI x ≤ s) := by
  have e : shiftF [none, some (-m), some 0] 1 0 (some (-m)) none x = [none, some (-m + x), some 0] := rfl
  have d : detourF [none, some (-m + x), some 0] 1 0 (some (-m + x)) none = absI (-m + x) := by
    show (if (freeF [none, some (-m + x), some 0] ((1 : Nat) : Int) ((0 : Nat) : Int)).isEmpty then max 0 (absI (-m + x) - (if -m + x < 0 then underF [none, some (-m + x), some 0] else overF [none, some (-m + x), some 0])) else (0 : Int)) = _
    have f : freeF [none, some (-m + x), some 0] ((1 : Nat) : Int) ((0 : Nat) : Int) = [] := rfl
    rw [f, ov5, un5]
    show max 0 _ = _
    have := absI_cases (-m + x)
    split
    · split <;> omega
    · omega
  unfold letF errorF shutF
  rw [e]
  have p1 : plusO (some (-m)) x = some (-m + x) := rfl
  have p2 : minusO none x = none := rfl
  rw [p1, p2, least5, d]
  simp
theorem most_gen {ls : List (Option Int)} {a b : Nat} {ma mb : Option Int} {bg s t : Int} (hl : ls.length ≤ 1000) (hab : a ≠ b) (ha : ls[a]? = some ma) (hb : ls[b]? = some mb) (hm : ma = none ∨ mb = none)
    (h1 : bg ≤ t) (h2 : t ≤ s) (h3 : s + 1 - bg ≤ 2 ^ 199) (hP : ∀ x, bg < x → x < s + 1 → (letF ls a b ma mb s x = true ↔ x ≤ t)) :
    g_most_more [.list (ls.map encO), .int (a : Nat), .int (b : Nat), .int bg, .int s] = .ok (.int t) := by
  refine P_most_more (P := fun x => letF ls a b ma mb s x) (fun x _ _ => P_is_let hl hab ha hb fun y z hy hz => ?_) (bs_spec 199 bg (s + 1) h1 (by omega) hP h3)
  rcases hm with hm | hm
  · rw [hm] at hy; cases hy
  · rw [hm] at hz; cases hz
/-! the debts -/
theorem mm_vac {ls : List (Option Int)} {ma mb : Option Int} {a b : Nat} {m : Int} (h1 : 1 ≤ m) (hl : ls.length ≤ 1000) (hab : a ≠ b) (ha : ls[a]? = some ma) (hb : ls[b]? = some mb) (hm : ma = none ∨ mb = none) :
    g_most_more [.list (ls.map encO), .int (a : Nat), .int (b : Nat), .int (- -m), .int m] = .ok (.int m) :=
  most_gen hl hab ha hb hm (by omega) (by omega) (by omega) fun x x1 x2 => by omega
theorem owesD1 {m : Int} (h1 : 1 ≤ m) (h2 : m ≤ 100000000000000000000000000000) : g_owes [encB 2 (nsD m) [none, some m], .int m, .int 1, .int 0] = .ok (.tuple [.int m, .int m]) := by
  have k : okB 2 (nsD m) [none, some m] = true := kD2 h1 h2 rfl (by simp [okC, inR, GREAT]; omega)
  have q1 : g_most_more [.list (([none, some (-m)] : List (Option Int)).map encO), .int (0 : Nat), .int (1 : Nat), .int (-m), .int m] = .ok (.int (-m)) :=
    most_gen (show 2 ≤ 1000 by decide) (by decide) rfl rfl (.inl rfl) (by omega) (by omega) (by omega) fun x x1 x2 => by
      rw [letF1 x1]
      constructor
      · intro z; cases z
      · omega
  have q2 := mm_vac (ls := [none, some (-m)]) (a := 1) (b := 0) h1 (show 2 ≤ 1000 by decide) (by decide) rfl rfl (.inr rfl)
  have n := P_nets_by (l := m) (ms := [(1, 0, m)]) (a := 0) (b := 1) (i := 0) (w := 2 * m) (bg := -m) k (lackD1 m) (by rw [least1]; have := absI_cases (-m); congr 1; omega) (Int.le_refl m) (moves1 h1) (show 1 ≤ 1000 by decide) rfl (by rw [netD2]; rfl) (by rw [mnet2]; rfl) q1 q2
  have o := P_owes k (by omega) (by omega) (by decide) (by decide) (by decide) (by decide) (by decide) (P_owes_by n)
  exact o.trans (okT2 (by omega) (by omega))
theorem owesD4 {m : Int} (h1 : 1 ≤ m) (h2 : m ≤ 100000000000000000000000000000) : g_owes [encB 3 (nsD m) [none, some m, none], .int m, .int 1, .int 0] = .ok (.tuple [.int m, .int (2 * m)]) := by
  have k : okB 3 (nsD m) [none, some m, none] = true := kD3 h1 h2 rfl (by simp [okC, inR, GREAT]; omega)
  have q1 : g_most_more [.list (([none, some (-m), none] : List (Option Int)).map encO), .int (0 : Nat), .int (1 : Nat), .int (-m), .int m] = .ok (.int 0) :=
    most_gen (show 3 ≤ 1000 by decide) (by decide) rfl rfl (.inl rfl) (by omega) (by omega) (by omega) fun x x1 x2 => by
      rw [letF4, decide_eq_true_iff]
      have a1 := absI_cases (-m - x)
      have a2 := absI_cases x
      omega
  have q2 := mm_vac (ls := [none, some (-m), none]) (a := 1) (b := 0) h1 (show 3 ≤ 1000 by decide) (by decide) rfl rfl (.inr rfl)
  have n := P_nets_by (l := m) (ms := [(1, 0, m)]) (a := 0) (b := 1) (i := 0) (w := 2 * m) (bg := -m) k (lackD4 m) (by rw [least4]; have := absI_cases (-m); congr 1; omega) (Int.le_refl m) (moves4 h1) (show 1 ≤ 1000 by decide) rfl (by rw [netD3]; rfl) (by rw [mnet3]; rfl) q1 q2
  have o := P_owes k (by omega) (by omega) (by decide) (by decide) (by decide) (by decide) (by decide) (P_owes_by n)
  exact o.trans (okT2 (by omega) (by omega))
theorem owesD5 {m : Int} (h1 : 1 ≤ m) (h2 : m ≤ 100000000000000000000000000000) : g_owes [encB 3 (nsD m) [none, some m, some 0], .int m, .int 1, .int 0] = .ok (.tuple [.int m, .int m]) := by
  have k : okB 3 (nsD m) [none, some m, some 0] = true := kD3 h1 h2 rfl (by simp [okC, inR, GREAT]; omega)
  have q1 : g_most_more [.list (([none, some (-m), some 0] : List (Option Int)).map encO), .int (0 : Nat), .int (1 : Nat), .int (-m), .int m] = .ok (.int (-m)) :=
    most_gen (show 3 ≤ 1000 by decide) (by decide) rfl rfl (.inl rfl) (by omega) (by omega) (by omega) fun x x1 x2 => by
      rw [letF5, decide_eq_true_iff]
      have a1 := absI_cases (-m - x)
      have a2 := absI_cases x
      omega
  have q2 := mm_vac (ls := [none, some (-m), some 0]) (a := 1) (b := 0) h1 (show 3 ≤ 1000 by decide) (by decide) rfl rfl (.inr rfl)
  have n := P_nets_by (l := m) (ms := [(1, 0, m)]) (a := 0) (b := 1) (i := 0) (w := 2 * m) (bg := -m) k (lackD5 m) (by rw [least5]; have := absI_cases (-m); congr 1; omega) (Int.le_refl m) (moves5 h1) (show 1 ≤ 1000 by decide) rfl (by rw [netD3]; rfl) (by rw [mnet3]; rfl) q1 q2
  have o := P_owes k (by omega) (by omega) (by decide) (by decide) (by decide) (by decide) (by decide) (P_owes_by n)
  exact o.trans (okT2 (by omega) (by omega))
theorem owesD6 {m : Int} (h1 : 1 ≤ m) (h2 : m ≤ 100000000000000000000000000000) : g_owes [encB 3 (nsD m) [none, some m, some 0], .int (3 * m), .int 1, .int 0] = .ok (.tuple [.int (2 * m - 5 * m / 3), .int (2 * m + m / 3)]) := by
  have k : okB 3 (nsD m) [none, some m, some 0] = true := kD3 h1 h2 rfl (by simp [okC, inR, GREAT]; omega)
  have q1 : g_most_more [.list (([none, some (-m), some 0] : List (Option Int)).map encO), .int (0 : Nat), .int (1 : Nat), .int (-m), .int (3 * m)] = .ok (.int (m / 3)) :=
    most_gen (show 3 ≤ 1000 by decide) (by decide) rfl rfl (.inl rfl) (by omega) (by omega) (by omega) fun x x1 x2 => by
      rw [letF5, decide_eq_true_iff]
      have a1 := absI_cases (-m - x)
      have a2 := absI_cases x
      omega
  have q2 : g_most_more [.list (([none, some (-m), some 0] : List (Option Int)).map encO), .int (1 : Nat), .int (0 : Nat), .int (- -m), .int (3 * m)] = .ok (.int (5 * m / 3)) :=
    most_gen (show 3 ≤ 1000 by decide) (by decide) rfl rfl (.inr rfl) (by omega) (by omega) (by omega) fun x x1 x2 => by
      rw [letF5b, decide_eq_true_iff]
      have a1 := absI_cases (-m + x)
      have a2 := absI_cases x
      omega
  have n := P_nets_by (l := m) (ms := [(1, 0, m)]) (a := 0) (b := 1) (i := 0) (w := 2 * m) (bg := -m) k (lackD5 m) (by rw [least5]; have := absI_cases (-m); congr 1; omega) (by omega) (moves5 h1) (show 1 ≤ 1000 by decide) rfl (by rw [netD3]; rfl) (by rw [mnet3]; rfl) q1 q2
  exact P_owes k (by omega) (by omega) (by decide) (by decide) (by decide) (by decide) (by decide) (P_owes_by n)
end Ev
set_option maxHeartbeats 200000
set_option maxHeartbeats 1000000
/-! L23: the doubled hold, whole. Own work. -/
namespace Ev
open PySem PySem.Spec L2
theorem evenF_scO {m : Int} (hm : m ≠ 0) (ls : List (Option Int)) : evenF (ls.map (Option.map (· * m))) = evenF ls := by
  funext s
  have e : ownF (ls.map (Option.map (· * m))) s = (ownF ls s).map (Option.map (· * m)) := by
    unfold ownF
    rw [List.map_map]
    refine List.map_congr_left fun i _ => ?_
    show (ls.map (Option.map (· * m))).getD i none = (ls.getD i none).map (· * m)
    rw [List.getD_eq_getElem?_getD, List.getD_eq_getElem?_getD, List.getElem?_map]
    cases ls[i]? <;> rfl
  unfold evenF
  rw [e, known_sc, sum_sc]
  have h1 : ((ownF ls s).map (Option.map (· * m))).all isK = (ownF ls s).all isK := by
    have : (isK ∘ Option.map (· * m)) = isK := funext fun o => by cases o <;> rfl
    rw [List.all_map, this]
  have h2 : decide ((known (ownF ls s)).sum * m = 0) = decide ((known (ownF ls s)).sum = 0) := decide_eq_decide.mpr ⟨fun h => by rcases Int.mul_eq_zero.mp h with h | h; exact h; exact absurd h hm, fun h => by rw [h, Int.zero_mul]⟩
  rw [h1, h2]
theorem P_doubled {m : Int} (h1 : 1 ≤ m) (h2 : m ≤ 100000000000000000000000000000) : g__law_doubled [.int m] = .ok (.list (List.replicate 8 (.bool true))) := by
  have hm : m ≠ 0 := by omega
  have k1 : okB 2 (nsD m) [none, some m] = true := kD2 h1 h2 rfl (by simp [okC, inR, GREAT]; omega)
  have k2 : okB 2 (nsD m) [some (-m), some m] = true := kD2 h1 h2 rfl (by simp [okC, inR, GREAT]; omega)
  have k3 : okB 2 (nsD m) [some (-m), some (2 * m)] = true := kD2 h1 h2 rfl (by simp [okC, inR, GREAT]; omega)
  have k5 : okB 3 (nsD m) [none, some m, some 0] = true := kD3 h1 h2 rfl (by simp [okC, inR, GREAT]; omega)
  have f1 : g_least_error [encB 2 (nsD m) [none, some m]] = .ok (.int m) := by
    rw [P_least_error k1, lackD1, least1]
    have := absI_cases (-m)
    have : absI (-m) = m := by omega
    rw [this]; rfl
  have lb : leastF [some m, some (-m)] = some m := by
    have a : ¬ m < 0 := by omega
    have b : 0 < m := by omega
    simp [leastF, isK, overF, underF, known, neg, pos, a, b, List.filter_cons]
  have f2 : g_truth [encB 2 (nsD m) [some (-m), some m]] = .ok (.tuple [.int m]) := by
    rw [P_truth (ms := [(1, 0, m)]) (l := m) k2 (lackD2 m) lb (moves2 h1) (show 1 ≤ 1000 by decide)]
    unfold truthF
    rw [netD2, mnet2]
    have : 2 * m + -m = m := by omega
    show Rs.ok (PyData.tuple [.int (2 * m + -m)]) = _
    rw [this]
  have f3 : g_least_error [encB 2 (nsD m) [some (-m), some (2 * m)]] = .ok .none := by
    rw [P_least_error k3, lackD3]
    have : leastF [some m, some 0] = none := by
      have a : ¬ m < 0 := by omega
      have b : 0 < m := by omega
      simp [leastF, isK, overF, underF, known, neg, pos, a, b, List.filter_cons]; omega
    rw [this]; rfl
  have f4 := owesD1 h1 h2
  have f5 := owesD4 h1 h2
  have f6 := owesD5 h1 h2
  have f7 := owesD6 h1 h2
  have ep : partsF (evenF [none, some (-m), some 0]) 8 (List.range 3) = some (some [[0, 1], [2]]) := by
    have : ([none, some (-m), some 0] : List (Option Int)) = [none, some (-1), some 0].map (Option.map (· * m)) := by simp
    rw [this, evenF_scO hm]
    kernel_rfl
  have f8 : g_fewest_wrong [encB 3 (nsD m) [none, some m, some 0]] = .ok (.int 1) := P_fewest_wrong k5 (lackD5 m) ep
  have f9 : g_prices [encB 2 (nsD m) [none, some m]] = .ok (.tuple [.int 0, .int (-1)]) := by
    rw [P_prices k1, lackD1]
    have : pricesF [none, some (-m)] = some [0, -1] := by
      unfold pricesF
      rw [least1, ov1, un1, if_pos (show -m < 0 by omega), if_neg (show ¬ 0 < -m by omega)]
      dsimp only
      rw [if_neg (show ¬ (0 ≥ - -m) by omega)]
      have p : 0 < m := by omega
      simp [negO, b01, p]
    rw [this]; rfl
  have h2' : encB 2 (nsD m) [none, some m] = .tuple [.int 2, .tuple [.tuple [.int 0, .int 1, .int m], .tuple [.int 0, .int 1, .int m]], .tuple [.none, .int m]] := rfl
  have h3' : encB 2 (nsD m) [some (-m), some m] = .tuple [.int 2, .tuple [.tuple [.int 0, .int 1, .int m], .tuple [.int 0, .int 1, .int m]], .tuple [.int (-m), .int m]] := rfl
  have h4' : encB 2 (nsD m) [some (-m), some (2 * m)] = .tuple [.int 2, .tuple [.tuple [.int 0, .int 1, .int m], .tuple [.int 0, .int 1, .int m]], .tuple [.int (-m), .int (2 * m)]] := rfl
  have h5' : encB 3 (nsD m) [none, some m, none] = .tuple [.int 3, .tuple [.tuple [.int 0, .int 1, .int m], .tuple [.int 0, .int 1, .int m]], .tuple [.none, .int m, .none]] := rfl
  have h6' : encB 3 (nsD m) [none, some m, some 0] = .tuple [.int 3, .tuple [.tuple [.int 0, .int 1, .int m], .tuple [.int 0, .int 1, .int m]], .tuple [.none, .int m, .int 0]] := rfl
  rw [h2'] at f1 f4 f9
  rw [h3'] at f2
  rw [h4'] at f3
  rw [h5'] at f5
  rw [h6'] at f6 f7 f8
  have sm : m.natAbs < 2 ^ 100 := by omega
  have c2 : cMul 2 m = true := cMul_big (by decide) sm
  have c3 : cMul 3 m = true := cMul_big (by decide) sm
  have c5 : cMul 5 m = true := cMul_big (by decide) sm
  have dv5 : gDiv (.int (5 * m)) (.int 3) = some (.int (5 * m / 3)) := rfl
  have dv1 : gDiv (.int m) (.int 3) = some (.int (m / 3)) := rfl
  have sz := size_ge
  have y0 : 0 < sizeLine := by omega
  have y1 : 1 < sizeLine := by omega
  have y2 : 2 < sizeLine := by omega
  have y3 : 3 < sizeLine := by omega
  have y4 : 4 < sizeLine := by omega
  have y5 : 5 < sizeLine := by omega
  have y6 : 6 < sizeLine := by omega
  have y7 : 7 < sizeLine := by omega
  have y8 : 8 < sizeLine := by omega
  have y9 : 9 < sizeLine := by omega
  have y10 : 10 < sizeLine := by omega
  have y11 : 11 < sizeLine := by omega
  have y12 : 12 < sizeLine := by omega
  have z1 : 1 ≤ sizeLine := by omega
  have z2 : 2 ≤ sizeLine := by omega
  have z3 : 3 ≤ sizeLine := by omega
  have z4 : 4 ≤ sizeLine := by omega
  have z5 : 5 ≤ sizeLine := by omega
  have z6 : 6 ≤ sizeLine := by omega
  have z7 : 7 ≤ sizeLine := by omega
  have z8 : 8 ≤ sizeLine := by omega
  have z9 : 9 ≤ sizeLine := by omega
  have z10 : 10 ≤ sizeLine := by omega
  have z11 : 11 ≤ sizeLine := by omega
  have z12 : 12 ≤ sizeLine := by omega
  refine (fnP_run (f := x__law_doubled) rfl).trans ?_
  show retOf (x__law_doubled [.d (.int m), .un, .un, .un]) = _
  simp [x__law_doubled, f1, f2, f3, f4, f5, f6, f7, f8, f9, c2, c3, c5, dv5, dv1, eqT1, eqT2, eqT3, y0, y1, y2, y3, y4, y5, y6, y7, y8, y9, y10, y11, y12, z1, z2, z3, z4, z5, z6, z7, z8, z9, z10, z11, z12]
end Ev
set_option maxHeartbeats 200000
set_option maxHeartbeats 1000000
/-! L24: the bin, the grab and what is written. Own work. -/
namespace Ev
open PySem PySem.Spec L2
theorem P_written : g__law_written [] = .ok (.list (List.replicate 9 (.bool true))) := by kernel_rfl
theorem cMul_r {i j : Int} (h1 : -18446744073709551616 < j) (h2 : j < 18446744073709551616) : cMul i j = true := by
  unfold cMul
  have h1 : -(2 ^ 64) < j := h1
  have h2 : j < 2 ^ 64 := h2
  rw [decide_eq_true (p := -(2 ^ 64) < j ∧ j < 2 ^ 64) ⟨h1, h2⟩, Bool.or_true, Bool.or_true]
def urnOk (a b : Int) : Prop := 0 ≤ a ∧ 0 ≤ b ∧ b ≤ 2147483171
theorem gInt_i (z : Int) : gInt [.int z] = some (.int z) := rfl
theorem sRetLst_eq' (fe : XT (List D)) (δ : List Sl) : sRetLst fe δ = bd (fe δ) fun p => if p.1.length ≤ sizeLine then .ok (.ro p.1, p.2) else .no := rfl
theorem bin_end {ns : List Int} {k : Nat} (hk : k ≤ 7) {c : Int} (hc : 0 ≤ c) : ∃ a b, urnOk a b ∧ ∃ δ, (sRetLst (vCons (vIf (vTest (vBin (gCmp .GtE) (vVar 2) (vBin gPow (vC (.int 10)) (vC (.int 18))))) (vVar 2) (vC (.int 0))) (vCons (vBin gAdd (vBin gMod (vArg gInt (vCons (vBin gAdd (vBin gAdd (vBin (iI cMul fun i j => i * j) (vVar 2) (vC (.int 103))) (vBin (iI cMul fun i j => i * j) (vC (.int 1609)) (vVar 1))) (vC (.int 101))) vNil)) (vC (.int 2147483171))) (vC (.int 1))) vNil))) [.d (.list (ns.map PyData.int)), .d (.int (k : Nat)), .d (.int c)] =
      .ok (.ro [.int a, .int b], δ) := by
  have sz := size_ge
  have z2 : 2 ≤ sizeLine := by omega
  have c1 : cMul c 103 = true := cMul_r (by decide) (by decide)
  have c2 : cMul 1609 (k : Int) = true := cMul_r (by omega) (by omega)
  have p : gPow (.int 10) (.int 18) = some (.int 1000000000000000000) := by kernel_rfl
  have md : ∀ x : Int, gMod (.int x) (.int 2147483171) = some (.int (x % 2147483171)) := fun _ => rfl
  by_cases h : c ≥ 1000000000000000000
  · refine ⟨c, (c * 103 + 1609 * (k : Int) + 101) % 2147483171 + 1, ⟨by omega, by omega, by omega⟩, [.d (.list (ns.map PyData.int)), .d (.int (k : Nat)), .d (.int c)], ?_⟩
    have h' : (1000000000000000000 : Int) ≤ c := h
    simp [sRetLst_eq', c1, c2, p, md, h', z2, gInt_i]
  · refine ⟨0, (c * 103 + 1609 * (k : Int) + 101) % 2147483171 + 1, ⟨by omega, by omega, by omega⟩, [.d (.list (ns.map PyData.int)), .d (.int (k : Nat)), .d (.int c)], ?_⟩
    have h' : ¬ (1000000000000000000 : Int) ≤ c := h
    simp [sRetLst_eq', c1, c2, p, md, h', z2, gInt_i]
theorem P_bin {ns : List Int} {k : Nat} (hk : k ≤ 7) : ∃ a b, urnOk a b ∧ g__law_bin [.list (ns.map PyData.int), .int (k : Nat)] = .ok [.int a, .int b] := by
  have fin : ∀ c : Int, 0 ≤ c → x__law_bin [.d (.list (ns.map PyData.int)), .d (.int (k : Nat)), .un] = sRetLst (vCons (vIf (vTest (vBin (gCmp .GtE) (vVar 2) (vBin gPow (vC (.int 10)) (vC (.int 18))))) (vVar 2) (vC (.int 0))) (vCons (vBin gAdd (vBin gMod (vArg gInt (vCons (vBin gAdd (vBin gAdd (vBin (iI cMul fun i j => i * j) (vVar 2) (vC (.int 103))) (vBin (iI cMul fun i j => i * j) (vC (.int 1609)) (vVar 1))) (vC (.int 101))) vNil)) (vC (.int 2147483171))) (vC (.int 1))) vNil)) [.d (.list (ns.map PyData.int)), .d (.int (k : Nat)), .d (.int c)] →
      ∃ a b, urnOk a b ∧ g__law_bin [.list (ns.map PyData.int), .int (k : Nat)] = .ok [.int a, .int b] := fun c hc e => by
    obtain ⟨a, b, u, δ, e2⟩ := bin_end (ns := ns) hk hc
    refine ⟨a, b, u, ?_⟩
    show (match x__law_bin [.d (.list (ns.map PyData.int)), .d (.int (k : Nat)), .un] with
      | .ok (.ro xs, _) => Rs.ok xs
      | .exc n f => .exc n f
      | _ => .no) = _
    rw [e, e2]
  by_cases h : k < ns.length
  · refine fin (if ns[k] < 0 then -ns[k] else ns[k]) (by split <;> omega) ?_
    have g1 : gIx (.list (ns.map PyData.int)) (.int (k : Nat)) = some (.int ns[k]) := by
      show atI (ns.map PyData.int) ((k : Nat) : Int) = _
      rw [atI_map, List.getElem?_eq_getElem h]; rfl
    have h' : (k : Int) < (ns.length : Int) := by omega
    generalize hR : sRetLst _ = R
    simp [x__law_bin, hR, g1, h', gInt_i, gAbs_i]
  · refine fin (1301 * (k : Int) + 173) (by omega) ?_
    have c2 : cMul 1301 (k : Int) = true := cMul_r (by omega) (by omega)
    have h' : ¬ (k : Int) < (ns.length : Int) := by omega
    generalize hR : sRetLst _ = R
    simp [x__law_bin, hR, c2, h']
end Ev
set_option maxHeartbeats 200000
set_option maxHeartbeats 1000000
/-! L25: the grab. Own work. -/
namespace Ev
open PySem PySem.Spec L2
theorem gMod_p {x w : Int} (h : 0 < w) : gMod (.int x) (.int w) = some (.int (x % w)) := by
  show (if cMod x w = true then some (PyData.int (x % w)) else none) = _
  have e : cMod x w = true := decide_eq_true h
  rw [if_pos e]
theorem gDiv_p {x w : Int} (h : 0 < w) (h2 : w ≤ 100000000000000000000000000000) : gDiv (.int x) (.int w) = some (.int (x / w)) := by
  show (if cDiv x w = true then some (PyData.int (x / w)) else none) = _
  have e : cDiv x w = true := by
    have l : w.natAbs.log2 < 100 := (Nat.log2_lt (by omega)).mpr (show w.natAbs < 2 ^ 100 by omega)
    unfold cDiv
    rw [decide_eq_true h, decide_eq_true (show w.natAbs.log2 < 9000 by omega)]
    rfl
  rw [if_pos e]
theorem P_grab {a b w : Int} (u : urnOk a b) (hw : 1 ≤ w) (hw2 : w ≤ 100000000000000000000000000000) : ∃ p a' b', 0 ≤ p ∧ p < w ∧ urnOk a' b' ∧ g__law_grab [.int a, .int b] [.int w] = .ok (.int p, [.int a', .int b']) := by
  obtain ⟨u1, u2, u3⟩ := u
  have w0 : 0 < w := by omega
  have m0 : 0 ≤ a % w := Int.emod_nonneg _ (by omega)
  have m1 : a % w < w := Int.emod_lt_of_pos _ w0
  have run : ∀ (d : D) (u' : List D) (r : List Sl), x__law_grab [.io [.int a, .int b], .d (.int w), .un, .un] = .ok (.rt d, .io u' :: r) → g__law_grab [.int a, .int b] [.int w] = .ok (d, u') := fun d u' r e => by
    show (match x__law_grab [.io [.int a, .int b], .d (.int w), .un, .un] with
      | .ok (.rt d, .io u' :: _) => Rs.ok (d, u')
      | .ok (.nx, .io u' :: _) => .ok (.none, u')
      | .exc n f => .exc n f
      | _ => .no) = _
    rw [e]
  have i0 : ixN 2 0 = some 0 := rfl
  have i1 : ixN 2 1 = some 1 := rfl
  by_cases h : 0 < a
  · refine ⟨a % w, a / w, b, m0, m1, ⟨Int.ediv_nonneg u1 (by omega), u2, u3⟩, run _ _ [.d (.int w), .d (.int (a % w)), .un] ?_⟩
    simp [x__law_grab, gMod_p w0, gDiv_p w0 hw2, h, gInt_i, i0]
  · have b0 : 0 ≤ (b * 35393 + 313) % 2147483171 := by omega
    have b1 : (b * 35393 + 313) % 2147483171 < 2147483171 := by omega
    have c1 : cMul b 35393 = true := cMul_r (by decide) (by decide)
    have c2 : cMul ((b * 35393 + 313) % 2147483171) ((b * 35393 + 313) % 2147483171 / 7 + 73) = true := cMul_r (by omega) (by omega)
    have e1 : ∀ x : Int, gMod (.int x) (.int 2147483171) = some (.int (x % 2147483171)) := fun _ => rfl
    have e2 : ∀ x : Int, gMod (.int x) (.int 2147483137) = some (.int (x % 2147483137)) := fun _ => rfl
    have e3 : ∀ x : Int, gDiv (.int x) (.int 7) = some (.int (x / 7)) := fun _ => rfl
    have e4 : ∀ x : Int, gDiv (.int x) (.int 32) = some (.int (x / 32)) := fun _ => rfl
    refine ⟨((b * 35393 + 313) % 2147483171 * ((b * 35393 + 313) % 2147483171 / 7 + 73)) % 2147483137 / 32 % w, a, (b * 35393 + 313) % 2147483171, Int.emod_nonneg _ (by omega), Int.emod_lt_of_pos _ w0, ⟨u1, b0, by omega⟩, run _ _ [.d (.int w), .un, .d (.int (((b * 35393 + 313) % 2147483171 * ((b * 35393 + 313) % 2147483171 / 7 + 73)) % 2147483137))] ?_⟩
    simp [x__law_grab, gMod_p w0, e1, e2, e3, e4, c1, c2, h, gInt_i, i0, i1]
end Ev
set_option maxHeartbeats 200000
set_option maxHeartbeats 1000000
/-! L26: the law. Own work. -/
namespace Ev
open PySem PySem.Spec L2
def stepLaw : SX := sIf (vOr (vTest (vBin (gCmp .In) (vC (.bool false)) (vCall g__law_chain (vCons (vVar 3) vNil)))) (vOr (vTest (vBin (gCmp .In) (vC (.bool false)) (vCall g__law_doubled (vCons (vVar 3) vNil)))) (vTest (vBin (gCmp .In) (vC (.bool false)) (vCall g__law_evened (vCons (vVar 3) vNil)))))) (sRet (vC (.bool false))) sNil
theorem inT (n : Nat) (h : n ≤ 20) : gCmp .In (.bool false) (.list (List.replicate n (.bool true))) = some (.bool false) := by
  have : n = 0 ∨ n = 1 ∨ n = 2 ∨ n = 3 ∨ n = 4 ∨ n = 5 ∨ n = 6 ∨ n = 7 ∨ n = 8 ∨ n = 9 ∨ n = 10 ∨ n = 11 ∨ n = 12 ∨ n = 13 ∨ n = 14 ∨ n = 15 ∨ n = 16 ∨ n = 17 ∨ n = 18 ∨ n = 19 ∨ n = 20 := by omega
  rcases this with rfl | rfl | rfl | rfl | rfl | rfl | rfl | rfl | rfl | rfl | rfl | rfl | rfl | rfl | rfl | rfl | rfl | rfl | rfl | rfl | rfl <;> kernel_rfl
theorem step_law {a b : Sl} {c : Sl} {m : Int} (h1 : 1 ≤ m) (h2 : m ≤ 100000000000000000000000000000) : stepLaw [a, b, c, .d (.int m)] = .ok (.nx, [a, b, c, .d (.int m)]) := by
  have q1 := inT 11 (by decide)
  have q2 := inT 8 (by decide)
  have q3 := inT 7 (by decide)
  have p1 := P_chain h1 h2
  have p2 := P_doubled h1 h2
  have p3 := P_evened h1 h2
  generalize List.replicate 11 (PyData.bool true) = A at *
  generalize List.replicate 8 (PyData.bool true) = B at *
  generalize List.replicate 7 (PyData.bool true) = C at *
  simp [stepLaw, p1, p2, p3, q1, q2, q3]
end Ev
set_option maxHeartbeats 200000
set_option maxHeartbeats 1000000
/-! L27: the law, whole. Own work. -/
namespace Ev
open PySem PySem.Spec L2
def ownO : Option (List D) → Sl
  | none => .un
  | some u => .own u
def bodyLaw : SX := sSeq (sOwn 2 (vCallF g__law_bin (vCons (vVar 0) (vCons (vVar 1) vNil))))
  (sFor [3] selOne (vItems (vArg mkTup (vCons (vC (.int 1)) (vCons (vBin gAdd (vC (.int 1)) (vCallU 2 g__law_grab (vCons (vC (.int 99)) vNil))) (vCons (vBin gAdd (vC (.int 1)) (vCallU 2 g__law_grab (vCons (vBin gPow (vC (.int 10)) (vC (.int 29))) vNil))) vNil))))) stepLaw)
theorem forL_step {is : List Nat} {sel : D → Option (List D)} {body : SX} {a : D} {as : List D} {δ δ1 δ2 : List Sl} (e1 : ((sel a).bind fun xs => putD is xs δ) = some δ1) (e2 : body δ1 = .ok (.nx, δ2)) : forL is sel body (a :: as) δ = forL is sel body as δ2 := by
  show (Rs.of ((sel a).bind fun xs => putD is xs δ)).bind _ = _
  rw [e1]
  show (body δ1).bind _ = _
  rw [e2]
theorem callU_ok {i : Nat} {g : FU} {fe : XT (List D)} {δ δ1 : List Sl} {u u1 u2 ds : List D} {r : D} (e1 : lstAt i δ = some u) (e2 : fe δ = .ok (ds, δ1)) (e3 : lstAt i δ1 = some u1) (e4 : g u1 ds = .ok (r, u2)) : vCallU i g fe δ = .ok (r, putAt i u2 δ1) := by
  unfold vCallU
  rw [e1]
  show (fe δ).bind _ = _
  rw [e2]
  show (Rs.of (lstAt i δ1)).bind _ = _
  rw [e3]
  show (g u1 ds).bind _ = _
  rw [e4]
theorem body_law {ns : List Int} {k : Nat} (hk : k ≤ 7) {s2 : Option (List D)} {s3 : Option D} : ∃ u m, bodyLaw [.d (.list (ns.map PyData.int)), .d (.int (k : Nat)), ownO s2, slO s3] = .ok (.nx, [.d (.list (ns.map PyData.int)), .d (.int (k : Nat)), .own u, .d m]) := by
  have sz := size_ge
  have z3 : 3 ≤ sizeLine := by omega
  obtain ⟨a, b, u, e1⟩ := P_bin (ns := ns) hk
  obtain ⟨p, a1, b1, p0, p1, u1, e2⟩ := P_grab (w := 99) u (by decide) (by decide)
  obtain ⟨q, a2, b2, q0, q1, u2, e3⟩ := P_grab (w := 100000000000000000000000000000) u1 (by decide) (by decide)
  have pw : gPow (.int 10) (.int 29) = some (.int 100000000000000000000000000000) := by kernel_rfl
  have s1 : forL [3] selOne stepLaw [.int 1, .int (1 + p), .int (1 + q)] [.d (.list (ns.map PyData.int)), .d (.int (k : Nat)), .own [.int a2, .int b2], slO s3] = .ok (.nx, [.d (.list (ns.map PyData.int)), .d (.int (k : Nat)), .own [.int a2, .int b2], .d (.int (1 + q))]) := by
    have t1 := step_law (a := .d (.list (ns.map PyData.int))) (b := .d (.int (k : Nat))) (c := .own [.int a2, .int b2]) (m := 1) (by decide) (by decide)
    have t2 := step_law (a := .d (.list (ns.map PyData.int))) (b := .d (.int (k : Nat))) (c := .own [.int a2, .int b2]) (m := 1 + p) (by omega) (by omega)
    have t3 := step_law (a := .d (.list (ns.map PyData.int))) (b := .d (.int (k : Nat))) (c := .own [.int a2, .int b2]) (m := 1 + q) (by omega) (by omega)
    generalize stepLaw = S at *
    cases s3 <;> exact (forL_step rfl t1).trans ((forL_step rfl t2).trans ((forL_step rfl t3).trans rfl))
  have v1 : (vCallF g__law_bin (vCons (vVar 0) (vCons (vVar 1) vNil))) [.d (.list (ns.map PyData.int)), .d (.int (k : Nat)), ownO s2, slO s3] = .ok ([.int a, .int b], [.d (.list (ns.map PyData.int)), .d (.int (k : Nat)), ownO s2, slO s3]) := by
    show (g__law_bin [.list (ns.map PyData.int), .int (k : Nat)]).bind _ = _
    rw [e1]
  have v2 : ∀ (x y z : Sl), (vCallU 2 g__law_grab (vCons (vC (.int 99)) vNil)) [x, y, .own [.int a, .int b], z] = .ok (.int p, [x, y, .own [.int a1, .int b1], z]) := fun x y z =>
    callU_ok (u := [.int a, .int b]) (ds := [.int 99]) (δ1 := [x, y, .own [.int a, .int b], z]) (u1 := [.int a, .int b]) (u2 := [.int a1, .int b1]) rfl rfl rfl e2
  have v3 : ∀ (x y z : Sl), (vCallU 2 g__law_grab (vCons (vBin gPow (vC (.int 10)) (vC (.int 29))) vNil)) [x, y, .own [.int a1, .int b1], z] = .ok (.int q, [x, y, .own [.int a2, .int b2], z]) := fun x y z =>
    callU_ok (u := [.int a1, .int b1]) (ds := [.int 100000000000000000000000000000]) (δ1 := [x, y, .own [.int a1, .int b1], z]) (u1 := [.int a1, .int b1]) (u2 := [.int a2, .int b2]) rfl (by simp [pw]) rfl e3
  refine ⟨[.int a2, .int b2], .int (1 + q), ?_⟩
  unfold bodyLaw
  generalize hU1 : vCallU 2 g__law_grab (vCons (vC (.int 99)) vNil) = U1 at *
  generalize hU2 : vCallU 2 g__law_grab (vCons (vBin gPow (vC (.int 10)) (vC (.int 29))) vNil) = U2 at *
  generalize hB : vCallF g__law_bin (vCons (vVar 0) (vCons (vVar 1) vNil)) = BB at *
  generalize stepLaw = S at *
  have v4 : ∀ (x y z : Sl), vItems (vArg mkTup (vCons (vC (.int 1)) (vCons (vBin gAdd (vC (.int 1)) U1) (vCons (vBin gAdd (vC (.int 1)) U2) vNil)))) [x, y, .own [.int a, .int b], z] = .ok ([.int 1, .int (1 + p), .int (1 + q)], [x, y, .own [.int a2, .int b2], z]) := fun x y z => by
    simp only [vItems_eq, vArg_eq, vCons_eq, vC_eq, vBin_eq, vNil_eq, bd_ok, v2, v3, gAdd_ii, of_some]
    have m : mkTup [.int 1, .int (1 + p), .int (1 + q)] = some (.tuple [.int 1, .int (1 + p), .int (1 + q)]) := if_pos z3
    rw [m]
    rfl
  have h1 : sOwn 2 BB [.d (.list (ns.map PyData.int)), .d (.int (k : Nat)), ownO s2, slO s3] = .ok (.nx, [.d (.list (ns.map PyData.int)), .d (.int (k : Nat)), .own [.int a, .int b], slO s3]) := by
    show (BB _).bind _ = _
    rw [v1]
    cases s2 <;> rfl
  show (sOwn 2 BB _).bind _ = _
  rw [h1]
  show (vItems _ _).bind _ = _
  rw [v4]
  exact s1
end Ev
set_option maxHeartbeats 200000
set_option maxHeartbeats 1000000
/-! L28: the law is kept. Own work. -/
namespace Ev
open PySem PySem.Spec L2
theorem law_true (ns : List Int) : g_law [.list (ns.map PyData.int)] = .ok (.bool true) := by
  have sz := size_ge
  refine (fnP_run (f := x_law) rfl).trans ?_
  generalize hK : max 3 (min 7 (ns.length : Int)) = n
  have n0 : 0 ≤ n := by omega
  have n7 : n ≤ 7 := by omega
  obtain ⟨δ', e1, s1, s2, s3, rfl⟩ := forL_pre (is := [1]) (sel := selOne) (body := bodyLaw) (fun (i : Nat) => encI (i : Int))
    (fun _ δ => ∃ (s1 : Option D) (s2 : Option (List D)) (s3 : Option D), δ = [.d (.list (ns.map PyData.int)), slO s1, ownO s2, slO s3]) (List.range n.toNat) (fun pre i post δ e ⟨s1, s2, s3, hδ⟩ => by
      subst hδ
      have hi : i ∈ List.range n.toNat := by rw [e]; simp
      have hi' := List.mem_range.mp hi
      obtain ⟨u, m, hb⟩ := body_law (ns := ns) (k := i) (by omega) (s2 := s2) (s3 := s3)
      refine ⟨[.d (.list (ns.map PyData.int)), .d (.int (i : Nat)), ownO s2, slO s3], ?_, _, hb, some (.int (i : Nat)), some u, some m, rfl⟩
      cases s1 <;> rfl) (List.range n.toNat) [] [.d (.list (ns.map PyData.int)), .un, .un, .un] rfl ⟨none, none, none, rfl⟩
  have b : gCmp .NotIn (.bool false) (.list (List.replicate 9 (.bool true))) = some (.bool true) := by kernel_rfl
  have pw := P_written
  show retOf (x_law [.d (.list (ns.map PyData.int)), .un, .un, .un]) = _
  have xl : x_law = sSeq (sFor [1] selOne (vIt rng1 (vCons (vArg gMax2 (vCons (vC (.int 3)) (vCons (vArg gMin2 (vCons (vC (.int 7)) (vCons (vArg gLen (vCons (vVar 0) vNil)) vNil))) vNil))) vNil)) bodyLaw) (sRet (vBin (gCmp .NotIn) (vC (.bool false)) (vCall g__law_written vNil))) := rfl
  rw [xl]
  generalize bodyLaw = B at *
  generalize hU : (PyData.list (ns.map PyData.int)) = U at *
  have ln : gLen [U] = some (.int ns.length) := by rw [← hU]; simp
  have r1 := rng1_i n n0 (by omega)
  generalize List.replicate 9 (PyData.bool true) = W at *
  generalize (List.range n.toNat).map (fun (i : Nat) => encI (i : Int)) = R at *
  cases s2 <;> simp [ln, hK, r1, e1, pw, b]
end Ev
theorem PySem.Challenge.cw_palletsowed_k13_known_books_by_hand_holds : PySem.Challenge.rw_palletsowed_k13_known_books_by_hand.Holds := by
  exact Ev.holds_of fun ns _ _ => Ev.law_true ns
