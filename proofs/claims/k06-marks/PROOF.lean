import PyProof.Rows.All
import Wide.All
import OpenK.AllK
import Wide.FinOn
import HandS.ForMost
import HandS.Words
import HandS.TupAny
import KE.KDictKeyed
import HandS.Flow
import HandS.IsInst
import HandS.Wide
import HandS.Walk
import PyProof.NeKinds
import HandS.Exc
import HandS.SetKeys
import KE.SortData
import KE.KDictCopyH
import PyProof.CollectStr
import HandS.More
import HandS.TupLe
import HandS.Style
import PyProof.ListStr
import HandS.Ends
import PySem.Challenge.RW_keptpages_k06_marks_within_marks
set_option Elab.async false
set_option linter.all false
set_option maxRecDepth 100000
set_option maxHeartbeats 4000000
/-! KB0: values as plain data over the hand layer; the stores of things that change; lifted readings. -/
namespace KB
open PySem PySem.Spec PyProof.Rows L2

/-- data: tuples are values; a thing that may change is told by its place -/
inductive D where
  | non | bl (b : Bool) | int (i : Int) | str (l : List Nat) | tup (ds : List D) | ptr (a : Addr) | ty (n : String)

abbrev DKey := Sum Int (List Nat)
abbrev Fs := List (Str × D)
/-- what stands at a place -/
inductive Cell where
  | lst (ds : List D) | fz (ds : List D) | dk (kvs : List (DKey × D)) | dt (kvs : List (List DKey × D)) | ins (C : Addr) (fs : Fs) | dg (kvs : List (D × D)) | raw (o : HO)
abbrev Cp := Addr → Option Cell
def up (C : Cp) (a : Addr) (c : Cell) : Cp := fun b => if b = a then some c else C b
theorem up_same {C : Cp} {a : Addr} {c : Cell} : up C a c a = some c := by unfold up; rw [if_pos rfl]
theorem up_ne {C : Cp} {a b : Addr} {c : Cell} (h : b ≠ a) : up C a c b = C b := by unfold up; rw [if_neg h]
abbrev Sl := List (Option D)
abbrev Exn := Addr × Fs
abbrev DQ := D → Cp → Prop
abbrev DE := Sl → Cp → DQ → Prop
abbrev DT := Sl → Cp → (Bool → Cp → Prop) → Prop
abbrev DA := Sl → Cp → (List D → Cp → Prop) → Prop
structure DEnds where
  nx : Sl → Cp → Prop
  rt : DQ
  bk : Sl → Cp → Prop := fun _ _ => False
  ct : Sl → Cp → Prop := fun _ _ => False
abbrev DS := DEnds → Sl → Cp → Prop
abbrev DG := D → Sl → Cp → (Sl → Cp → Prop) → Prop
abbrev DGs := List D → Sl → Cp → (Sl → Cp → Prop) → Prop
/-- a def: arguments, store, the end wanted, the exception wanted -/
abbrev DSp := List D → Cp → DQ → (Exn → Cp → Prop) → Prop

/-! ### data and values -/
def keyOf : DKey → Key
  | .inl i => .inl i
  | .inr l => .inr ⟨l.toArray⟩
def keyD : DKey → D
  | .inl i => .int i
  | .inr l => .str l
theorem keyOf_inj : ∀ {a b : DKey}, keyOf a = keyOf b → a = b
  | .inl i, .inl j, h => by rw [Sum.inl.inj h]
  | .inr l, .inr m, h => by
    have h : (⟨l.toArray⟩ : Str) = ⟨m.toArray⟩ := Sum.inr.inj h
    have e : l.toArray = m.toArray := congrArg Str.cps h
    have : l = m := by simpa using congrArg Array.toList e
    rw [this]
  | .inl _, .inr _, h => nomatch h
  | .inr _, .inl _, h => nomatch h
mutual
def Rep (K : PySem.W.Frag) (H : Hp) : D → V → Prop
  | .non, v => v = .non
  | .bl b, v => v = .bl b
  | .int i, v => v = .int i
  | .str l, v => v = .str ⟨l.toArray⟩
  | .ptr a, v => v = .ref a
  | .ty n, v => v = .ty n
  | .tup ds, v => ∃ a vs, v = .ref a ∧ SqT K H a vs ∧ Reps K H ds vs
def Reps (K : PySem.W.Frag) (H : Hp) : List D → List V → Prop
  | [], vs => vs = []
  | d :: ds, vs => ∃ v r, vs = v :: r ∧ Rep K H d v ∧ Reps K H ds r
end
/-- tuples and locked things stay -/
structure Tx (H H' : Hp) : Prop where
  t : ∀ a xs, H a = some (.tup xs) → H' a = some (.tup xs)
  f : ∀ a o u, H a = some (.frz o u) → H' a = some (.frz o u)
theorem Tx.refl (H : Hp) : Tx H H := ⟨fun _ _ h => h, fun _ _ _ h => h⟩
theorem Tx.trans {H H1 H2 : Hp} (a : Tx H H1) (b : Tx H1 H2) : Tx H H2 := ⟨fun _ _ h => b.t _ _ (a.t _ _ h), fun _ _ _ h => b.f _ _ _ (a.f _ _ _ h)⟩
theorem Tx.sqT {K : PySem.W.Frag} {H H' : Hp} {a : Addr} {xs : List V} (e : Tx H H') (h : SqT K H a xs) : SqT K H' a xs := by
  rcases h with (h | ⟨o, h⟩) | h
  · exact .inl (.inl (e.t _ _ h))
  · exact .inl (.inr ⟨o, e.f _ _ _ h⟩)
  · exact .inr h
mutual
theorem Rep.mono {K : PySem.W.Frag} {H H' : Hp} (e : Tx H H') : ∀ {d : D} {v : V}, Rep K H d v → Rep K H' d v
  | .non, _, h => h
  | .bl _, _, h => h
  | .int _, _, h => h
  | .str _, _, h => h
  | .ptr _, _, h => h
  | .ty _, _, h => h
  | .tup _, _, h => by
    obtain ⟨a, vs, e1, e2, e3⟩ := h
    exact ⟨a, vs, e1, e.sqT e2, Reps.mono e e3⟩
theorem Reps.mono {K : PySem.W.Frag} {H H' : Hp} (e : Tx H H') : ∀ {ds : List D} {vs : List V}, Reps K H ds vs → Reps K H' ds vs
  | [], _, h => h
  | _ :: _, _, h => by
    obtain ⟨v, r, e1, e2, e3⟩ := h
    exact ⟨v, r, e1, Rep.mono e e2, Reps.mono e e3⟩
end
theorem Reps.nil {K : PySem.W.Frag} {H : Hp} : Reps K H [] [] := rfl
theorem Reps.cons {K : PySem.W.Frag} {H : Hp} {d : D} {v : V} {ds : List D} {vs : List V} (h : Rep K H d v) (t : Reps K H ds vs) : Reps K H (d :: ds) (v :: vs) := ⟨v, vs, rfl, h, t⟩
theorem Reps.length {K : PySem.W.Frag} {H : Hp} : ∀ {ds : List D} {vs : List V}, Reps K H ds vs → ds.length = vs.length
  | [], _, h => by cases h; rfl
  | _ :: _, _, h => by
    obtain ⟨v, r, rfl, _, t⟩ := h
    rw [List.length_cons, List.length_cons, t.length]
theorem Reps.append {K : PySem.W.Frag} {H : Hp} : ∀ {ds es : List D} {vs ws : List V}, Reps K H ds vs → Reps K H es ws → Reps K H (ds ++ es) (vs ++ ws)
  | [], _, _, _, h, g => by cases h; exact g
  | _ :: _, _, _, _, h, g => by
    obtain ⟨v, r, rfl, a, t⟩ := h
    exact ⟨v, _, rfl, a, t.append g⟩
theorem Reps.get {K : PySem.W.Frag} {H : Hp} : ∀ {ds : List D} {vs : List V} {i : Nat} {d : D}, Reps K H ds vs → ds[i]? = some d → ∃ v, vs[i]? = some v ∧ Rep K H d v
  | [], _, i, d, h, e => by simp at e
  | x :: ds, _, 0, d, h, e => by
    obtain ⟨v, r, rfl, a, t⟩ := h
    have : x = d := by simpa using e
    subst this
    exact ⟨v, rfl, a⟩
  | x :: ds, _, i + 1, d, h, e => by
    obtain ⟨v, r, rfl, a, t⟩ := h
    obtain ⟨w, e1, e2⟩ := t.get (i := i) (d := d) (by simpa using e)
    exact ⟨w, by simpa using e1, e2⟩
theorem Reps.getV {K : PySem.W.Frag} {H : Hp} : ∀ {ds : List D} {vs : List V} {i : Nat} {v : V}, Reps K H ds vs → vs[i]? = some v → ∃ d, ds[i]? = some d ∧ Rep K H d v
  | [], _, i, v, h, e => by
    cases h
    simp at e
  | x :: ds, _, 0, v, h, e => by
    obtain ⟨w, r, rfl, a, t⟩ := h
    have : w = v := by simpa using e
    subst this
    exact ⟨x, rfl, a⟩
  | x :: ds, _, i + 1, v, h, e => by
    obtain ⟨w, r, rfl, a, t⟩ := h
    obtain ⟨d, e1, e2⟩ := t.getV (i := i) (v := v) (by simpa using e)
    exact ⟨d, by simpa using e1, e2⟩
theorem Reps.take {K : PySem.W.Frag} {H : Hp} : ∀ {ds : List D} {vs : List V} (n : Nat), Reps K H ds vs → Reps K H (ds.take n) (vs.take n)
  | _, _, 0, _ => rfl
  | [], _, _ + 1, h => by cases h; rfl
  | _ :: _, _, n + 1, h => by
    obtain ⟨v, r, rfl, a, t⟩ := h
    exact ⟨v, _, rfl, a, t.take n⟩
theorem Reps.drop {K : PySem.W.Frag} {H : Hp} : ∀ {ds : List D} {vs : List V} (n : Nat), Reps K H ds vs → Reps K H (ds.drop n) (vs.drop n)
  | _, _, 0, h => h
  | [], _, _ + 1, h => by cases h; rfl
  | _ :: _, _, n + 1, h => by
    obtain ⟨v, r, rfl, a, t⟩ := h
    exact t.drop n
theorem Reps.set {K : PySem.W.Frag} {H : Hp} {d : D} {v : V} (q : Rep K H d v) : ∀ {ds : List D} {vs : List V} (i : Nat), Reps K H ds vs → Reps K H (ds.set i d) (vs.set i v)
  | [], _, _, h => by cases h; rfl
  | _ :: _, _, 0, h => by
    obtain ⟨w, r, rfl, a, t⟩ := h
    exact ⟨v, r, rfl, q, t⟩
  | _ :: _, _, i + 1, h => by
    obtain ⟨w, r, rfl, a, t⟩ := h
    exact ⟨w, _, rfl, a, t.set q i⟩
theorem Reps.reverse {K : PySem.W.Frag} {H : Hp} : ∀ {ds : List D} {vs : List V}, Reps K H ds vs → Reps K H ds.reverse vs.reverse
  | [], _, h => by cases h; rfl
  | _ :: _, _, h => by
    obtain ⟨v, r, rfl, a, t⟩ := h
    rw [List.reverse_cons, List.reverse_cons]
    exact t.reverse.append (.cons a .nil)
theorem Reps.map {K : PySem.W.Frag} {H : Hp} {α : Type} (f : α → D) (g : α → V) (h : ∀ x, Rep K H (f x) (g x)) : ∀ l : List α, Reps K H (l.map f) (l.map g)
  | [] => rfl
  | x :: l => ⟨_, _, rfl, h x, Reps.map f g h l⟩
/-- of ints, of texts: the values -/
theorem Reps.ints {K : PySem.W.Frag} {H : Hp} : ∀ {ns : List Int} {vs : List V}, Reps K H (ns.map D.int) vs → vs = ns.map V.int
  | [], _, h => h
  | n :: ns, _, h => by
    obtain ⟨v, r, rfl, a, t⟩ := h
    have a : v = .int n := a
    rw [a, t.ints]
    rfl
theorem Reps.bools {K : PySem.W.Frag} {H : Hp} : ∀ {ns : List Bool} {vs : List V}, Reps K H (ns.map D.bl) vs → vs = ns.map V.bl
  | [], _, h => h
  | n :: ns, _, h => by
    obtain ⟨v, r, rfl, a, t⟩ := h
    have a : v = .bl n := a
    rw [a, t.bools]
    rfl
abbrev sOf (l : List Nat) : Str := ⟨l.toArray⟩
theorem Reps.strs {K : PySem.W.Frag} {H : Hp} : ∀ {ns : List (List Nat)} {vs : List V}, Reps K H (ns.map D.str) vs → vs = (ns.map sOf).map V.str
  | [], _, h => h
  | n :: ns, _, h => by
    obtain ⟨v, r, rfl, a, t⟩ := h
    have a : v = .str ⟨n.toArray⟩ := a
    rw [a, t.strs]
    rfl

/-! ### cells -/
def RepK {α β : Type} (f : α → β) (K : PySem.W.Frag) (H : Hp) : List (α × D) → List (β × V) → Prop := Paired fun p q => f p.1 = q.1 ∧ Rep K H p.2 q.2
theorem RepK.mono {α β : Type} {f : α → β} {K : PySem.W.Frag} {H H' : Hp} (e : Tx H H') {l : List (α × D)} {m : List (β × V)} (h : RepK f K H l m) : RepK f K H' l m := Paired.mapP h fun _ _ q => ⟨q.1, q.2.mono e⟩
mutual
/-- a key's own shape -/
def nk : D → NestedKey
  | .non => .none
  | .bl b => .num (if b = true then 1 else 0)
  | .int i => .num i
  | .str l => .text ⟨l.toArray⟩
  | .tup ds => .tup (nks ds)
  | .ptr _ => .none
  | .ty _ => .none
def nks : List D → List NestedKey
  | [] => []
  | d :: ds => nk d :: nks ds
end
mutual
/-- no places, no truths within -/
def flatG : D → Bool
  | .tup ds => flatGs ds
  | .ptr _ => false
  | .ty _ => false
  | .bl _ => false
  | _ => true
def flatGs : List D → Bool
  | [] => true
  | d :: ds => flatG d && flatGs ds
end
/-- a dict whose keys are tuples, by its entries: the keys' places and the values as they lie there -/
def DgObj (P : Program) (w : World) (a : Addr) (xs : List (NestedKey × Addr × Value)) : HO := .ext fun h =>
  ∃ o es ep, h.get? a = some o ∧ o.ExactDict ∧ o.data = .dict es ep ∧ es.toList = xs.map (entryOfKey (nestedKind P w)) ∧ (xs.map (·.1)).Nodup ∧ xs.length ≤ sizeLine ∧ (a == sysModules) = false
/-- a key: a tuple, no places within, not too deep -/
def keyG (d : D) : Prop := (∃ ds, d = .tup ds) ∧ (nk d).depth ≤ 8 ∧ flatG d = true
def RepG (K : PySem.W.Frag) (H : Hp) : List (D × D) → List (NestedKey × Addr × Value) → Prop := Paired fun p q => nk p.1 = q.1 ∧ Rep K H p.1 (.ref q.2.1) ∧ ∃ v, Rep K H p.2 v ∧ RelV v q.2.2
theorem RepG.mono {K : PySem.W.Frag} {H H' : Hp} (e : Tx H H') {l : List (D × D)} {m : List (NestedKey × Addr × Value)} (h : RepG K H l m) : RepG K H' l m := Paired.mapP h fun _ _ q => ⟨q.1, q.2.1.mono e, let ⟨v, a, b⟩ := q.2.2; ⟨v, a.mono e, b⟩⟩
def CellOk (P : Program) (w : World) (K : PySem.W.Frag) (H : Hp) (p : Addr) : Cell → Prop
  | .lst ds => ∃ vs, H p = some (.lst vs) ∧ Reps K H ds vs
  | .fz ds => ∃ o vs, H p = some (.frz o (.lst vs)) ∧ Reps K H ds vs
  | .dk kvs => ∃ ws, H p = some (.dK ws) ∧ RepK keyOf K H kvs ws
  | .dt kvs => ∃ ws, H p = some (.dT ws) ∧ RepK (fun k => k.map keyOf) K H kvs ws
  | .ins C fs => ∃ dx ws, H p = some (.ins C dx ws) ∧ RepK id K H fs ws
  | .dg kvs => ∃ xs, H p = some (DgObj P w p xs) ∧ RepG K H kvs xs ∧ ∀ q ∈ kvs, keyG q.1
  | .raw o => H p = some o
theorem CellOk.there {P : Program} {w : World} {K : PySem.W.Frag} {H : Hp} {p : Addr} {c : Cell} (h : CellOk P w K H p c) : H p ≠ none := by
  intro e
  cases c with
  | lst ds => obtain ⟨_, q, _⟩ := h; rw [e] at q; cases q
  | fz ds => obtain ⟨_, _, q, _⟩ := h; rw [e] at q; cases q
  | dk ds => obtain ⟨_, q, _⟩ := h; rw [e] at q; cases q
  | dt ds => obtain ⟨_, q, _⟩ := h; rw [e] at q; cases q
  | ins C fs => obtain ⟨_, _, q, _⟩ := h; rw [e] at q; cases q
  | dg kvs => obtain ⟨_, q, _⟩ := h; rw [e] at q; cases q
  | raw o =>
    have h : H p = some o := h
    rw [e] at h; cases h
theorem CellOk.keep {P : Program} {w : World} {K : PySem.W.Frag} {H H' : Hp} {p : Addr} {c : Cell} (h : CellOk P w K H p c) (e : Tx H H') (k : H' p = H p) : CellOk P w K H' p c := by
  cases c with
  | lst ds => obtain ⟨vs, q, r⟩ := h; exact ⟨vs, k.trans q, r.mono e⟩
  | fz ds => obtain ⟨o, vs, q, r⟩ := h; exact ⟨o, vs, k.trans q, r.mono e⟩
  | dk ds => obtain ⟨vs, q, r⟩ := h; exact ⟨vs, k.trans q, r.mono e⟩
  | dt ds => obtain ⟨vs, q, r⟩ := h; exact ⟨vs, k.trans q, r.mono e⟩
  | ins C fs => obtain ⟨o, vs, q, r⟩ := h; exact ⟨o, vs, k.trans q, r.mono e⟩
  | dg kvs => obtain ⟨xs, q, r, g⟩ := h; exact ⟨xs, k.trans q, r.mono e, g⟩
  | raw o => exact k.trans h
/-- what is not told of stays as it was -/
structure Stp (H : Hp) (C : Cp) (H' : Hp) (C' : Cp) : Prop where
  tx : Tx H H'
  hid : ∀ p o, H p = some o → C p = none → H' p = some o ∧ C' p = none
theorem Stp.refl (H : Hp) (C : Cp) : Stp H C H C := ⟨Tx.refl H, fun _ _ a b => ⟨a, b⟩⟩
theorem Stp.trans {H H1 H2 : Hp} {C C1 C2 : Cp} (a : Stp H C H1 C1) (b : Stp H1 C1 H2 C2) : Stp H C H2 C2 := ⟨a.tx.trans b.tx, fun p o e n => let ⟨e1, n1⟩ := a.hid p o e n; b.hid p o e1 n1⟩
/-- a store tells less than another -/
def Sub (C C' : Cp) : Prop := ∀ p c, C p = some c → C' p = some c
theorem Sub.refl (C : Cp) : Sub C C := fun _ _ h => h
theorem Sub.trans {C C1 C2 : Cp} (a : Sub C C1) (b : Sub C1 C2) : Sub C C2 := fun p c h => b p c (a p c h)
theorem Sub.none {C C' : Cp} (a : Sub C C') {p : Addr} (h : C' p = Option.none) : C p = Option.none := by
  cases e : C p with
  | none => rfl
  | some c => rw [a p c e] at h; cases h
theorem Sub.new {C : Cp} {p : Addr} {c : Cell} (h : C p = Option.none) : Sub C (up C p c) := fun q d e => by
  rw [up_ne]
  · exact e
  · intro z
    subst z
    rw [h] at e
    cases e
/-- what a def, or a block, began with -/
structure Bs where
  H : Hp
  C : Cp
  P : Program
  w : World
structure Rl (K : PySem.W.Frag) (B : Bs) (H : Hp) (C : Cp) : Prop where
  st : Stp B.H B.C H C
  ok : ∀ p c, C p = some c → CellOk B.P B.w K H p c
theorem Rl.fresh {K : PySem.W.Frag} {B : Bs} {H : Hp} {C : Cp} (r : Rl K B H C) {p : Addr} (h : H p = none) : C p = none := by
  cases e : C p with
  | none => rfl
  | some c => exact absurd h (r.ok p c e).there
theorem Rl.base {K : PySem.W.Frag} {B : Bs} {H : Hp} {C : Cp} (r : Rl K B H C) : Rl K ⟨H, C, B.P, B.w⟩ H C := ⟨Stp.refl H C, r.ok⟩
theorem Rl.rebase {K : PySem.W.Frag} {B : Bs} {H H' : Hp} {C C' : Cp} (r : Rl K B H C) (q : Rl K ⟨H, C, B.P, B.w⟩ H' C') : Rl K B H' C' := ⟨r.st.trans q.st, q.ok⟩
theorem Stp.less {H H' : Hp} {C C' C'' : Cp} (r : Stp H C H' C') (h : Sub C'' C') : Stp H C H' C'' := ⟨r.tx, fun p o e n => ⟨(r.hid p o e n).1, h.none (r.hid p o e n).2⟩⟩
/-- less is told -/
theorem Rl.less {K : PySem.W.Frag} {B : Bs} {H : Hp} {C C' : Cp} (r : Rl K B H C) (h : Sub C' C) : Rl K B H C' := ⟨r.st.less h, fun p c e => r.ok p c (h p c e)⟩
def Frz : Option HO → Prop
  | some (.tup _) => True
  | some (.frz _ _) => True
  | _ => False
theorem tx_upd {H : Hp} {p : Addr} {o : HO} (h : ¬ Frz (H p)) : Tx H (upd H p o) := by
  refine ⟨fun a xs e => ?_, fun a u xs e => ?_⟩
  · rw [upd_ne]
    · exact e
    · intro z
      subst z
      rw [e] at h
      exact h trivial
  · rw [upd_ne]
    · exact e
    · intro z
      subst z
      rw [e] at h
      exact h trivial
theorem tx_new {H : Hp} {p : Addr} {o : HO} (h : H p = none) : Tx H (upd H p o) := tx_upd (by rw [h]; exact id)
theorem stp_put {H : Hp} {C : Cp} {p : Addr} {o : HO} {c : Cell} (h : ¬ Frz (H p)) (hc : C p ≠ none ∨ H p = none) : Stp H C (upd H p o) (up C p c) := by
  refine ⟨tx_upd h, fun q u e n => ?_⟩
  have z : q ≠ p := by
    intro z
    subst z
    rcases hc with hc | hc
    · exact hc n
    · rw [hc] at e; cases e
  exact ⟨by rw [upd_ne z]; exact e, by rw [up_ne z]; exact n⟩
theorem stp_more {H : Hp} {C : Cp} {p : Addr} {o : HO} (h : H p = none) : Stp H C (upd H p o) C := ⟨tx_new h, fun q u e n => ⟨by rw [upd_ne (ne_of_none e h)]; exact e, n⟩⟩
/-- a cell is written or new -/
theorem Rl.put {K : PySem.W.Frag} {B : Bs} {H : Hp} {C : Cp} (r : Rl K B H C) {p : Addr} {o : HO} {c : Cell} (h : ¬ Frz (H p)) (hc : C p ≠ none ∨ H p = none) (new : CellOk B.P B.w K (upd H p o) p c) : Rl K B (upd H p o) (up C p c) := by
  refine ⟨r.st.trans (stp_put h hc), fun q d e => ?_⟩
  by_cases z : q = p
  · subst z
    rw [up_same] at e
    cases e
    exact new
  · rw [up_ne z] at e
    exact (r.ok q d e).keep (tx_upd h) (upd_ne z)
/-- something new that is not told of -/
theorem Rl.more {K : PySem.W.Frag} {B : Bs} {H : Hp} {C : Cp} (r : Rl K B H C) {p : Addr} {o : HO} (h : H p = none) : Rl K B (upd H p o) C := by
  refine ⟨r.st.trans (stp_more h), fun q d e => (r.ok q d e).keep (tx_new h) (upd_ne ?_)⟩
  intro z
  subst z
  exact (r.ok q d e).there h
theorem Rl.putNew {K : PySem.W.Frag} {B : Bs} {H : Hp} {C : Cp} (r : Rl K B H C) {p : Addr} {o : HO} {c : Cell} (h : H p = none) (new : CellOk B.P B.w K (upd H p o) p c) : Rl K B (upd H p o) (up C p c) := r.put (by rw [h]; exact id) (.inr h) new

/-! ### slots -/
def RepO (K : PySem.W.Frag) (H : Hp) (o : Option D) (x : Option V) : Prop := ∀ d, o = some d → ∃ v, x = some v ∧ Rep K H d v
def RepS (K : PySem.W.Frag) (H : Hp) (sl : Sl) (σ : L2.St) : Prop := Paired (RepO K H) sl σ
theorem RepO.mono {K : PySem.W.Frag} {H H' : Hp} (e : Tx H H') {o : Option D} {x : Option V} (h : RepO K H o x) : RepO K H' o x := fun d q => let ⟨v, e1, e2⟩ := h d q; ⟨v, e1, e2.mono e⟩
theorem RepS.mono {K : PySem.W.Frag} {H H' : Hp} (e : Tx H H') {sl : Sl} {σ : L2.St} (h : RepS K H sl σ) : RepS K H' sl σ := Paired.mapP h fun _ _ q => q.mono e
theorem RepS.get {K : PySem.W.Frag} {H : Hp} {sl : Sl} {σ : L2.St} {i : Nat} {d : D} (h : RepS K H sl σ) (e : sl[i]? = some (some d)) : ∃ v, σ[i]? = some (some v) ∧ Rep K H d v := by
  unfold RepS at h
  induction h generalizing i with
  | nil => simp at e
  | cons r t ih =>
    cases i with
    | zero =>
      simp only [List.length_cons, Nat.zero_lt_succ, getElem?_pos, List.getElem_cons_zero, Option.some.injEq] at e
      obtain ⟨v, q, h⟩ := r d e
      exact ⟨v, by rw [q]; rfl, h⟩
    | succ i =>
      obtain ⟨v, h1, h2⟩ := ih (by simpa using e)
      exact ⟨v, by simpa using h1, h2⟩
theorem RepS.set {K : PySem.W.Frag} {H : Hp} {o : Option D} {x : Option V} (r : RepO K H o x) {sl : Sl} {σ : L2.St} (i : Nat) (h : RepS K H sl σ) : RepS K H (sl.set i o) (σ.set i x) := by
  unfold RepS at h ⊢
  induction h generalizing i with
  | nil => exact .nil
  | cons q t ih =>
    cases i with
    | zero => exact .cons r t
    | succ i => exact .cons q (ih i)
theorem RepS.setD {K : PySem.W.Frag} {H : Hp} {d : D} {v : V} (r : Rep K H d v) {sl : Sl} {σ : L2.St} (i : Nat) (h : RepS K H sl σ) : RepS K H (sl.set i (some d)) (σ.set i (some v)) :=
  h.set (fun e q => by cases q; exact ⟨v, rfl, r⟩) i
def wipeD (sl : Sl) (vs : List Nat) : Sl := vs.foldr (fun v s => s.set v none) sl
theorem RepS.wipe {K : PySem.W.Frag} {H : Hp} {sl : Sl} {σ : L2.St} (h : RepS K H sl σ) : ∀ vs : List Nat, RepS K H (wipeD sl vs) (L2.wipe σ vs)
  | [] => h
  | v :: vs => (RepS.wipe h vs).set (fun d (q : Option.none = some d) => by cases q) v

/-! ### lifted readings -/
def lE (K : PySem.W.Frag) (B : Bs) (τ : DE) : TE := fun σ H Q => ∃ sl C Qd, RepS K H sl σ ∧ Rl K B H C ∧ τ sl C Qd ∧ ∀ v d H' C', Stp H C H' C' → Rl K B H' C' → Rep K H' d v → Qd d C' → Q v H'
def lT (K : PySem.W.Frag) (B : Bs) (τ : DT) : TT := fun σ H Q => ∃ sl C Qd, RepS K H sl σ ∧ Rl K B H C ∧ τ sl C Qd ∧ ∀ b H' C', Stp H C H' C' → Rl K B H' C' → Qd b C' → Q b H'
def lA (K : PySem.W.Frag) (B : Bs) (τ : DA) : TA := fun σ H Q => ∃ sl C Qd, RepS K H sl σ ∧ Rl K B H C ∧ τ sl C Qd ∧ ∀ vs ds H' C', Stp H C H' C' → Rl K B H' C' → Reps K H' ds vs → Qd ds C' → Q vs H'
structure EndsOk (K : PySem.W.Frag) (B : Bs) (H : Hp) (C : Cp) (Dd : DEnds) (D : Ends) : Prop where
  nx : ∀ σ sl H' C', Stp H C H' C' → Rl K B H' C' → RepS K H' sl σ → Dd.nx sl C' → D.nx σ H'
  rt : ∀ v d H' C', Stp H C H' C' → Rl K B H' C' → Rep K H' d v → Dd.rt d C' → D.rt v H'
  bk : ∀ σ sl H' C', Stp H C H' C' → Rl K B H' C' → RepS K H' sl σ → Dd.bk sl C' → D.bk σ H'
  ct : ∀ σ sl H' C', Stp H C H' C' → Rl K B H' C' → RepS K H' sl σ → Dd.ct sl C' → D.ct σ H'
theorem EndsOk.mono {K : PySem.W.Frag} {B : Bs} {H H1 : Hp} {C C1 : Cp} {Dd : DEnds} {D : Ends} (e : EndsOk K B H C Dd D) (t : Stp H C H1 C1) : EndsOk K B H1 C1 Dd D :=
  ⟨fun σ sl H' C' a => e.nx σ sl H' C' (t.trans a), fun σ sl H' C' a => e.rt σ sl H' C' (t.trans a), fun σ sl H' C' a => e.bk σ sl H' C' (t.trans a), fun σ sl H' C' a => e.ct σ sl H' C' (t.trans a)⟩
def lS (K : PySem.W.Frag) (B : Bs) (τ : DS) : TS := fun D σ H => ∃ sl C Dd, RepS K H sl σ ∧ Rl K B H C ∧ τ Dd sl C ∧ EndsOk K B H C Dd D
def lG (K : PySem.W.Frag) (B : Bs) (τ : DG) : TG := fun v σ H Q => ∃ d sl C Qd, Rep K H d v ∧ RepS K H sl σ ∧ Rl K B H C ∧ τ d sl C Qd ∧ ∀ σ' sl' H' C', Stp H C H' C' → Rl K B H' C' → RepS K H' sl' σ' → Qd sl' C' → Q σ' H'
def lGs (K : PySem.W.Frag) (B : Bs) (τ : DGs) : TGs := fun vs σ H Q => ∃ ds sl C Qd, Reps K H ds vs ∧ RepS K H sl σ ∧ Rl K B H C ∧ τ ds sl C Qd ∧ ∀ σ' sl' H' C', Stp H C H' C' → Rl K B H' C' → RepS K H' sl' σ' → Qd sl' C' → Q σ' H'

abbrev JE (X : Cx) (B : Bs) (e : Expr) (τ : DE) : Prop := PE X e (lE X.K B τ)
abbrev JT (X : Cx) (B : Bs) (e : Expr) (τ : DT) : Prop := PT X e (lT X.K B τ)
abbrev JW (X : Cx) (B : Bs) (e : Expr) (τ : DT) : Prop := PW X e (lT X.K B τ)
abbrev JA (X : Cx) (B : Bs) (es : List Expr) (τ : DA) : Prop := PA X es (lA X.K B τ)
abbrev JS (X : Cx) (B : Bs) (st : Stmt) (τ : DS) : Prop := PS X st (lS X.K B τ)
abbrev JSs (X : Cx) (B : Bs) (st : List Stmt) (τ : DS) : Prop := PSs X st (lS X.K B τ)
abbrev JG (X : Cx) (B : Bs) (e : Expr) (τ : DG) : Prop := PG X e (lG X.K B τ)
abbrev JGs (X : Cx) (B : Bs) (e : List Expr) (τ : DGs) : Prop := PGs X e (lGs X.K B τ)
section
variable {X : Cx} {B : Bs}
theorem PE.imp {e : Expr} {t t' : TE} (h : PE X e t) (i : ∀ σ H Q, t' σ H Q → t σ H Q) : PE X e t' := ⟨fun pins s σ H Q I q => h.run pins s σ H Q I (i σ H Q q)⟩
theorem PT.imp {e : Expr} {t t' : TT} (h : PT X e t) (i : ∀ σ H Q, t' σ H Q → t σ H Q) : PT X e t' := ⟨fun pins s σ H Q I q => h.run pins s σ H Q I (i σ H Q q)⟩
theorem PW.imp {e : Expr} {t t' : TT} (h : PW X e t) (i : ∀ σ H Q, t' σ H Q → t σ H Q) : PW X e t' := ⟨fun wh pins s σ H Q I q => h.run wh pins s σ H Q I (i σ H Q q)⟩
theorem PA.imp {e : List Expr} {t t' : TA} (h : PA X e t) (i : ∀ σ H Q, t' σ H Q → t σ H Q) : PA X e t' := ⟨fun pos pins s σ H Q I q => h.run pos pins s σ H Q I (i σ H Q q)⟩
theorem PS.imp {e : Stmt} {t t' : TS} (h : PS X e t) (i : ∀ D σ H, t' D σ H → t D σ H) : PS X e t' := ⟨fun pins s σ H D I q => h.run pins s σ H D I (i D σ H q)⟩
theorem PSs.imp {e : List Stmt} {t t' : TS} (h : PSs X e t) (i : ∀ D σ H, t' D σ H → t D σ H) : PSs X e t' := ⟨fun pins s σ H D I q => h.run pins s σ H D I (i D σ H q)⟩
theorem PG.imp {e : Expr} {t t' : TG} (h : PG X e t) (i : ∀ v σ H Q, t' v σ H Q → t v σ H Q) : PG X e t' := ⟨fun pins s σ H v u Q I r q => h.run pins s σ H v u Q I r (i v σ H Q q)⟩
theorem PGs.imp {e : List Expr} {t t' : TGs} (h : PGs X e t) (i : ∀ v σ H Q, t' v σ H Q → t v σ H Q) : PGs X e t' := ⟨fun pins s σ H v u Q I r q => h.run pins s σ H v u Q I r (i v σ H Q q)⟩

/-! ### names, constants -/
def dVar (i : Nat) : DE := fun s C Q => ∃ d, s[i]? = some (some d) ∧ Q d C
def dC (d : D) : DE := fun _ C Q => Q d C
theorem jv (i : Nat) {x : Str} {pos : Pos} (hN : X.N[i]? = some x := by rfl) (hv : Vis X.env.scope x := by first | exact Or.inl rfl | exact Or.inr (Or.inl rfl) | exact Or.inr (Or.inr rfl)) (hd : (x == ("__debug__" : Str)) = false := by decide)
    (hcd : (x == ("__classdict__" : Str)) = false := by decide) : JE X B (.Name x pos) (dVar i) := PE.imp (pe_var hN hv hd hcd) fun σ H Q h => by
  obtain ⟨sl, C, Qd, rs, rl, ⟨d, e, q⟩, k⟩ := h
  obtain ⟨v, e1, r⟩ := rs.get e
  exact ⟨v, e1, k v d H C (Stp.refl H C) rl r q⟩
theorem j_const {e : Expr} {v : V} (d : D) (h : PE X e (tC v)) (r : ∀ K H, Rep K H d v) : JE X B e (dC d) := PE.imp h fun σ H Q h => by
  obtain ⟨sl, C, Qd, rs, rl, q, k⟩ := h
  exact k v d H C (Stp.refl H C) rl (r _ _) q
theorem j_int {i j pos} : JE X B (.Constant (.int i) j pos) (dC (.int i)) := j_const _ pe_int fun _ _ => rfl
theorem j_bl {i j pos} : JE X B (.Constant (.bool i) j pos) (dC (.bl i)) := j_const _ pe_bl fun _ _ => rfl
theorem j_non {j pos} : JE X B (.Constant .none j pos) (dC .non) := j_const _ pe_non fun _ _ => rfl
/-- a text by its signs' numbers -/
theorem j_str {x : Str} {j pos} (l : List Nat) (h : x = ⟨l.toArray⟩ := by decide +kernel) : JE X B (.Constant (.str x) j pos) (dC (.str l)) := j_const _ pe_str fun _ _ => by
  show V.str x = _
  rw [h]
theorem j_globI {x : Str} {i : Int} {t : Tok} {pos : Pos} (hm : X.mg x = some (.int i t)) (hg : Gl X x := by rfl) (hd : (x == ("__debug__" : Str)) = false := by decide) : JE X B (.Name x pos) (dC (.int i)) := j_const _ (pe_glob (v := .int i) hg hm ⟨t, rfl⟩ hd) fun _ _ => rfl
theorem j_globS {x : Str} {z : Str} {t : Tok} {pos : Pos} (l : List Nat) (hm : X.mg x = some (.str z t)) (h : z = ⟨l.toArray⟩ := by decide +kernel) (hg : Gl X x := by rfl) (hd : (x == ("__debug__" : Str)) = false := by decide) : JE X B (.Name x pos) (dC (.str l)) := j_const _ (pe_glob (v := .str z) hg hm ⟨t, rfl⟩ hd) fun _ _ => by
  show V.str z = _
  rw [h]
end
end KB

/-! KB1: == of data. -/
namespace KB
open PySem PySem.Spec PyProof.Rows L2 SeqAt
mutual
def eqD : D → D → Bool
  | .non, .non => true
  | .bl a, .bl b => a == b
  | .bl a, .int j => (if a then 1 else 0) == j
  | .int i, .bl b => i == (if b then 1 else 0)
  | .int i, .int j => i == j
  | .str x, .str y => x == y
  | .tup xs, .tup ys => eqDs xs ys
  | _, _ => false
def eqDs : List D → List D → Bool
  | [], [] => true
  | x :: xs, y :: ys => eqD x y && eqDs xs ys
  | _, _ => false
end
mutual
/-- how deep; no places within -/
def dep : D → Nat
  | .tup xs => deps xs + 1
  | _ => 0
def deps : List D → Nat
  | [] => 0
  | x :: xs => max (dep x) (deps xs)
end
mutual
def npt : D → Bool
  | .tup xs => npts xs
  | .ptr _ => false
  | .ty _ => false
  | _ => true
def npts : List D → Bool
  | [] => true
  | x :: xs => npt x && npts xs
end
theorem deps_mem : ∀ {ds : List D} {d : D}, d ∈ ds → dep d ≤ deps ds
  | x :: xs, d, h => by
    unfold deps
    rcases List.mem_cons.mp h with rfl | h
    · omega
    · have := deps_mem h
      omega
theorem npts_mem : ∀ {ds : List D} {d : D}, npts ds = true → d ∈ ds → npt d = true
  | x :: xs, d, e, h => by
    unfold npts at e
    rw [Bool.and_eq_true] at e
    rcases List.mem_cons.mp h with rfl | h
    · exact e.1
    · exact npts_mem e.2 h
theorem npts_of : ∀ {ds : List D}, (∀ d ∈ ds, npt d = true) → npts ds = true
  | [], _ => rfl
  | x :: xs, h => by
    unfold npts
    rw [h x (by simp), npts_of fun d m => h d (by simp [m])]
    rfl
theorem deps_of : ∀ {ds : List D} {n : Nat}, (∀ d ∈ ds, dep d ≤ n) → deps ds ≤ n
  | [], _, _ => Nat.zero_le _
  | x :: xs, n, h => by
    unfold deps
    have h1 := h x List.mem_cons_self
    have h2 := deps_of fun d m => h d (List.mem_cons_of_mem _ m)
    omega
/-- what the tuples' rule tells is eqDs -/
theorem range_all_cons {f : Nat → Bool} {n : Nat} : (List.range (n + 1)).all f = (f 0 && (List.range n).all fun j => f (j + 1)) := by
  rw [List.range_succ_eq_map, List.all_cons, List.all_map]
  rfl
theorem eqDs_at : ∀ (ds es : List D), ((List.range (min ds.length es.length)).all (fun j => eqD (ds.getD j .non) (es.getD j .non)) && ds.length == es.length) = eqDs ds es
  | [], [] => rfl
  | [], _ :: _ => by
    unfold eqDs
    simp
  | _ :: _, [] => by
    unfold eqDs
    simp
  | x :: xs, y :: ys => by
    have ih := eqDs_at xs ys
    unfold eqDs
    rw [← ih, List.length_cons, List.length_cons, Nat.add_min_add_right, range_all_cons, Bool.and_assoc]
    have e : (xs.length + 1 == ys.length + 1) = (xs.length == ys.length) := by
      by_cases h : xs.length = ys.length
      · simp [h]
      · simp [h]
    rw [e]
    rfl
theorem getV_of {ds : List D} {vs : List V} {us : List Value} {K : PySem.W.Frag} {H : Hp} (r : Reps K H ds vs) (q : Vals vs us) {j : Nat} (h : j < us.length) : ∃ v, Rep K H (ds.getD j .non) v ∧ RelV v us[j] ∧ ds.getD j .non ∈ ds := by
  have hl : j < ds.length := by rw [r.length, q.length]; exact h
  obtain ⟨v, e1, e2⟩ := r.get (i := j) (d := ds[j]) (List.getElem?_eq_getElem hl)
  obtain ⟨u, e3, e4⟩ := q.get e1
  rw [List.getElem?_eq_getElem h] at e3
  cases e3
  have : ds.getD j .non = ds[j] := by rw [List.getD_eq_getElem?_getD, List.getElem?_eq_getElem hl]; rfl
  rw [this]
  exact ⟨v, e2, e4, List.getElem_mem hl⟩
section
variable {X : Cx} {pins : List (Addr × Obj)} {σ : L2.St} {H : Hp} {s : Shared}
theorem sOf_inj {x y : List Nat} (h : (⟨x.toArray⟩ : Str) = ⟨y.toArray⟩) : x = y := by simpa using congrArg Array.toList (congrArg Str.cps h)
mutual
theorem eqD_self : ∀ d : D, npt d = true → eqD d d = true
  | .non, _ => rfl
  | .bl b, _ => by unfold eqD; simp
  | .int i, _ => by unfold eqD; simp
  | .str l, _ => by unfold eqD; simp
  | .tup ds, h => by
    unfold eqD
    exact eqDs_self ds h
  | .ptr _, h => by unfold npt at h; cases h
  | .ty _, h => by unfold npt at h; cases h
theorem eqDs_self : ∀ ds : List D, npts ds = true → eqDs ds ds = true
  | [], _ => rfl
  | x :: xs, h => by
    unfold npts at h
    rw [Bool.and_eq_true] at h
    unfold eqDs
    rw [eqD_self x h.1, eqDs_self xs h.2]
    rfl
end
mutual
theorem rep_inj (I : Inv X pins σ H s) : ∀ (d e : D) (v : V), npt d = true → npt e = true → Rep X.K H d v → Rep X.K H e v → d = e
  | d, .ptr _, v, _, h, _, _ => by unfold npt at h; cases h
  | d, .ty _, v, _, h, _, _ => by unfold npt at h; cases h
  | .ptr _, _, v, h, _, _, _ => by unfold npt at h; cases h
  | .ty _, _, v, h, _, _, _ => by unfold npt at h; cases h
  | .non, e, v, _, _, h1, h2 => by
    cases h1
    cases e <;> first | rfl | (cases h2; done) | (obtain ⟨_, _, q, _⟩ := h2; cases q)
  | .bl b, e, v, _, _, h1, h2 => by
    cases h1
    cases e <;> first | (cases h2; rfl) | (cases h2; done) | (obtain ⟨_, _, q, _⟩ := h2; cases q)
  | .int b, e, v, _, _, h1, h2 => by
    cases h1
    cases e <;> first | (cases h2; rfl) | (cases h2; done) | (obtain ⟨_, _, q, _⟩ := h2; cases q)
  | .str b, e, v, _, _, h1, h2 => by
    cases h1
    cases e with
    | str c =>
      have h2 : V.str ⟨b.toArray⟩ = V.str ⟨c.toArray⟩ := h2
      rw [sOf_inj (V.str.inj h2)]
    | tup es => obtain ⟨_, _, q, _⟩ := h2; cases q
    | _ => cases h2
  | .tup ds, .tup es, v, n1, n2, h1, h2 => by
    obtain ⟨a, vs, rfl, q1, r1⟩ := h1
    obtain ⟨b, ws, e, q2, r2⟩ := h2
    cases e
    have := I.tuple_inj q1 q2
    subst this
    rw [reps_inj I ds es vs n1 n2 r1 r2]
  | .tup ds, .non, v, n1, n2, h1, h2 => by obtain ⟨_, _, rfl, _⟩ := h1; cases h2
  | .tup ds, .bl _, v, n1, n2, h1, h2 => by obtain ⟨_, _, rfl, _⟩ := h1; cases h2
  | .tup ds, .int _, v, n1, n2, h1, h2 => by obtain ⟨_, _, rfl, _⟩ := h1; cases h2
  | .tup ds, .str _, v, n1, n2, h1, h2 => by obtain ⟨_, _, rfl, _⟩ := h1; cases h2
theorem reps_inj (I : Inv X pins σ H s) : ∀ (ds es : List D) (vs : List V), npts ds = true → npts es = true → Reps X.K H ds vs → Reps X.K H es vs → ds = es
  | [], [], _, _, _, _, _ => rfl
  | [], _ :: _, vs, _, _, h1, h2 => by
    cases h1
    obtain ⟨_, _, q, _⟩ := h2
    cases q
  | _ :: _, [], vs, _, _, h1, h2 => by
    cases h2
    obtain ⟨_, _, q, _⟩ := h1
    cases q
  | d :: ds, e :: es, vs, n1, n2, h1, h2 => by
    unfold npts at n1 n2
    rw [Bool.and_eq_true] at n1 n2
    obtain ⟨v, r, rfl, a1, t1⟩ := h1
    obtain ⟨w, r2, q, a2, t2⟩ := h2
    cases q
    rw [rep_inj I d e v n1.1 n2.1 a1 a2, reps_inj I ds es r n1.2 n2.2 t1 t2]
end
theorem sarr_eq (x y : List Nat) : ((⟨x.toArray⟩ : Str) == ⟨y.toArray⟩) = (x == y) := by
  have : ((⟨x.toArray⟩ : Str) == ⟨y.toArray⟩) = (x.toArray == y.toArray) := by
    rw [Bool.eq_iff_iff, beq_iff_eq, beq_iff_eq]
    exact ⟨fun h => congrArg Str.cps h, fun h => by rw [h]⟩
  rw [this, Bool.eq_iff_iff, beq_iff_eq, beq_iff_eq]
  exact ⟨fun h => by simpa using congrArg Array.toList h, fun h => by rw [h]⟩
/-- == of data -/
theorem eqAt_D (I : Inv X pins σ H s) : ∀ (n : Nat) (d e : D) (A : Around) (x y : V) (u w : Value), dep d ≤ n → npt d = true → npt e = true → A.units + n < cLine → Rep X.K H d x → Rep X.K H e y → RelV x u → RelV y w → EqAt A s u w (eqD d e) := by
  intro n
  induction n with
  | zero =>
    intro d e A x y u w hd nd ne hA rd re ru rw'
    cases d with
    | tup ds => unfold dep at hd; omega
    | ptr a => exact absurd nd (by unfold npt; decide)
    | ty a => exact absurd nd (by unfold npt; decide)
    | non =>
      cases rd; cases ru
      cases e with
      | non => cases re; cases rw'; exact EqAt.same _
      | bl b => cases re; cases rw'; exact EqAt.none_bool b
      | int i => cases re; obtain ⟨t, rfl⟩ := rw'; exact EqAt.none_int i t
      | str l => cases re; obtain ⟨t, rfl⟩ := rw'; exact EqAt.none_str _ t
      | tup es =>
        obtain ⟨a, vs, rfl, hq, _⟩ := re
        cases rw'
        obtain ⟨its, _, p, _⟩ := I.tuple hq
        exact EqAt.none_tuple p (by omega)
      | ptr a => exact absurd ne (by unfold npt; decide)
      | ty a => exact absurd ne (by unfold npt; decide)
    | bl k =>
      cases rd; cases ru
      cases e with
      | non => cases re; cases rw'; exact EqAt.bool_none _
      | bl b => cases re; cases rw'; exact EqAt.bool_bool _ b
      | int i => cases re; obtain ⟨t, rfl⟩ := rw'; exact EqAt.bool_int _ i t
      | str l => cases re; obtain ⟨t, rfl⟩ := rw'; exact EqAt.bool_str _ _ t
      | tup es =>
        obtain ⟨a, vs, rfl, hq, _⟩ := re
        cases rw'
        obtain ⟨its, _, p, _⟩ := I.tuple hq
        exact EqAt.bool_tuple _ p (by omega)
      | ptr a => exact absurd ne (by unfold npt; decide)
      | ty a => exact absurd ne (by unfold npt; decide)
    | int k =>
      cases rd; obtain ⟨t0, rfl⟩ := ru
      cases e with
      | non => cases re; cases rw'; exact EqAt.int_none _ _
      | bl b => cases re; cases rw'; exact EqAt.int_bool _ _ b
      | int i => cases re; obtain ⟨t, rfl⟩ := rw'; exact EqAt.int_int _ _ i t
      | str l => cases re; obtain ⟨t, rfl⟩ := rw'; exact EqAt.int_str _ _ _ t
      | tup es =>
        obtain ⟨a, vs, rfl, hq, _⟩ := re
        cases rw'
        obtain ⟨its, _, p, _⟩ := I.tuple hq
        exact EqAt.int_tuple _ _ p (by omega)
      | ptr a => exact absurd ne (by unfold npt; decide)
      | ty a => exact absurd ne (by unfold npt; decide)
    | str k =>
      cases rd; obtain ⟨t0, rfl⟩ := ru
      cases e with
      | non => cases re; cases rw'; exact EqAt.str_none _ _
      | bl b => cases re; cases rw'; exact EqAt.str_bool _ _ b
      | int i => cases re; obtain ⟨t, rfl⟩ := rw'; exact EqAt.str_int _ _ i t
      | str l =>
        cases re; obtain ⟨t, rfl⟩ := rw'
        have h := EqAt.str_str (A := A) (s := s) ⟨k.toArray⟩ t0 ⟨l.toArray⟩ t
        rw [sarr_eq] at h
        exact h
      | tup es =>
        obtain ⟨a, vs, rfl, hq, _⟩ := re
        cases rw'
        obtain ⟨its, _, p, _⟩ := I.tuple hq
        exact EqAt.str_tuple _ _ p (by omega)
      | ptr a => exact absurd ne (by unfold npt; decide)
      | ty a => exact absurd ne (by unfold npt; decide)
  | succ n ih =>
    intro d e A x y u w hd nd ne hA rd re ru rw'
    cases d with
    | tup ds =>
      have hd : deps ds + 1 ≤ n + 1 := hd
      have nd : npts ds = true := nd
      obtain ⟨a, vs, rfl, hq, hr⟩ := rd
      cases ru
      obtain ⟨its, rv, p, _⟩ := I.tuple hq
      cases e with
      | non => cases re; cases rw'; exact EqAt.tuple_none p (by omega)
      | bl b => cases re; cases rw'; exact EqAt.tuple_bool b p (by omega)
      | int i => cases re; obtain ⟨t, rfl⟩ := rw'; exact EqAt.tuple_int i t p (by omega)
      | str l => cases re; obtain ⟨t, rfl⟩ := rw'; exact EqAt.tuple_str _ t p (by omega)
      | ptr a => exact absurd ne (by unfold npt; decide)
      | ty a => exact absurd ne (by unfold npt; decide)
      | tup es =>
        have ne : npts es = true := ne
        obtain ⟨b, ws, rfl, hq2, hr2⟩ := re
        cases rw'
        obtain ⟨its2, rv2, p2, _⟩ := I.tuple hq2
        have core : RcAt A s (.ref a) (.ref b) (eqDs ds es) := by
          have h := RcAt.tuples (A := A) (s := s) (e := fun j => eqD (ds.getD j .non) (es.getD j .non)) p p2 (by omega) (fun j h1 h2 => by
            have h1 : j < its.length := by simpa using h1
            have h2 : j < its2.length := by simpa using h2
            obtain ⟨v1, a1, a2, a3⟩ := getV_of hr rv h1
            obtain ⟨v2, b1, b2, b3⟩ := getV_of hr2 rv2 h2
            have m1 := deps_mem a3
            exact ih _ _ A.in1 v1 v2 _ _ (by omega) (npts_mem nd a3) (npts_mem ne b3) (by show A.units + 1 + n < cLine; omega) a1 b1 (by simpa using a2) (by simpa using b2))
          have l1 : its.toArray.size = ds.length := by rw [List.size_toArray, ← rv.length, ← hr.length]
          have l2 : its2.toArray.size = es.length := by rw [List.size_toArray, ← rv2.length, ← hr2.length]
          rw [l1, l2, eqDs_at] at h
          exact h
        by_cases hab : a = b
        · subst hab
          -- the same place: the rows are the same
          have hs : vs = ws := I.tuple_inj hq hq2
          subst hs
          have he : ds = es := reps_inj I ds es vs nd ne hr hr2
          subst he
          show EqAt A s _ _ (eqDs ds ds)
          rw [eqDs_self ds nd]
          exact EqAt.same _
        · exact EqAt.of_refs hab core
    | ptr a => exact absurd nd (by unfold npt; decide)
    | ty a => exact absurd nd (by unfold npt; decide)
    | non => exact ih _ _ A x y u w (by unfold dep; omega) nd ne (by omega) rd re ru rw'
    | bl k => exact ih _ _ A x y u w (by unfold dep; omega) nd ne (by omega) rd re ru rw'
    | int k => exact ih _ _ A x y u w (by unfold dep; omega) nd ne (by omega) rd re ru rw'
    | str k => exact ih _ _ A x y u w (by unfold dep; omega) nd ne (by omega) rd re ru rw'
end
end KB

/-! KB2: operators, tests, statements, loops, calls over data. -/
namespace KB
open PySem PySem.Spec PyProof.Rows L2 SeqAt
/-! ### operators by data -/
def lR (K : PySem.W.Frag) (B : Bs) (r : D → D → Cp → DQ → Prop) : R2 := fun x y H Q => ∃ dx dy C Qd, Rep K H dx x ∧ Rep K H dy y ∧ Rl K B H C ∧ r dx dy C Qd ∧ ∀ v d H' C', Stp H C H' C' → Rl K B H' C' → Rep K H' d v → Qd d C' → Q v H'
abbrev OpD (X : Cx) (B : Bs) (f : Value → Value → Sem Value) (r : D → D → Cp → DQ → Prop) : Prop := OpR X f (lR X.K B r)
def lU (K : PySem.W.Frag) (B : Bs) (r : D → Cp → DQ → Prop) : V → Hp → VK → Prop := fun x H Q => ∃ dx C Qd, Rep K H dx x ∧ Rl K B H C ∧ r dx C Qd ∧ ∀ v d H' C', Stp H C H' C' → Rl K B H' C' → Rep K H' d v → Qd d C' → Q v H'
def lC (K : PySem.W.Frag) (B : Bs) (r : List D → Cp → DQ → Prop) : List V → Hp → VK → Prop := fun xs H Q => ∃ ds C Qd, Reps K H ds xs ∧ Rl K B H C ∧ r ds C Qd ∧ ∀ v d H' C', Stp H C H' C' → Rl K B H' C' → Rep K H' d v → Qd d C' → Q v H'
abbrev CallD (X : Cx) (B : Bs) (f : Value) (r : List D → Cp → DQ → Prop) : Prop := CallR X f (lC X.K B r)
def lM (K : PySem.W.Frag) (B : Bs) (r : D → List D → Cp → DQ → Prop) : V → List V → Hp → VK → Prop := fun x xs H Q => ∃ d ds C Qd, Rep K H d x ∧ Reps K H ds xs ∧ Rl K B H C ∧ r d ds C Qd ∧ ∀ v e H' C', Stp H C H' C' → Rl K B H' C' → Rep K H' e v → Qd e C' → Q v H'
abbrev MtD (X : Cx) (B : Bs) (id : String) (r : D → List D → Cp → DQ → Prop) : Prop := MtR X id (lM X.K B r)

def addD : D → D → Cp → DQ → Prop
  | .int a, .int b, C, Q => Q (.int (a + b)) C
  | .str a, .str b, C, Q => a.length + b.length ≤ sizeLine ∧ Q (.str (a ++ b)) C
  | .tup a, .tup b, C, Q => a.length + b.length ≤ sizeLine ∧ Q (.tup (a ++ b)) C
  | .ptr a, .ptr b, C, Q => ∃ xs ys, C a = some (.lst xs) ∧ C b = some (.lst ys) ∧ xs.length + ys.length ≤ sizeLine ∧ ∀ p, C p = none → Q (.ptr p) (up C p (.lst (xs ++ ys)))
  | _, _, _, _ => False
def subD : D → D → Cp → DQ → Prop
  | .int a, .int b, C, Q => Q (.int (a - b)) C
  | _, _, _, _ => False
def mulD : D → D → Cp → DQ → Prop
  | .int a, .int b, C, Q => CMulW a b ∧ Q (.int (a * b)) C
  | .ptr a, .int k, C, Q => ∃ xs, C a = some (.lst xs) ∧ -(2 ^ 63) ≤ k ∧ k < 2 ^ 63 ∧ xs.length * k.toNat ≤ sizeLine ∧ ∀ p, C p = none → Q (.ptr p) (up C p (.lst (List.replicate k.toNat xs).flatten))
  | _, _, _, _ => False
def modD : D → D → Cp → DQ → Prop
  | .int a, .int b, C, Q => 0 < b ∧ Q (.int (a % b)) C
  | _, _, _, _ => False
def fdivD : D → D → Cp → DQ → Prop
  | .int a, .int b, C, Q => CDivW a b ∧ Q (.int (a / b)) C
  | _, _, _, _ => False
def powD : D → D → Cp → DQ → Prop
  | .int a, .int b, C, Q => CPow a b ∧ Q (.int (a ^ b.toNat)) C
  | _, _, _, _ => False
def ltD : D → D → Cp → DQ → Prop
  | .int a, .int b, C, Q => Q (.bl (decide (a < b))) C
  | .str a, .str b, C, Q => Q (.bl (decide (a < b))) C
  | _, _, _, _ => False
def leD : D → D → Cp → DQ → Prop
  | .int a, .int b, C, Q => Q (.bl (decide (a ≤ b))) C
  | .str a, .str b, C, Q => Q (.bl (!decide (b < a))) C
  | _, _, _, _ => False
def gtD : D → D → Cp → DQ → Prop
  | .int a, .int b, C, Q => Q (.bl (decide (b < a))) C
  | .str a, .str b, C, Q => Q (.bl (decide (b < a))) C
  | _, _, _, _ => False
def geD : D → D → Cp → DQ → Prop
  | .int a, .int b, C, Q => Q (.bl (decide (b ≤ a))) C
  | .str a, .str b, C, Q => Q (.bl (!decide (a < b))) C
  | _, _, _, _ => False
/-- what == may be asked of: data without places, of small depth; lists of such -/
def okEq (d : D) : Prop := npt d = true ∧ dep d ≤ 60
def okEqs (ds : List D) : Prop := npts ds = true ∧ deps ds ≤ 60
def isL (C : Cp) (p : Addr) (ds : List D) : Prop := C p = some (.lst ds) ∨ C p = some (.fz ds)
def eqR (neg : Bool) : D → D → Cp → DQ → Prop
  | .ptr p, .ptr q, C, Q => ∃ ds es, isL C p ds ∧ isL C q es ∧ okEqs ds ∧ npts es = true ∧ Q (.bl (if neg then !eqDs ds es else eqDs ds es)) C
  | .ptr p, d, C, Q => ∃ ds, isL C p ds ∧ npt d = true ∧ Q (.bl neg) C
  | d, .ptr p, C, Q => ∃ ds, isL C p ds ∧ npt d = true ∧ Q (.bl neg) C
  | d, e, C, Q => okEq d ∧ npt e = true ∧ Q (.bl (if neg then !eqD d e else eqD d e)) C
theorem isL.sq {K : PySem.W.Frag} {B : Bs} {H : Hp} {C : Cp} (r : Rl K B H C) {p : Addr} {ds : List D} (h : isL C p ds) : ∃ vs, SqL K H p vs ∧ Reps K H ds vs := by
  rcases h with h | h
  · obtain ⟨vs, e, q⟩ := r.ok _ _ h
    exact ⟨vs, .inl (.inl e), q⟩
  · obtain ⟨o, vs, e, q⟩ := r.ok _ _ h
    exact ⟨vs, .inl (.inr ⟨o, e⟩), q⟩
theorem Rl.cells {K : PySem.W.Frag} {B : Bs} {H : Hp} {C : Cp} (r : Rl K B H C) {p : Addr} {ds : List D} (h : C p = some (.lst ds)) : ∃ vs, H p = some (.lst vs) ∧ Reps K H ds vs := r.ok _ _ h
theorem CMulW_small {a b : Int} (h : (-(2 ^ 64) < a ∧ a < 2 ^ 64) ∧ -(2 ^ 64) < b ∧ b < 2 ^ 64) : CMulW a b := wide_mul (a := 64) (b := 64) (by omega) (by omega) (by decide) (by decide) (by decide)
theorem CDivW_small {a b : Int} (h : 0 < b ∧ b < 2 ^ 100) : CDivW a b := wide_div (b := 100) h.1 (by omega) (by decide) (by decide)
section
variable {X : Cx} {B : Bs} {pos : Pos} {a b c : Expr} {ta tb tc : DE}
theorem op_addD : OpD X B (binaryOp .Add) addD := by
  intro pins s σ H x y v u Q I rx ry h
  obtain ⟨dx, dy, C, Qd, r1, r2, rl, h, k⟩ := h
  cases dx with
  | int a =>
    cases dy with
    | int b =>
      cases r1; cases r2
      exact op_add pins s σ H _ _ v u Q I rx ry ⟨_, _, rfl, rfl, k _ (.int (a + b)) H C (Stp.refl _ _) rl rfl h⟩
    | _ => exact False.elim h
  | str a =>
    cases dy with
    | str b =>
      cases r1; cases r2
      refine op_add_str pins s σ H _ _ v u Q I rx ry ⟨_, _, rfl, rfl, ?_, k _ (.str (a ++ b)) H C (Stp.refl _ _) rl ?_ h.2⟩
      · show a.toArray.size + b.toArray.size ≤ sizeLine
        simpa using h.1
      · show V.str _ = V.str _
        congr 1
        exact TL.ext_tl (by rw [TL.tl_append])
    | _ => exact False.elim h
  | tup a =>
    cases dy with
    | tup b =>
      obtain ⟨p, vs, rfl, hp, hr⟩ := r1
      obtain ⟨q, ws, rfl, hq, hr2⟩ := r2
      refine op_catA pins s σ H _ _ v u Q I rx ry ⟨_, _, _, _, rfl, rfl, hp, hq, ?_, fun e => ?_, fun e e2 => ?_, fun e e2 t ht => ?_⟩
      · rw [← hr.length, ← hr2.length]
        exact h.1
      · subst e
        have : a = [] := List.length_eq_zero_iff.mp (by rw [hr.length] <;> rfl)
        subst this
        exact k _ (.tup ([] ++ b)) H C (Stp.refl _ _) rl ⟨_, _, rfl, hq, hr2⟩ h.2
      · subst e2
        have : b = [] := List.length_eq_zero_iff.mp (by rw [hr2.length] <;> rfl)
        subst this
        have h2 := h.2
        rw [List.append_nil] at h2
        exact k _ (.tup a) H C (Stp.refl _ _) rl ⟨_, _, rfl, hp, hr⟩ h2
      · exact k _ (.tup (a ++ b)) _ C (stp_more ht) (rl.more ht) ⟨t, _, rfl, .inl (.inl upd_same), (hr.append hr2).mono (tx_new ht)⟩ h.2
    | _ => exact False.elim h
  | ptr a =>
    cases dy with
    | ptr b =>
      cases r1; cases r2
      obtain ⟨xs, ys, ha, hb, hz, h⟩ := h
      obtain ⟨vs, e1, q1⟩ := rl.cells ha
      obtain ⟨ws, e2, q2⟩ := rl.cells hb
      refine op_cat pins s σ H _ _ v u Q I rx ry ⟨_, _, _, _, rfl, rfl, e1, e2, ?_, fun p hp => ?_⟩
      · rw [← q1.length, ← q2.length]
        exact hz
      · exact k _ (.ptr p) _ (up C p (.lst (xs ++ ys))) (stp_put (by rw [hp]; exact id) (.inr hp)) (rl.putNew hp ⟨_, upd_same, (q1.append q2).mono (tx_new hp)⟩) rfl (h p (rl.fresh hp))
    | _ => exact False.elim h
  | _ => exact False.elim h
theorem opI_D {f : Value → Value → Sem Value} {Cn : Int → Int → Prop} {g : Int → Int → V} {g' : Int → Int → D} (hr : OpR X f (rI Cn g)) (hg : ∀ i j K H, Rep K H (g' i j) (g i j)) {i j : Int} {pins : List (Addr × Obj)} {s : Shared} {σ : L2.St} {H : Hp} {C : Cp} {v u : Value} {Q : VK} {Qd : DQ}
    (I : Inv X pins σ H s) (rx : RelV (.int i) v) (ry : RelV (.int j) u) (rl : Rl X.K B H C) (hc : Cn i j) (h : Qd (g' i j) C) (k : ∀ v d H' C', Stp H C H' C' → Rl X.K B H' C' → Rep X.K H' d v → Qd d C' → Q v H') : wpAny (model X.prog X.w) X.A (f v u) (EP X pins σ Q) X.xe s :=
  hr pins s σ H _ _ v u Q I rx ry ⟨_, _, rfl, rfl, hc, k _ (g' i j) H C (Stp.refl _ _) rl (hg _ _ _ _) h⟩
theorem op_subD : OpD X B (binaryOp .Sub) subD := by
  intro pins s σ H x y v u Q I rx ry h
  obtain ⟨dx, dy, C, Qd, r1, r2, rl, h, k⟩ := h
  cases dx with
  | int a =>
    cases dy with
    | int b =>
      cases r1; cases r2
      exact op_sub pins s σ H _ _ v u Q I rx ry ⟨_, _, rfl, rfl, k _ (.int (a - b)) H C (Stp.refl _ _) rl rfl h⟩
    | _ => exact False.elim h
  | _ => exact False.elim h
theorem op_mulD : OpD X B (binaryOp .Mult) mulD := by
  intro pins s σ H x y v u Q I rx ry h
  obtain ⟨dx, dy, C, Qd, r1, r2, rl, h, k⟩ := h
  cases dx with
  | int a =>
    cases dy with
    | int b =>
      cases r1; cases r2
      exact opI_D (g' := fun i j => .int (i * j)) op_mulW (fun _ _ _ _ => rfl) I rx ry rl h.1 h.2 k
    | _ => exact False.elim h
  | ptr a =>
    cases dy with
    | int b =>
      cases r1; cases r2
      obtain ⟨xs, ha, h1, h2, h3, h⟩ := h
      obtain ⟨vs, e1, q1⟩ := rl.cells ha
      refine op_rep pins s σ H _ _ v u Q I rx ry ⟨_, _, _, rfl, rfl, e1, h1, h2, by rw [← q1.length]; exact h3, fun p hp => ?_⟩
      have q2 : ∀ n : Nat, Reps X.K H (List.replicate n xs).flatten (List.replicate n vs).flatten := by
        intro n
        induction n with
        | zero => exact .nil
        | succ n ih =>
          rw [List.replicate_succ, List.replicate_succ, List.flatten_cons, List.flatten_cons]
          exact q1.append ih
      exact k _ (.ptr p) _ (up C p (.lst _)) (stp_put (by rw [hp]; exact id) (.inr hp)) (rl.putNew hp ⟨_, upd_same, (q2 _).mono (tx_new hp)⟩) rfl (h p (rl.fresh hp))
    | _ => exact False.elim h
  | _ => exact False.elim h
theorem op_modD : OpD X B (binaryOp .Mod) modD := by
  intro pins s σ H x y v u Q I rx ry h
  obtain ⟨dx, dy, C, Qd, r1, r2, rl, h, k⟩ := h
  cases dx with
  | int a =>
    cases dy with
    | int b =>
      cases r1; cases r2
      exact opI_D (g' := fun i j => .int (i % j)) op_mod (fun _ _ _ _ => rfl) I rx ry rl h.1 h.2 k
    | _ => exact False.elim h
  | _ => exact False.elim h
theorem op_fdivD : OpD X B (binaryOp .FloorDiv) fdivD := by
  intro pins s σ H x y v u Q I rx ry h
  obtain ⟨dx, dy, C, Qd, r1, r2, rl, h, k⟩ := h
  cases dx with
  | int a =>
    cases dy with
    | int b =>
      cases r1; cases r2
      exact opI_D (g' := fun i j => .int (i / j)) op_fdivW (fun _ _ _ _ => rfl) I rx ry rl h.1 h.2 k
    | _ => exact False.elim h
  | _ => exact False.elim h
theorem op_powD : OpD X B (binaryOp .Pow) powD := by
  intro pins s σ H x y v u Q I rx ry h
  obtain ⟨dx, dy, C, Qd, r1, r2, rl, h, k⟩ := h
  cases dx with
  | int a =>
    cases dy with
    | int b =>
      cases r1; cases r2
      exact opI_D (g' := fun i j => .int (i ^ j.toNat)) op_pow (fun _ _ _ _ => rfl) I rx ry rl h.1 h.2 k
    | _ => exact False.elim h
  | _ => exact False.elim h
theorem op_ltD : OpD X B (compareOp .Lt) ltD := by
  intro pins s σ H x y v u Q I rx ry h
  obtain ⟨dx, dy, C, Qd, r1, r2, rl, h, k⟩ := h
  cases dx with
  | int a =>
    cases dy with
    | int b =>
      cases r1; cases r2
      exact op_lt pins s σ H _ _ v u Q I rx ry ⟨_, _, rfl, rfl, k _ (.bl _) H C (Stp.refl _ _) rl rfl h⟩
    | _ => exact False.elim h
  | str a =>
    cases dy with
    | str b =>
      cases r1; cases r2
      exact op_lt_str pins s σ H _ _ v u Q I rx ry ⟨_, _, rfl, rfl, k _ (.bl (decide (a < b))) H C (Stp.refl _ _) rl rfl h⟩
    | _ => exact False.elim h
  | _ => exact False.elim h
theorem op_leD : OpD X B (compareOp .LtE) leD := by
  intro pins s σ H x y v u Q I rx ry h
  obtain ⟨dx, dy, C, Qd, r1, r2, rl, h, k⟩ := h
  cases dx with
  | int a =>
    cases dy with
    | int b =>
      cases r1; cases r2
      exact op_le pins s σ H _ _ v u Q I rx ry ⟨_, _, rfl, rfl, k _ (.bl _) H C (Stp.refl _ _) rl rfl h⟩
    | _ => exact False.elim h
  | str a =>
    cases dy with
    | str b =>
      cases r1; cases r2
      exact op_le_str pins s σ H _ _ v u Q I rx ry ⟨_, _, rfl, rfl, k _ (.bl (!decide (b < a))) H C (Stp.refl _ _) rl rfl h⟩
    | _ => exact False.elim h
  | _ => exact False.elim h
theorem op_gtD : OpD X B (compareOp .Gt) gtD := by
  intro pins s σ H x y v u Q I rx ry h
  obtain ⟨dx, dy, C, Qd, r1, r2, rl, h, k⟩ := h
  cases dx with
  | int a =>
    cases dy with
    | int b =>
      cases r1; cases r2
      exact op_gt pins s σ H _ _ v u Q I rx ry ⟨_, _, rfl, rfl, k _ (.bl _) H C (Stp.refl _ _) rl rfl h⟩
    | _ => exact False.elim h
  | str a =>
    cases dy with
    | str b =>
      cases r1; cases r2
      exact op_gt_str pins s σ H _ _ v u Q I rx ry ⟨_, _, rfl, rfl, k _ (.bl (decide (b < a))) H C (Stp.refl _ _) rl rfl h⟩
    | _ => exact False.elim h
  | _ => exact False.elim h
theorem op_geD : OpD X B (compareOp .GtE) geD := by
  intro pins s σ H x y v u Q I rx ry h
  obtain ⟨dx, dy, C, Qd, r1, r2, rl, h, k⟩ := h
  cases dx with
  | int a =>
    cases dy with
    | int b =>
      cases r1; cases r2
      exact op_ge pins s σ H _ _ v u Q I rx ry ⟨_, _, rfl, rfl, k _ (.bl _) H C (Stp.refl _ _) rl rfl h⟩
    | _ => exact False.elim h
  | str a =>
    cases dy with
    | str b =>
      cases r1; cases r2
      exact op_ge_str pins s σ H _ _ v u Q I rx ry ⟨_, _, rfl, rfl, k _ (.bl (!decide (a < b))) H C (Stp.refl _ _) rl rfl h⟩
    | _ => exact False.elim h
  | _ => exact False.elim h
end
end KB

/-! KB3: == and != as operators. -/
namespace KB
open PySem PySem.Spec PyProof.Rows SeqAt
open L2 hiding op_eqD op_neD
section
variable {X : Cx} {pins : List (Addr × Obj)} {σ : L2.St} {H : Hp} {s : Shared}
theorem RcAt_D (I : L2.Inv X pins σ H s) (d e : D) (A : Around) (x y : V) (u w : Value) (hd : dep d ≤ 60) (nd : npt d = true) (ne : npt e = true) (hA : A.units + 60 < cLine) (rd : Rep X.K H d x) (re : Rep X.K H e y) (ru : RelV x u) (rw' : RelV y w) : RcAt A s u w (eqD d e) := by
  cases d with
  | ptr a => exact absurd nd (by unfold npt; decide)
  | ty a => exact absurd nd (by unfold npt; decide)
  | non =>
    cases rd; cases ru
    cases e with
    | ptr a => exact absurd ne (by unfold npt; decide)
    | ty a => exact absurd ne (by unfold npt; decide)
    | non =>
      cases re; cases rw'
      exact RcAt.none_none 
    | bl l =>
      cases re; cases rw'
      exact RcAt.none_bool _
    | int l =>
      cases re; obtain ⟨t, rfl⟩ := rw'
      exact RcAt.none_int _ _
    | str l =>
      cases re; obtain ⟨t, rfl⟩ := rw'
      exact RcAt.none_str _ _
    | tup es =>
      have ne : npts es = true := ne
      obtain ⟨b, ws, rfl, hq2, hr2⟩ := re
      cases rw'
      obtain ⟨its2, rv2, p2, _⟩ := I.tuple hq2
      exact RcAt.none_tuple  p2 (by omega)
  | bl k =>
    cases rd; cases ru
    cases e with
    | ptr a => exact absurd ne (by unfold npt; decide)
    | ty a => exact absurd ne (by unfold npt; decide)
    | non =>
      cases re; cases rw'
      exact RcAt.bool_none _
    | bl l =>
      cases re; cases rw'
      exact RcAt.bool_bool _ _
    | int l =>
      cases re; obtain ⟨t, rfl⟩ := rw'
      exact RcAt.bool_int _ _ _
    | str l =>
      cases re; obtain ⟨t, rfl⟩ := rw'
      exact RcAt.bool_str _ _ _
    | tup es =>
      have ne : npts es = true := ne
      obtain ⟨b, ws, rfl, hq2, hr2⟩ := re
      cases rw'
      obtain ⟨its2, rv2, p2, _⟩ := I.tuple hq2
      exact RcAt.bool_tuple _ p2 (by omega)
  | int k =>
    cases rd; obtain ⟨t0, rfl⟩ := ru
    cases e with
    | ptr a => exact absurd ne (by unfold npt; decide)
    | ty a => exact absurd ne (by unfold npt; decide)
    | non =>
      cases re; cases rw'
      exact RcAt.int_none _ _
    | bl l =>
      cases re; cases rw'
      exact RcAt.int_bool _ _ _
    | int l =>
      cases re; obtain ⟨t, rfl⟩ := rw'
      exact RcAt.int_int _ _ _ _
    | str l =>
      cases re; obtain ⟨t, rfl⟩ := rw'
      exact RcAt.int_str _ _ _ _
    | tup es =>
      have ne : npts es = true := ne
      obtain ⟨b, ws, rfl, hq2, hr2⟩ := re
      cases rw'
      obtain ⟨its2, rv2, p2, _⟩ := I.tuple hq2
      exact RcAt.int_tuple _ _ p2 (by omega)
  | str k =>
    cases rd; obtain ⟨t0, rfl⟩ := ru
    cases e with
    | ptr a => exact absurd ne (by unfold npt; decide)
    | ty a => exact absurd ne (by unfold npt; decide)
    | non =>
      cases re; cases rw'
      exact RcAt.str_none _ _
    | bl l =>
      cases re; cases rw'
      exact RcAt.str_bool _ _ _
    | int l =>
      cases re; obtain ⟨t, rfl⟩ := rw'
      exact RcAt.str_int _ _ _ _
    | str l =>
      cases re; obtain ⟨t, rfl⟩ := rw'
      have h := RcAt.str_str (A := A) (s := s) ⟨k.toArray⟩ t0 ⟨l.toArray⟩ t
      rw [sarr_eq] at h
      exact h
    | tup es =>
      have ne : npts es = true := ne
      obtain ⟨b, ws, rfl, hq2, hr2⟩ := re
      cases rw'
      obtain ⟨its2, rv2, p2, _⟩ := I.tuple hq2
      exact RcAt.str_tuple _ _ p2 (by omega)
  | tup ds =>
    have nd : npts ds = true := nd
    have hd : deps ds + 1 ≤ 60 := hd
    obtain ⟨a, vs, rfl, hq, hr⟩ := rd
    cases ru
    obtain ⟨its, rv, p, _⟩ := I.tuple hq
    cases e with
    | ptr a => exact absurd ne (by unfold npt; decide)
    | ty a => exact absurd ne (by unfold npt; decide)
    | non =>
      cases re; cases rw'
      exact RcAt.tuple_none  p (by omega)
    | bl l =>
      cases re; cases rw'
      exact RcAt.tuple_bool _ p (by omega)
    | int l =>
      cases re; obtain ⟨t, rfl⟩ := rw'
      exact RcAt.tuple_int _ _ p (by omega)
    | str l =>
      cases re; obtain ⟨t, rfl⟩ := rw'
      exact RcAt.tuple_str _ _ p (by omega)
    | tup es =>
      have ne : npts es = true := ne
      obtain ⟨b, ws, rfl, hq2, hr2⟩ := re
      cases rw'
      obtain ⟨its2, rv2, p2, _⟩ := I.tuple hq2
      have h := RcAt.tuples (A := A) (s := s) (e := fun j => eqD (ds.getD j .non) (es.getD j .non)) p p2 (by omega) (fun j h1 h2 => by
        have h1 : j < its.length := by simpa using h1
        have h2 : j < its2.length := by simpa using h2
        obtain ⟨v1, a1, a2, a3⟩ := getV_of hr rv h1
        obtain ⟨v2, b1, b2, b3⟩ := getV_of hr2 rv2 h2
        have m1 := deps_mem a3
        exact eqAt_D I 59 _ _ A.in1 v1 v2 _ _ (by omega) (npts_mem nd a3) (npts_mem ne b3) (by show A.units + 1 + 59 < cLine; omega) a1 b1 (by simpa using a2) (by simpa using b2))
      have l1 : its.toArray.size = ds.length := by rw [List.size_toArray, ← rv.length, ← hr.length]
      have l2 : its2.toArray.size = es.length := by rw [List.size_toArray, ← rv2.length, ← hr2.length]
      rw [l1, l2, eqDs_at] at h
      exact h
theorem RcAt_L (I : L2.Inv X pins σ H s) (ds es : List D) (A : Around) (p q : Addr) (hd : deps ds ≤ 60) (nd : npts ds = true) (ne : npts es = true) (hA : A.units + 70 < cLine) (rd : ∃ vs, SqL X.K H p vs ∧ Reps X.K H ds vs) (re : ∃ vs, SqL X.K H q vs ∧ Reps X.K H es vs) : RcAt A s (.ref p) (.ref q) (eqDs ds es) := by
  obtain ⟨vs, hq, hr⟩ := rd
  obtain ⟨ws, hq2, hr2⟩ := re
  obtain ⟨its, rv, pl, _⟩ := I.list hq
  obtain ⟨its2, rv2, pl2, _⟩ := I.list hq2
  have l1 : its.toArray.size = ds.length := by rw [List.size_toArray, ← rv.length, ← hr.length]
  have l2 : its2.toArray.size = es.length := by rw [List.size_toArray, ← rv2.length, ← hr2.length]
  by_cases hl : ds.length = es.length
  · have h := RcAt.lists (A := A) (s := s) (e := fun j => eqD (ds.getD j .non) (es.getD j .non)) pl.isList pl2.isList (by rw [l1, l2, hl]) (by omega) (fun j h1 h2 => by
      have h1 : j < its.length := by simpa using h1
      have h2 : j < its2.length := by simpa using h2
      obtain ⟨v1, a1, a2, a3⟩ := getV_of hr rv h1
      obtain ⟨v2, b1, b2, b3⟩ := getV_of hr2 rv2 h2
      have m1 := deps_mem a3
      exact eqAt_D I 60 _ _ A.in1 v1 v2 _ _ (by omega) (npts_mem nd a3) (npts_mem ne b3) (by show A.units + 1 + 60 < cLine; omega) a1 b1 (by simpa using a2) (by simpa using b2))
    have e := eqDs_at ds es
    rw [← hl, Nat.min_self, beq_self_eq_true, Bool.and_true] at e
    rw [l1, e] at h
    exact h
  · have e : eqDs ds es = false := by
      rw [← eqDs_at, beq_eq_false_iff_ne.mpr hl, Bool.and_false]
    rw [e]
    exact RcAt.lists_lengths pl.isList pl2.isList (by rw [l1, l2]; simpa using hl) (by omega)
theorem RcAt_Ld (I : L2.Inv X pins σ H s) (e : D) (A : Around) (p : Addr) (y : V) (w : Value) (ne : npt e = true) (hA : A.units + 70 < cLine) (rd : ∃ vs, SqL X.K H p vs) (re : Rep X.K H e y) (rw' : RelV y w) : RcAt A s (.ref p) w false := by
  obtain ⟨vs, hq⟩ := rd
  obtain ⟨its, rv, pl, _⟩ := I.list hq
  cases e with
  | ptr a => exact absurd ne (by unfold npt; decide)
  | ty a => exact absurd ne (by unfold npt; decide)
  | non => cases re; cases rw'; exact RcAt.list_none pl.isList (by omega)
  | bl b => cases re; cases rw'; exact RcAt.list_bool b pl.isList (by omega)
  | int i => cases re; obtain ⟨t, rfl⟩ := rw'; exact RcAt.list_int _ _ pl.isList (by omega)
  | str l => cases re; obtain ⟨t, rfl⟩ := rw'; exact RcAt.list_str _ _ pl.isList (by omega)
  | tup es =>
    obtain ⟨b, ws, rfl, hq2, hr2⟩ := re
    cases rw'
    obtain ⟨its2, rv2, p2, _⟩ := I.tuple hq2
    exact RcAt.list_tuple pl.isList p2 (by omega)
theorem RcAt_dL (I : L2.Inv X pins σ H s) (e : D) (A : Around) (p : Addr) (y : V) (w : Value) (ne : npt e = true) (hA : A.units + 70 < cLine) (rd : ∃ vs, SqL X.K H p vs) (re : Rep X.K H e y) (rw' : RelV y w) : RcAt A s w (.ref p) false := by
  obtain ⟨vs, hq⟩ := rd
  obtain ⟨its, rv, pl, _⟩ := I.list hq
  cases e with
  | ptr a => exact absurd ne (by unfold npt; decide)
  | ty a => exact absurd ne (by unfold npt; decide)
  | non => cases re; cases rw'; exact RcAt.none_list pl.isList (by omega)
  | bl b => cases re; cases rw'; exact RcAt.bool_list b pl.isList (by omega)
  | int i => cases re; obtain ⟨t, rfl⟩ := rw'; exact RcAt.int_list _ _ pl.isList (by omega)
  | str l => cases re; obtain ⟨t, rfl⟩ := rw'; exact RcAt.str_list _ _ pl.isList (by omega)
  | tup es =>
    obtain ⟨b, ws, rfl, hq2, hr2⟩ := re
    cases rw'
    obtain ⟨its2, rv2, p2, _⟩ := I.tuple hq2
    exact RcAt.tuple_list p2 pl.isList (by omega)
theorem RcNeAt_D (I : L2.Inv X pins σ H s) (d e : D) (A : Around) (x y : V) (u w : Value) (hd : dep d ≤ 60) (nd : npt d = true) (ne : npt e = true) (hA : A.units + 60 < cLine) (rd : Rep X.K H d x) (re : Rep X.K H e y) (ru : RelV x u) (rw' : RelV y w) : RcNeAt A s u w (!eqD d e) := by
  cases d with
  | ptr a => exact absurd nd (by unfold npt; decide)
  | ty a => exact absurd nd (by unfold npt; decide)
  | non =>
    cases rd; cases ru
    cases e with
    | ptr a => exact absurd ne (by unfold npt; decide)
    | ty a => exact absurd ne (by unfold npt; decide)
    | non =>
      cases re; cases rw'
      exact RcNeAt.none_none 
    | bl l =>
      cases re; cases rw'
      exact RcNeAt.none_bool _
    | int l =>
      cases re; obtain ⟨t, rfl⟩ := rw'
      exact RcNeAt.none_int _ _
    | str l =>
      cases re; obtain ⟨t, rfl⟩ := rw'
      exact RcNeAt.none_str _ _
    | tup es =>
      have ne : npts es = true := ne
      obtain ⟨b, ws, rfl, hq2, hr2⟩ := re
      cases rw'
      obtain ⟨its2, rv2, p2, _⟩ := I.tuple hq2
      exact RcNeAt.none_tuple  p2 (by omega)
  | bl k =>
    cases rd; cases ru
    cases e with
    | ptr a => exact absurd ne (by unfold npt; decide)
    | ty a => exact absurd ne (by unfold npt; decide)
    | non =>
      cases re; cases rw'
      exact RcNeAt.bool_none _
    | bl l =>
      cases re; cases rw'
      exact RcNeAt.bool_bool _ _
    | int l =>
      cases re; obtain ⟨t, rfl⟩ := rw'
      exact RcNeAt.bool_int _ _ _
    | str l =>
      cases re; obtain ⟨t, rfl⟩ := rw'
      exact RcNeAt.bool_str _ _ _
    | tup es =>
      have ne : npts es = true := ne
      obtain ⟨b, ws, rfl, hq2, hr2⟩ := re
      cases rw'
      obtain ⟨its2, rv2, p2, _⟩ := I.tuple hq2
      exact RcNeAt.bool_tuple _ p2 (by omega)
  | int k =>
    cases rd; obtain ⟨t0, rfl⟩ := ru
    cases e with
    | ptr a => exact absurd ne (by unfold npt; decide)
    | ty a => exact absurd ne (by unfold npt; decide)
    | non =>
      cases re; cases rw'
      exact RcNeAt.int_none _ _
    | bl l =>
      cases re; cases rw'
      exact RcNeAt.int_bool _ _ _
    | int l =>
      cases re; obtain ⟨t, rfl⟩ := rw'
      exact RcNeAt.int_int _ _ _ _
    | str l =>
      cases re; obtain ⟨t, rfl⟩ := rw'
      exact RcNeAt.int_str _ _ _ _
    | tup es =>
      have ne : npts es = true := ne
      obtain ⟨b, ws, rfl, hq2, hr2⟩ := re
      cases rw'
      obtain ⟨its2, rv2, p2, _⟩ := I.tuple hq2
      exact RcNeAt.int_tuple _ _ p2 (by omega)
  | str k =>
    cases rd; obtain ⟨t0, rfl⟩ := ru
    cases e with
    | ptr a => exact absurd ne (by unfold npt; decide)
    | ty a => exact absurd ne (by unfold npt; decide)
    | non =>
      cases re; cases rw'
      exact RcNeAt.str_none _ _
    | bl l =>
      cases re; cases rw'
      exact RcNeAt.str_bool _ _ _
    | int l =>
      cases re; obtain ⟨t, rfl⟩ := rw'
      exact RcNeAt.str_int _ _ _ _
    | str l =>
      cases re; obtain ⟨t, rfl⟩ := rw'
      have h := RcNeAt.str_str (A := A) (s := s) ⟨k.toArray⟩ t0 ⟨l.toArray⟩ t
      rw [sarr_eq] at h
      exact h
    | tup es =>
      have ne : npts es = true := ne
      obtain ⟨b, ws, rfl, hq2, hr2⟩ := re
      cases rw'
      obtain ⟨its2, rv2, p2, _⟩ := I.tuple hq2
      exact RcNeAt.str_tuple _ _ p2 (by omega)
  | tup ds =>
    have nd : npts ds = true := nd
    have hd : deps ds + 1 ≤ 60 := hd
    obtain ⟨a, vs, rfl, hq, hr⟩ := rd
    cases ru
    obtain ⟨its, rv, p, _⟩ := I.tuple hq
    cases e with
    | ptr a => exact absurd ne (by unfold npt; decide)
    | ty a => exact absurd ne (by unfold npt; decide)
    | non =>
      cases re; cases rw'
      exact RcNeAt.tuple_none  p (by omega)
    | bl l =>
      cases re; cases rw'
      exact RcNeAt.tuple_bool _ p (by omega)
    | int l =>
      cases re; obtain ⟨t, rfl⟩ := rw'
      exact RcNeAt.tuple_int _ _ p (by omega)
    | str l =>
      cases re; obtain ⟨t, rfl⟩ := rw'
      exact RcNeAt.tuple_str _ _ p (by omega)
    | tup es =>
      have ne : npts es = true := ne
      obtain ⟨b, ws, rfl, hq2, hr2⟩ := re
      cases rw'
      obtain ⟨its2, rv2, p2, _⟩ := I.tuple hq2
      have h := RcNeAt.tuples (A := A) (s := s) (e := fun j => eqD (ds.getD j .non) (es.getD j .non)) p p2 (by omega) (fun j h1 h2 => by
        have h1 : j < its.length := by simpa using h1
        have h2 : j < its2.length := by simpa using h2
        obtain ⟨v1, a1, a2, a3⟩ := getV_of hr rv h1
        obtain ⟨v2, b1, b2, b3⟩ := getV_of hr2 rv2 h2
        have m1 := deps_mem a3
        exact eqAt_D I 59 _ _ A.in1 v1 v2 _ _ (by omega) (npts_mem nd a3) (npts_mem ne b3) (by show A.units + 1 + 59 < cLine; omega) a1 b1 (by simpa using a2) (by simpa using b2))
      have l1 : its.toArray.size = ds.length := by rw [List.size_toArray, ← rv.length, ← hr.length]
      have l2 : its2.toArray.size = es.length := by rw [List.size_toArray, ← rv2.length, ← hr2.length]
      rw [l1, l2, eqDs_at] at h
      exact h
theorem RcNeAt_L (I : L2.Inv X pins σ H s) (ds es : List D) (A : Around) (p q : Addr) (hd : deps ds ≤ 60) (nd : npts ds = true) (ne : npts es = true) (hA : A.units + 70 < cLine) (rd : ∃ vs, SqL X.K H p vs ∧ Reps X.K H ds vs) (re : ∃ vs, SqL X.K H q vs ∧ Reps X.K H es vs) : RcNeAt A s (.ref p) (.ref q) (!eqDs ds es) := by
  obtain ⟨vs, hq, hr⟩ := rd
  obtain ⟨ws, hq2, hr2⟩ := re
  obtain ⟨its, rv, pl, _⟩ := I.list hq
  obtain ⟨its2, rv2, pl2, _⟩ := I.list hq2
  have l1 : its.toArray.size = ds.length := by rw [List.size_toArray, ← rv.length, ← hr.length]
  have l2 : its2.toArray.size = es.length := by rw [List.size_toArray, ← rv2.length, ← hr2.length]
  by_cases hl : ds.length = es.length
  · have h := RcNeAt.lists (A := A) (s := s) (e := fun j => eqD (ds.getD j .non) (es.getD j .non)) pl.isList pl2.isList (by rw [l1, l2, hl]) (by omega) (fun j h1 h2 => by
      have h1 : j < its.length := by simpa using h1
      have h2 : j < its2.length := by simpa using h2
      obtain ⟨v1, a1, a2, a3⟩ := getV_of hr rv h1
      obtain ⟨v2, b1, b2, b3⟩ := getV_of hr2 rv2 h2
      have m1 := deps_mem a3
      exact eqAt_D I 60 _ _ A.in1 v1 v2 _ _ (by omega) (npts_mem nd a3) (npts_mem ne b3) (by show A.units + 1 + 60 < cLine; omega) a1 b1 (by simpa using a2) (by simpa using b2))
    have e := eqDs_at ds es
    rw [← hl, Nat.min_self, beq_self_eq_true, Bool.and_true] at e
    rw [l1, e] at h
    exact h
  · have e : eqDs ds es = false := by
      rw [← eqDs_at, beq_eq_false_iff_ne.mpr hl, Bool.and_false]
    rw [e]
    exact RcNeAt.lists_lengths pl.isList pl2.isList (by rw [l1, l2]; simpa using hl) (by omega)
theorem RcNeAt_Ld (I : L2.Inv X pins σ H s) (e : D) (A : Around) (p : Addr) (y : V) (w : Value) (ne : npt e = true) (hA : A.units + 70 < cLine) (rd : ∃ vs, SqL X.K H p vs) (re : Rep X.K H e y) (rw' : RelV y w) : RcNeAt A s (.ref p) w true := by
  obtain ⟨vs, hq⟩ := rd
  obtain ⟨its, rv, pl, _⟩ := I.list hq
  cases e with
  | ptr a => exact absurd ne (by unfold npt; decide)
  | ty a => exact absurd ne (by unfold npt; decide)
  | non => cases re; cases rw'; exact RcNeAt.list_none pl.isList (by omega)
  | bl b => cases re; cases rw'; exact RcNeAt.list_bool b pl.isList (by omega)
  | int i => cases re; obtain ⟨t, rfl⟩ := rw'; exact RcNeAt.list_int _ _ pl.isList (by omega)
  | str l => cases re; obtain ⟨t, rfl⟩ := rw'; exact RcNeAt.list_str _ _ pl.isList (by omega)
  | tup es =>
    obtain ⟨b, ws, rfl, hq2, hr2⟩ := re
    cases rw'
    obtain ⟨its2, rv2, p2, _⟩ := I.tuple hq2
    exact RcNeAt.list_tuple pl.isList p2 (by omega)
theorem RcNeAt_dL (I : L2.Inv X pins σ H s) (e : D) (A : Around) (p : Addr) (y : V) (w : Value) (ne : npt e = true) (hA : A.units + 70 < cLine) (rd : ∃ vs, SqL X.K H p vs) (re : Rep X.K H e y) (rw' : RelV y w) : RcNeAt A s w (.ref p) true := by
  obtain ⟨vs, hq⟩ := rd
  obtain ⟨its, rv, pl, _⟩ := I.list hq
  cases e with
  | ptr a => exact absurd ne (by unfold npt; decide)
  | ty a => exact absurd ne (by unfold npt; decide)
  | non => cases re; cases rw'; exact RcNeAt.none_list pl.isList (by omega)
  | bl b => cases re; cases rw'; exact RcNeAt.bool_list b pl.isList (by omega)
  | int i => cases re; obtain ⟨t, rfl⟩ := rw'; exact RcNeAt.int_list _ _ pl.isList (by omega)
  | str l => cases re; obtain ⟨t, rfl⟩ := rw'; exact RcNeAt.str_list _ _ pl.isList (by omega)
  | tup es =>
    obtain ⟨b, ws, rfl, hq2, hr2⟩ := re
    cases rw'
    obtain ⟨its2, rv2, p2, _⟩ := I.tuple hq2
    exact RcNeAt.tuple_list p2 pl.isList (by omega)
end
section
variable {X : Cx} {B : Bs}
theorem op_eqD (hu : X.A.units + 70 < cLine) : OpD X B (compareOp .Eq) (eqR false) := by
  intro pins s σ H x y v u Q I rx ry h
  obtain ⟨dx, dy, C, Qd, r1, r2, rl, h, k⟩ := h
  have fin : ∀ b : Bool, RcAt X.A s v u b → Qd (.bl b) C → wpAny (model X.prog X.w) X.A (compareOp .Eq v u) (EP X pins σ Q) X.xe s := fun b hb hq => hb X.prog X.w _ _ ⟨.bl b, H, I, rfl, k _ (.bl b) H C (Stp.refl _ _) rl rfl hq⟩
  have gen : ∀ dx dy : D, Rep X.K H dx x → Rep X.K H dy y → okEq dx ∧ npt dy = true ∧ Qd (.bl (eqD dx dy)) C → wpAny (model X.prog X.w) X.A (compareOp .Eq v u) (EP X pins σ Q) X.xe s := fun dx dy a b ⟨⟨h1, h2⟩, h3, h4⟩ => fin _ (RcAt_D I dx dy X.A x y v u h2 h1 h3 (by omega) a b rx ry) h4
  cases dx with
  | ptr p =>
    cases r1; cases rx
    cases dy with
    | ptr q =>
      cases r2; cases ry
      obtain ⟨ds, es, h1, h2, ⟨h3, h4⟩, h5, h6⟩ := h
      exact fin _ (RcAt_L I ds es X.A p q h4 h3 h5 hu (h1.sq rl) (h2.sq rl)) h6
    | _ =>
      obtain ⟨ds, h1, h2, h3⟩ := h
      exact fin _ (RcAt_Ld I _ X.A p y u h2 hu (let ⟨vs, q, _⟩ := h1.sq rl; ⟨vs, q⟩) r2 ry) h3
  | _ =>
    cases dy with
    | ptr p =>
      cases r2; cases ry
      obtain ⟨ds, h1, h2, h3⟩ := h
      exact fin _ (RcAt_dL I _ X.A p x v h2 hu (let ⟨vs, q, _⟩ := h1.sq rl; ⟨vs, q⟩) r1 rx) h3
    | _ => exact gen _ _ r1 r2 h
theorem op_neD (hu : X.A.units + 70 < cLine) : OpD X B (compareOp .NotEq) (eqR true) := by
  intro pins s σ H x y v u Q I rx ry h
  obtain ⟨dx, dy, C, Qd, r1, r2, rl, h, k⟩ := h
  have fin : ∀ b : Bool, RcNeAt X.A s v u b → Qd (.bl b) C → wpAny (model X.prog X.w) X.A (compareOp .NotEq v u) (EP X pins σ Q) X.xe s := fun b hb hq => hb X.prog X.w _ _ ⟨.bl b, H, I, rfl, k _ (.bl b) H C (Stp.refl _ _) rl rfl hq⟩
  have gen : ∀ dx dy : D, Rep X.K H dx x → Rep X.K H dy y → okEq dx ∧ npt dy = true ∧ Qd (.bl (!eqD dx dy)) C → wpAny (model X.prog X.w) X.A (compareOp .NotEq v u) (EP X pins σ Q) X.xe s := fun dx dy a b ⟨⟨h1, h2⟩, h3, h4⟩ => fin _ (RcNeAt_D I dx dy X.A x y v u h2 h1 h3 (by omega) a b rx ry) h4
  cases dx with
  | ptr p =>
    cases r1; cases rx
    cases dy with
    | ptr q =>
      cases r2; cases ry
      obtain ⟨ds, es, h1, h2, ⟨h3, h4⟩, h5, h6⟩ := h
      exact fin _ (RcNeAt_L I ds es X.A p q h4 h3 h5 hu (h1.sq rl) (h2.sq rl)) h6
    | _ =>
      obtain ⟨ds, h1, h2, h3⟩ := h
      exact fin _ (RcNeAt_Ld I _ X.A p y u h2 hu (let ⟨vs, q, _⟩ := h1.sq rl; ⟨vs, q⟩) r2 ry) h3
  | _ =>
    cases dy with
    | ptr p =>
      cases r2; cases ry
      obtain ⟨ds, h1, h2, h3⟩ := h
      exact fin _ (RcNeAt_dL I _ X.A p x v h2 hu (let ⟨vs, q, _⟩ := h1.sq rl; ⟨vs, q⟩) r1 rx) h3
    | _ => exact gen _ _ r1 r2 h
end
end KB

/-! KB4: expressions, tests, statements over data. -/
namespace KB
open PySem PySem.Spec PyProof.Rows SeqAt
open L2 hiding op_eqD op_neD
theorem repB {K : PySem.W.Frag} {H : Hp} (b : Bool) : Rep K H (.bl b) (.bl b) := rfl
theorem repI {K : PySem.W.Frag} {H : Hp} (b : Int) : Rep K H (.int b) (.int b) := rfl
theorem repN {K : PySem.W.Frag} {H : Hp} : Rep K H .non .non := rfl
theorem repP {K : PySem.W.Frag} {H : Hp} (p : Addr) : Rep K H (.ptr p) (.ref p) := rfl
theorem repS {K : PySem.W.Frag} {H : Hp} (l : List Nat) : Rep K H (.str l) (.str ⟨l.toArray⟩) := rfl
section
variable {X : Cx} {B : Bs} {pos : Pos} {a b c : Expr} {ta tb tc : DE} {rest : List Expr}
/-! ### operators -/
def dOp (r : D → D → Cp → DQ → Prop) (ta tb : DE) : DE := fun s C Q => ta s C fun x C1 => tb s C1 fun y C2 => r x y C2 Q
theorem op_lift {K : PySem.W.Frag} {r : D → D → Cp → DQ → Prop} {σ : L2.St} {H : Hp} {Q : VK} (h : lE K B (dOp r ta tb) σ H Q) : tOp (lR K B r) (lE K B ta) (lE K B tb) σ H Q := by
  obtain ⟨sl, C, Qd, rs, rl, h, k⟩ := h
  exact ⟨sl, C, _, rs, rl, h, fun x dx H1 C1 st1 rl1 rx h1 => ⟨sl, C1, _, rs.mono st1.tx, rl1, h1, fun y dy H2 C2 st2 rl2 ry h2 => ⟨dx, dy, C2, Qd, rx.mono st2.tx, ry, rl2, h2, fun v d H' C' st => k v d H' C' ((st1.trans st2).trans st)⟩⟩⟩
theorem j_op {op : Operator} {r : D → D → Cp → DQ → Prop} (ho : OpD X B (binaryOp op) r) (ha : JE X B a ta) (hb : JE X B b tb) : JE X B (.BinOp a op b pos) (dOp r ta tb) := PE.imp (pe_op ho ha hb) fun _ _ _ h => op_lift h
theorem j_cmp {op : CmpOp} {r : D → D → Cp → DQ → Prop} (ho : OpD X B (compareOp op) r) (ha : JE X B a ta) (hb : JE X B b tb) (hm : behindInMarks op b = false := by first | exact nobehind _ (by decide) (by decide) | rfl) : JE X B (.Compare a [op] [b] pos) (dOp r ta tb) :=
  PE.imp (pe_cmpR ho ha hb hm) fun _ _ _ h => op_lift h
def dTest (t : DE) : DT := fun s C Q => t s C fun d C1 => ∃ b, d = .bl b ∧ Q b C1
theorem jt_cmp {op : CmpOp} {r : D → D → Cp → DQ → Prop} (ho : OpD X B (compareOp op) r) (ha : JE X B a ta) (hb : JE X B b tb) (hm : behindInMarks op b = false := by first | exact nobehind _ (by decide) (by decide) | rfl) : JT X B (.Compare a [op] [b] pos) (dTest (dOp r ta tb)) :=
  PT.imp (pt_cmpR ho ha hb hm) fun σ H Q h => by
    obtain ⟨sl, C, Qd, rs, rl, h, k⟩ := h
    refine op_lift (Q := fun x H' => ∃ k, x = .bl k ∧ Q k H') ⟨sl, C, _, rs, rl, h, fun v d H' C' st rl' r ⟨b, e, q⟩ => ?_⟩
    subst e
    exact ⟨b, r, k b H' C' st rl' q⟩
def dChain (r r' : D → D → Cp → DQ → Prop) (ta tb tc : DE) : DE := fun s C Q => ta s C fun x C1 => tb s C1 fun y C2 => r x y C2 fun z C3 => ∃ k, z = .bl k ∧ (if k = true then tc s C3 fun w C4 => r' y w C4 Q else Q (.bl false) C3)
theorem chain_lift {K : PySem.W.Frag} {r r' : D → D → Cp → DQ → Prop} {σ : L2.St} {H : Hp} {Q : VK} (h : lE K B (dChain r r' ta tb tc) σ H Q) : tChain (lR K B r) (lR K B r') (lE K B ta) (lE K B tb) (lE K B tc) σ H Q := by
  obtain ⟨sl, C, Qd, rs, rl, h, k⟩ := h
  refine ⟨sl, C, _, rs, rl, h, fun x dx H1 C1 st1 rl1 rx h1 => ⟨sl, C1, _, rs.mono st1.tx, rl1, h1, fun y dy H2 C2 st2 rl2 ry h2 => ⟨dx, dy, C2, _, rx.mono st2.tx, ry, rl2, h2, fun v d H3 C3 st3 rl3 rv ⟨kk, e, q⟩ => ?_⟩⟩⟩
  subst e
  refine ⟨kk, rv, ?_⟩
  cases kk with
  | true => exact ⟨sl, C3, _, rs.mono ((st1.trans st2).trans st3).tx, rl3, q, fun w dw H4 C4 st4 rl4 rw4 h4 => ⟨dy, dw, C4, Qd, ry.mono (st3.trans st4).tx, rw4, rl4, h4, fun v d H' C' st => k v d H' C' ((((st1.trans st2).trans st3).trans st4).trans st)⟩⟩
  | false => exact k _ _ H3 C3 ((st1.trans st2).trans st3) rl3 (repB _) q
theorem j_chain {op op' : CmpOp} {r r' : D → D → Cp → DQ → Prop} (ho : OpD X B (compareOp op) r) (ho' : OpD X B (compareOp op') r') (ha : JE X B a ta) (hb : JE X B b tb) (hc : JE X B c tc) (hm : lastMarks [op, op'] [b, c] = false := by with_unfolding_all rfl) :
    JE X B (.Compare a [op, op'] [b, c] pos) (dChain r r' ta tb tc) := PE.imp (pe_chain ho ho' ha hb hc hm) fun _ _ _ h => chain_lift h
theorem jt_chain {op op' : CmpOp} {r r' : D → D → Cp → DQ → Prop} (ho : OpD X B (compareOp op) r) (ho' : OpD X B (compareOp op') r') (ha : JE X B a ta) (hb : JE X B b tb) (hc : JE X B c tc) (hm : lastMarks [op, op'] [b, c] = false := by with_unfolding_all rfl) :
    JT X B (.Compare a [op, op'] [b, c] pos) (dTest (dChain r r' ta tb tc)) := PT.imp (pt_chain ho ho' ha hb hc hm) fun σ H Q h => by
  obtain ⟨sl, C, Qd, rs, rl, h, k⟩ := h
  refine chain_lift (Q := fun x H' => ∃ k, x = .bl k ∧ Q k H') ⟨sl, C, _, rs, rl, h, fun v d H' C' st rl' r ⟨b, e, q⟩ => ?_⟩
  subst e
  exact ⟨b, r, k b H' C' st rl' q⟩
/-! is None -/
def isNR (neg : Bool) : D → D → Cp → DQ → Prop := fun x y C Q => y = .non ∧ Q (.bl (match x with | .non => !neg | _ => neg)) C
theorem op_isND : OpD X B (compareOp .Is) (isNR false) := by
  intro pins s σ H x y v u Q I rx ry h
  obtain ⟨dx, dy, C, Qd, r1, r2, rl, ⟨e, h⟩, k⟩ := h
  subst e
  cases r2
  refine op_isN pins s σ H x _ v u Q I rx ry ⟨rfl, ?_⟩
  cases dx with
  | tup ds => obtain ⟨a, vs, rfl, _⟩ := r1; exact k _ _ H C (Stp.refl _ _) rl (repB _) h
  | _ => cases r1; exact k _ _ H C (Stp.refl _ _) rl (repB _) h
theorem op_isNND : OpD X B (compareOp .IsNot) (isNR true) := by
  intro pins s σ H x y v u Q I rx ry h
  obtain ⟨dx, dy, C, Qd, r1, r2, rl, ⟨e, h⟩, k⟩ := h
  subst e
  cases r2
  refine op_notN pins s σ H x _ v u Q I rx ry ⟨rfl, ?_⟩
  cases dx with
  | tup ds => obtain ⟨a, vs, rfl, _⟩ := r1; exact k _ _ H C (Stp.refl _ _) rl (repB _) h
  | _ => cases r1; exact k _ _ H C (Stp.refl _ _) rl (repB _) h

/-! ### tests -/
def truD (C : Cp) : D → Bool → Prop
  | .non, k => k = false
  | .bl b, k => k = b
  | .int i, k => k = (i != 0)
  | .str l, k => l.length ≤ sizeLine ∧ k = !l.isEmpty
  | .tup ds, k => k = !ds.isEmpty
  | .ptr p, k => (∃ ds, isL C p ds ∧ k = !ds.isEmpty) ∨ ∃ kvs, C p = some (.dk kvs) ∧ k = !kvs.isEmpty
  | .ty _, _ => False
theorem isEmpty_reps {K : PySem.W.Frag} {H : Hp} {ds : List D} {vs : List V} (r : Reps K H ds vs) : (!ds.isEmpty) = !vs.isEmpty := by
  have := r.length
  cases ds <;> cases vs <;> simp_all
theorem truD_ok {K : PySem.W.Frag} {H : Hp} {C : Cp} (rl : Rl K B H C) {d : D} {x : V} {k : Bool} (r : Rep K H d x) (h : truD C d k) : TruV K x H k := by
  cases d with
  | non => cases r; exact h
  | bl b => cases r; exact h
  | int i => cases r; exact h
  | str l =>
    cases r
    refine ⟨by simpa [Str.length] using h.1, ?_⟩
    rw [h.2]
    cases l with
    | nil => rfl
    | cons x l =>
      show true = (((l.length + 1 : Nat) : Int) != 0)
      symm
      rw [bne_iff_ne]
      omega
  | tup ds =>
    obtain ⟨a, vs, rfl, hq, hr⟩ := r
    have h : k = !ds.isEmpty := h
    exact .inr (.inl ⟨vs, hq, by rw [h, isEmpty_reps hr]⟩)
  | ptr p =>
    cases r
    rcases h with ⟨ds, hl, h⟩ | ⟨kvs, hl, h⟩
    · obtain ⟨vs, hq, hr⟩ := hl.sq rl
      exact .inl ⟨vs, hq, by rw [h, isEmpty_reps hr]⟩
    · obtain ⟨ws, e, q⟩ := rl.ok _ _ hl
      refine .inr (.inr ⟨ws, e, ?_⟩)
      rw [h]
      have := Paired.length q
      cases kvs <;> cases ws <;> simp_all
  | ty _ => exact h.elim
def dTru (t : DE) : DT := fun s C Q => t s C fun d C1 => ∃ k, truD C1 d k ∧ Q k C1
theorem jt_tru (ha : JE X B a ta) (he : ∀ whole, isTrue a X.env whole = (do let v ← whole; standAt a.pos; holding [v] (truthy v)) := by intro _; rfl) : JT X B a (dTru ta) := PT.imp (pt_truth ha he) fun σ H Q h => by
  obtain ⟨sl, C, Qd, rs, rl, h, k⟩ := h
  exact ⟨sl, C, _, rs, rl, h, fun v d H' C' st rl' r ⟨b, t, q⟩ => ⟨b, truD_ok rl' r t, k b H' C' st rl' q⟩⟩
def dAnd (t u : DT) : DT := fun s C Q => t s C fun c C1 => if c = true then u s C1 Q else Q false C1
def dOr (t u : DT) : DT := fun s C Q => t s C fun c C1 => if c = true then Q true C1 else u s C1 Q
def dNot (t : DT) : DT := fun s C Q => t s C fun c C1 => Q (!c) C1
variable {tA tB : DT}
theorem jw_and1 (ha : JT X B a tA) : JW X B (.BoolOp .And [a] pos) tA := pw_and1 ha
theorem jw_or1 (ha : JT X B a tA) : JW X B (.BoolOp .Or [a] pos) tA := pw_or1 ha
theorem jw_and (ha : JT X B a tA) (hb : JW X B (.BoolOp .And (b :: rest) pos) tB) : JW X B (.BoolOp .And (a :: b :: rest) pos) (dAnd tA tB) := PW.imp (pw_and ha hb) fun σ H Q h => by
  obtain ⟨sl, C, Qd, rs, rl, h, k⟩ := h
  refine ⟨sl, C, _, rs, rl, h, fun c H1 C1 st1 rl1 q => ?_⟩
  cases c with
  | true => exact ⟨sl, C1, Qd, rs.mono st1.tx, rl1, q, fun b H' C' st => k b H' C' (st1.trans st)⟩
  | false => exact k _ H1 C1 st1 rl1 q
theorem jw_or (ha : JT X B a tA) (hb : JW X B (.BoolOp .Or (b :: rest) pos) tB) : JW X B (.BoolOp .Or (a :: b :: rest) pos) (dOr tA tB) := PW.imp (pw_or ha hb) fun σ H Q h => by
  obtain ⟨sl, C, Qd, rs, rl, h, k⟩ := h
  refine ⟨sl, C, _, rs, rl, h, fun c H1 C1 st1 rl1 q => ?_⟩
  cases c with
  | false => exact ⟨sl, C1, Qd, rs.mono st1.tx, rl1, q, fun b H' C' st => k b H' C' (st1.trans st)⟩
  | true => exact k _ H1 C1 st1 rl1 q
theorem jt_w (h : JW X B a tA) : JT X B a tA := PW.pt h
theorem jt_not (ha : JT X B a tA) : JT X B (.UnaryOp .Not a pos) (dNot tA) := PT.imp (pt_not ha) fun σ H Q h => by
  obtain ⟨sl, C, Qd, rs, rl, h, k⟩ := h
  exact ⟨sl, C, _, rs, rl, h, fun c H1 C1 st1 rl1 q => k _ H1 C1 st1 rl1 q⟩
/-! as values -/
def dOrT (ta tb : DE) : DE := fun s C Q => ta s C fun x C1 => ∃ k, truD C1 x k ∧ if k = true then Q x C1 else tb s C1 Q
def dAndT (ta tb : DE) : DE := fun s C Q => ta s C fun x C1 => ∃ k, truD C1 x k ∧ if k = true then tb s C1 Q else Q x C1
def dNotT (ta : DE) : DE := fun s C Q => ta s C fun x C1 => ∃ k, truD C1 x k ∧ Q (.bl (!k)) C1
theorem j_one {op} (h : JE X B a ta) : JE X B (.BoolOp op [a] pos) ta := pe_one h
theorem j_or (ha : JE X B a ta) (hb : JE X B (.BoolOp .Or (b :: rest) pos) tb) : JE X B (.BoolOp .Or (a :: b :: rest) pos) (dOrT ta tb) := PE.imp (pe_orT ha hb) fun σ H Q h => by
  obtain ⟨sl, C, Qd, rs, rl, h, k⟩ := h
  refine ⟨sl, C, _, rs, rl, h, fun v d H1 C1 st1 rl1 r ⟨kk, t, q⟩ => ⟨kk, truD_ok rl1 r t, ?_⟩⟩
  cases kk with
  | true => exact k _ _ H1 C1 st1 rl1 r q
  | false => exact ⟨sl, C1, Qd, rs.mono st1.tx, rl1, q, fun v d H' C' st => k v d H' C' (st1.trans st)⟩
theorem j_and (ha : JE X B a ta) (hb : JE X B (.BoolOp .And (b :: rest) pos) tb) : JE X B (.BoolOp .And (a :: b :: rest) pos) (dAndT ta tb) := PE.imp (pe_andT ha hb) fun σ H Q h => by
  obtain ⟨sl, C, Qd, rs, rl, h, k⟩ := h
  refine ⟨sl, C, _, rs, rl, h, fun v d H1 C1 st1 rl1 r ⟨kk, t, q⟩ => ⟨kk, truD_ok rl1 r t, ?_⟩⟩
  cases kk with
  | false => exact k _ _ H1 C1 st1 rl1 r q
  | true => exact ⟨sl, C1, Qd, rs.mono st1.tx, rl1, q, fun v d H' C' st => k v d H' C' (st1.trans st)⟩
theorem j_not (ha : JE X B a ta) : JE X B (.UnaryOp .Not a pos) (dNotT ta) := PE.imp (pe_notT ha) fun σ H Q h => by
  obtain ⟨sl, C, Qd, rs, rl, h, k⟩ := h
  exact ⟨sl, C, _, rs, rl, h, fun v d H1 C1 st1 rl1 r ⟨kk, t, q⟩ => ⟨kk, truD_ok rl1 r t, k _ _ H1 C1 st1 rl1 (repB _) q⟩⟩
def dIfE (t : DT) (ta tb : DE) : DE := fun s C Q => t s C fun c C1 => if c = true then ta s C1 Q else tb s C1 Q
theorem j_ifExp (hc : JT X B c tA) (ha : JE X B a ta) (hb : JE X B b tb) : JE X B (.IfExp c a b pos) (dIfE tA ta tb) := PE.imp (pe_ifExp hc ha hb) fun σ H Q h => by
  obtain ⟨sl, C, Qd, rs, rl, h, k⟩ := h
  refine ⟨sl, C, _, rs, rl, h, fun cc H1 C1 st1 rl1 q => ?_⟩
  cases cc with
  | true => exact ⟨sl, C1, Qd, rs.mono st1.tx, rl1, q, fun v d H' C' st => k v d H' C' (st1.trans st)⟩
  | false => exact ⟨sl, C1, Qd, rs.mono st1.tx, rl1, q, fun v d H' C' st => k v d H' C' (st1.trans st)⟩
def dNeg (ta : DE) : DE := fun s C Q => ta s C fun x C1 => ∃ i, x = .int i ∧ Q (.int (-i)) C1
theorem j_neg (ha : JE X B a ta) : JE X B (.UnaryOp .USub a pos) (dNeg ta) := PE.imp (pe_un un_neg ha) fun σ H Q h => by
  obtain ⟨sl, C, Qd, rs, rl, h, k⟩ := h
  refine ⟨sl, C, _, rs, rl, h, fun v d H1 C1 st1 rl1 r ⟨i, e, q⟩ => ?_⟩
  subst e
  exact ⟨i, r, k _ (.int (-i)) H1 C1 st1 rl1 rfl q⟩

/-! ### arguments, displays -/
def dNil : DA := fun _ C Q => Q [] C
def dCons (t : DE) (u : DA) : DA := fun s C Q => t s C fun x C1 => u s C1 fun xs C2 => Q (x :: xs) C2
variable {es : List Expr} {tr : DA}
theorem jas_nil : JA X B [] dNil := PA.imp pa_nil fun σ H Q h => by
  obtain ⟨sl, C, Qd, rs, rl, h, k⟩ := h
  exact k [] [] H C (Stp.refl _ _) rl rfl h
theorem jas_cons (ha : JE X B a ta) (hr : JA X B es tr) (hs : starEach (a :: es) X.env = (false, eval a X.env) :: starEach es X.env := by rfl) : JA X B (a :: es) (dCons ta tr) := PA.imp (pa_cons ha hr hs) fun σ H Q h => by
  obtain ⟨sl, C, Qd, rs, rl, h, k⟩ := h
  refine ⟨sl, C, _, rs, rl, h, fun v d H1 C1 st1 rl1 r q => ⟨sl, C1, _, rs.mono st1.tx, rl1, q, fun vs ds H2 C2 st2 rl2 r2 q2 => ?_⟩⟩
  exact k _ _ H2 C2 (st1.trans st2) rl2 (.cons (r.mono st2.tx) r2) q2
def dTup (t : DA) : DE := fun s C Q => t s C fun ds C1 => ds.length ≤ 1000 ∧ Q (.tup ds) C1
def dLst (t : DA) : DE := fun s C Q => t s C fun ds C1 => ds.length ≤ 1000 ∧ ∀ p, C1 p = none → Q (.ptr p) (up C1 p (.lst ds))
theorem Rl.newL {K : PySem.W.Frag} {H : Hp} {C : Cp} (rl : Rl K B H C) {p : Addr} {ds : List D} {vs : List V} (hp : H p = none) (r : Reps K H ds vs) : Stp H C (upd H p (.lst vs)) (up C p (.lst ds)) ∧ Rl K B (upd H p (.lst vs)) (up C p (.lst ds)) :=
  ⟨stp_put (by rw [hp]; exact id) (.inr hp), rl.putNew hp ⟨vs, upd_same, r.mono (tx_new hp)⟩⟩
theorem Rl.newT {K : PySem.W.Frag} {H : Hp} {C : Cp} (rl : Rl K B H C) {p : Addr} {ds : List D} {vs : List V} (hp : H p = none) (r : Reps K H ds vs) : Stp H C (upd H p (.tup vs)) C ∧ Rl K B (upd H p (.tup vs)) C ∧ Rep K (upd H p (.tup vs)) (.tup ds) (.ref p) :=
  ⟨stp_more hp, rl.more hp, ⟨p, vs, rfl, .inl (.inl upd_same), r.mono (tx_new hp)⟩⟩
theorem sz1000 {n : Nat} (h : n ≤ 1000) : n ≤ sizeLine := Nat.le_trans h (by decide)
theorem j_tup {x1} (h : JA X B es tr) : JE X B (.Tuple es x1 pos) (dTup tr) := PE.imp (pe_tup h) fun σ H Q h => by
  obtain ⟨sl, C, Qd, rs, rl, h, k⟩ := h
  refine ⟨sl, C, _, rs, rl, h, fun vs ds H1 C1 st1 rl1 r ⟨hz, q⟩ => ⟨by rw [← r.length]; exact sz1000 hz, fun p hp => ?_⟩⟩
  obtain ⟨a1, a2, a3⟩ := rl1.newT hp r
  exact k _ _ _ C1 (st1.trans a1) a2 a3 q
theorem j_lst (h : JA X B es tr) : JE X B (.List es pos) (dLst tr) := PE.imp (pe_lst h) fun σ H Q h => by
  obtain ⟨sl, C, Qd, rs, rl, h, k⟩ := h
  refine ⟨sl, C, _, rs, rl, h, fun vs ds H1 C1 st1 rl1 r ⟨hz, q⟩ => ⟨by rw [← r.length]; exact sz1000 hz, fun p hp => ?_⟩⟩
  obtain ⟨a1, a2⟩ := rl1.newL hp r
  exact k _ _ _ _ (st1.trans a1) a2 (repP p) (q p (rl1.fresh hp))
def dEmp : DE := fun _ C Q => ∀ p, C p = none → Q (.ptr p) (up C p (.dk []))
def dEmpT : DE := fun _ C Q => ∀ p, C p = none → Q (.ptr p) (up C p (.dt []))
theorem j_emp : JE X B (.Dict [] [] pos) dEmp := PE.imp pe_dnewK fun σ H Q h p hp => by
  obtain ⟨sl, C, Qd, rs, rl, h, k⟩ := h
  exact k _ _ _ (up C p (.dk [])) (stp_put (by rw [hp]; exact id) (.inr hp)) (rl.putNew hp ⟨[], upd_same, .nil⟩) (repP p) (h p (rl.fresh hp))
theorem j_empT : JE X B (.Dict [] [] pos) dEmpT := PE.imp pe_dnewT fun σ H Q h p hp => by
  obtain ⟨sl, C, Qd, rs, rl, h, k⟩ := h
  exact k _ _ _ (up C p (.dt [])) (stp_put (by rw [hp]; exact id) (.inr hp)) (rl.putNew hp ⟨[], upd_same, .nil⟩) (repP p) (h p (rl.fresh hp))

/-! ### items, slices -/
def ixD : D → D → Cp → DQ → Prop
  | .tup ds, .int i, C, Q => ∃ d, atI ds i = some d ∧ Q d C
  | .str l, .int i, C, Q => l.length ≤ sizeLine ∧ ∃ c, atI l i = some c ∧ Q (.str [c]) C
  | .ptr p, .int i, C, Q => ∃ ds d, isL C p ds ∧ atI ds i = some d ∧ Q d C
  | _, _, _, _ => False
theorem atI_reps {K : PySem.W.Frag} {H : Hp} {ds : List D} {vs : List V} {i : Int} {d : D} (r : Reps K H ds vs) (h : atI ds i = some d) : ∃ v, atI vs i = some v ∧ Rep K H d v := by
  unfold atI at h ⊢
  rw [← r.length]
  cases e : ixN ds.length i with
  | none => rw [e] at h; cases h
  | some j =>
    rw [e] at h
    obtain ⟨v, e1, e2⟩ := r.get (show ds[j]? = some d from h)
    exact ⟨v, e1, e2⟩
theorem ix_D : IxR X (lR X.K B ixD) := by
  intro value slice pins s σ H x y v u Q I rx ry h hs
  obtain ⟨dx, dy, C, Qd, r1, r2, rl, h, k⟩ := h
  cases dx with
  | tup ds =>
    cases dy with
    | int i =>
      obtain ⟨a, vs, rfl, hq, hr⟩ := r1
      cases r2
      obtain ⟨d, e, q⟩ := h
      obtain ⟨w, e1, e2⟩ := atI_reps hr e
      exact ix_tup value slice pins s σ H _ _ v u Q I rx ry ⟨_, _, _, _, rfl, rfl, hq, e1, k _ d H C (Stp.refl _ _) rl e2 q⟩ hs
    | _ => exact False.elim h
  | str l =>
    cases dy with
    | int i =>
      cases r1; cases r2
      obtain ⟨hz, c, e, q⟩ := h
      exact ix_str value slice pins s σ H _ _ v u Q I rx ry ⟨_, _, c, rfl, rfl, by simpa [Str.length] using hz, e, k _ (.str [c]) H C (Stp.refl _ _) rl rfl q⟩ hs
    | _ => exact False.elim h
  | ptr p =>
    cases dy with
    | int i =>
      cases r1; cases r2
      obtain ⟨ds, d, hl, e, q⟩ := h
      obtain ⟨vs, hq, hr⟩ := hl.sq rl
      obtain ⟨w, e1, e2⟩ := atI_reps hr e
      exact ix_list value slice pins s σ H _ _ v u Q I rx ry ⟨_, _, _, _, rfl, rfl, hq, e1, k _ d H C (Stp.refl _ _) rl e2 q⟩ hs
    | _ => exact False.elim h
  | _ => exact False.elim h
theorem j_ix (ha : JE X B a ta) (hb : JE X B b tb) (hs : PlainIx b := by exact fun _ _ => rfl) : JE X B (.Subscript a b pos) (dOp ixD ta tb) := PE.imp (pe_ix ix_D ha hb hs) fun _ _ _ h => op_lift h
/-! parts -/
abbrev DO := Sl → Cp → (Option Int → Cp → Prop) → Prop
def lO (K : PySem.W.Frag) (B : Bs) (τ : DO) : TO := fun σ H Q => ∃ sl C Qd, RepS K H sl σ ∧ Rl K B H C ∧ τ sl C Qd ∧ ∀ o H' C', Stp H C H' C' → Rl K B H' C' → Qd o C' → Q o H'
abbrev JO (X : Cx) (B : Bs) (e : Option Expr) (τ : DO) : Prop := PO X e (lO X.K B τ)
theorem PO.imp {e : Option Expr} {t t' : TO} (h : PO X e t) (i : ∀ σ H Q, t' σ H Q → t σ H Q) : PO X e t' := ⟨fun pins s σ H Q I q => h.run pins s σ H Q I (i σ H Q q)⟩
def dNoP : DO := fun _ C Q => Q none C
def dPart (t : DE) : DO := fun s C Q => t s C fun x C1 => ∃ i, x = .int i ∧ Q (some i) C1
theorem jo_none : JO X B none dNoP := PO.imp po_none fun σ H Q h => by
  obtain ⟨sl, C, Qd, rs, rl, h, k⟩ := h
  exact k _ H C (Stp.refl _ _) rl h
theorem jo_some (ha : JE X B a ta) : JO X B (some a) (dPart ta) := PO.imp (po_some ha) fun σ H Q h => by
  obtain ⟨sl, C, Qd, rs, rl, h, k⟩ := h
  refine ⟨sl, C, _, rs, rl, h, fun v d H1 C1 st1 rl1 r ⟨i, e, q⟩ => ?_⟩
  subst e
  exact ⟨i, r, k _ H1 C1 st1 rl1 q⟩
def cutL {α : Type} (xs : List α) (lo hi : Option Int) : List α := (xs.drop (HT.sIx xs.length 0 lo)).take (HT.sIx xs.length xs.length hi - HT.sIx xs.length 0 lo)
theorem cutL_whole {α : Type} (xs : List α) {lo hi : Option Int} (h : HT.sIx xs.length 0 lo = 0 ∧ HT.sIx xs.length xs.length hi = xs.length) : cutL xs lo hi = xs := by
  unfold cutL
  rw [h.1, h.2]
  simp
def slD (x : D) (lo hi : Option Int) (C : Cp) (Q : DQ) : Prop := match x with
  | .tup ds => Q (.tup (cutL ds lo hi)) C
  | .str l => l.length ≤ sizeLine ∧ Q (.str (cutL l lo hi)) C
  | .ptr p => ∃ ds, isL C p ds ∧ ∀ q, C q = none → Q (.ptr q) (up C q (.lst (cutL ds lo hi)))
  | _ => False
def lSl (K : PySem.W.Frag) (B : Bs) : V → Option Int → Option Int → Hp → VK → Prop := fun x lo hi H Q => ∃ dx C Qd, Rep K H dx x ∧ Rl K B H C ∧ slD dx lo hi C Qd ∧ ∀ v d H' C', Stp H C H' C' → Rl K B H' C' → Rep K H' d v → Qd d C' → Q v H'
theorem sl_D : SlR X (lSl X.K B) := by
  intro pins s σ H x v vl vu lo hi sl Q I rx hs pl pu h
  obtain ⟨dx, C, Qd, r1, rl, h, k⟩ := h
  cases dx with
  | tup ds =>
    obtain ⟨a, vs, rfl, hq, hr⟩ := r1
    have h : Qd (.tup (cutL ds lo hi)) C := h
    refine sl_tupA pins s σ H _ v vl vu lo hi sl Q I rx hs pl pu ⟨a, vs, rfl, hq, fun e => ?_, fun e p hp => ?_⟩
    · rw [← hr.length] at e
      rw [cutL_whole ds e] at h
      exact k _ (.tup ds) H C (Stp.refl _ _) rl ⟨a, vs, rfl, hq, hr⟩ h
    · have hr2 : Reps X.K H (cutL ds lo hi) (cutV vs lo hi) := by
        unfold cutL cutV
        rw [← hr.length]
        exact (hr.drop _).take _
      obtain ⟨a1, a2, a3⟩ := rl.newT hp hr2
      exact k _ _ _ C a1 a2 a3 h
  | str l =>
    cases r1
    refine sl_str pins s σ H _ v vl vu lo hi sl Q I rx hs pl pu ⟨_, rfl, by simpa [Str.length] using h.1, k _ (.str (cutL l lo hi)) H C (Stp.refl _ _) rl ?_ h.2⟩
    show V.str _ = V.str _
    rfl
  | ptr p =>
    cases r1
    obtain ⟨ds, hl, h⟩ := h
    obtain ⟨vs, hq, hr⟩ := hl.sq rl
    refine sl_list pins s σ H _ v vl vu lo hi sl Q I rx hs pl pu ⟨p, vs, rfl, hq, fun q hqn => ?_⟩
    have hr2 : Reps X.K H (cutL ds lo hi) (cutV vs lo hi) := by
      unfold cutL cutV
      rw [← hr.length]
      exact (hr.drop _).take _
    obtain ⟨a1, a2⟩ := rl.newL hqn hr2
    exact k _ _ _ _ a1 a2 (repP q) (h q (rl.fresh hqn))
  | _ => exact False.elim h
def dSl (te : DE) (tl th : DO) : DE := fun s C Q => te s C fun x C1 => tl s C1 fun l C2 => th s C2 fun u C3 => slD x l u C3 Q
theorem j_slice {lo hi : Option Expr} {tl th : DO} {p2 : Pos} (ha : JE X B a ta) (hl : JO X B lo tl) (hu : JO X B hi th) : JE X B (.Subscript a (.Slice lo hi none p2) pos) (dSl ta tl th) := PE.imp (pe_slice sl_D ha hl hu) fun σ H Q h => by
  obtain ⟨sl, C, Qd, rs, rl, h, k⟩ := h
  exact ⟨sl, C, _, rs, rl, h, fun x dx H1 C1 st1 rl1 rx h1 => ⟨sl, C1, _, rs.mono st1.tx, rl1, h1, fun l H2 C2 st2 rl2 h2 => ⟨sl, C2, _, rs.mono (st1.trans st2).tx, rl2, h2, fun u H3 C3 st3 rl3 h3 => ⟨dx, C3, Qd, rx.mono (st2.trans st3).tx, rl3, h3, fun v d H' C' st => k v d H' C' (((st1.trans st2).trans st3).trans st)⟩⟩⟩⟩

/-! ### statements -/
variable {st : Stmt} {sts : List Stmt} {tS uS : DS}
def dNext : DS := fun D s C => D.nx s C
def dSeq (t u : DS) : DS := fun D s C => t { D with nx := u D } s C
theorem jss_nil : JSs X B [] dNext := PSs.imp pss_nil fun D σ H h => by
  obtain ⟨sl, C, Dd, rs, rl, h, k⟩ := h
  exact k.nx σ sl H C (Stp.refl _ _) rl rs h
theorem EndsOk.seq {K : PySem.W.Frag} {H : Hp} {C : Cp} {Dd : DEnds} {D : Ends} (k : EndsOk K B H C Dd D) (u : DS) : EndsOk K B H C { Dd with nx := u Dd } { D with nx := lS K B u D } :=
  ⟨fun σ sl H' C' st rl rs q => ⟨sl, C', Dd, rs, rl, q, k.mono st⟩, k.rt, k.bk, k.ct⟩
theorem jss_cons (h1 : JS X B st tS) (h2 : JSs X B sts uS) : JSs X B (st :: sts) (dSeq tS uS) := PSs.imp (pss_cons h1 h2) fun D σ H h => by
  obtain ⟨sl, C, Dd, rs, rl, h, k⟩ := h
  exact ⟨sl, C, _, rs, rl, h, k.seq uS⟩
theorem jss_one (h1 : JS X B st tS) : JSs X B [st] tS := PSs.imp (pss_one h1) fun D σ H h => h
def dBreak : DS := fun D s C => D.bk s C
def dCont : DS := fun D s C => D.ct s C
theorem js_pass : JS X B (.Pass pos) dNext := PS.imp ps_pass fun D σ H h => by
  obtain ⟨sl, C, Dd, rs, rl, h, k⟩ := h
  exact k.nx σ sl H C (Stp.refl _ _) rl rs h
theorem js_break : JS X B (.Break pos) dBreak := PS.imp ps_break fun D σ H h => by
  obtain ⟨sl, C, Dd, rs, rl, h, k⟩ := h
  exact k.bk σ sl H C (Stp.refl _ _) rl rs h
theorem js_continue : JS X B (.Continue pos) dCont := PS.imp ps_continue fun D σ H h => by
  obtain ⟨sl, C, Dd, rs, rl, h, k⟩ := h
  exact k.ct σ sl H C (Stp.refl _ _) rl rs h
def dDrop (t : DE) : DS := fun D s C => t s C fun _ C1 => D.nx s C1
theorem js_expr (ha : JE X B a ta) (hs : swapsWith a none pos.line X.env = pure false := by rfl) : JS X B (.Expr a pos) (dDrop ta) := PS.imp (ps_expr ha hs) fun D σ H h => by
  obtain ⟨sl, C, Dd, rs, rl, h, k⟩ := h
  exact ⟨sl, C, _, rs, rl, h, fun v d H1 C1 st1 rl1 r q => k.nx σ sl H1 C1 st1 rl1 (rs.mono st1.tx) q⟩
/-- a def's end: what is not wanted any more may be let go -/
def dRet (t : DE) : DS := fun D s C => t s C D.rt
theorem js_ret (ha : JE X B a ta) : JS X B (.Return (some a) pos) (dRet ta) := PS.imp (ps_ret ha) fun D σ H h => by
  obtain ⟨sl, C, Dd, rs, rl, h, k⟩ := h
  exact ⟨sl, C, _, rs, rl, h, fun v d H1 C1 st1 rl1 r q => k.rt v d H1 C1 st1 rl1 r q⟩
def dIf (c : DT) (t u : DS) : DS := fun D s C => c s C fun b C1 => if b = true then t D s C1 else u D s C1
theorem js_if {p q : List Stmt} (hc : JT X B c tA) (ha : JSs X B p tS) (hb : JSs X B q uS) : JS X B (.If c p q pos) (dIf tA tS uS) := PS.imp (ps_if hc ha hb) fun D σ H h => by
  obtain ⟨sl, C, Dd, rs, rl, h, k⟩ := h
  refine ⟨sl, C, _, rs, rl, h, fun b H1 C1 st1 rl1 q => ?_⟩
  cases b with
  | true => exact ⟨sl, C1, Dd, rs.mono st1.tx, rl1, q, k.mono st1⟩
  | false => exact ⟨sl, C1, Dd, rs.mono st1.tx, rl1, q, k.mono st1⟩
/-- code that is not reached -/
def dNever : DS := fun _ _ _ => False
theorem js_never : JS X B st dNever := PS.imp ps_never fun D σ H h => by
  obtain ⟨sl, C, Dd, rs, rl, h, k⟩ := h
  exact h.elim
theorem jss_never : JSs X B sts dNever := PSs.imp pss_never fun D σ H h => by
  obtain ⟨sl, C, Dd, rs, rl, h, k⟩ := h
  exact h.elim
/-! targets -/
def gNm (i : Nat) : DG := fun d s C Q => Q (s.set i (some d)) C
theorem jg_name {i : Nat} {x : Str} (hN : X.N.Nodup) (hi : X.N[i]? = some x := by rfl) (hx : Loc X.env.scope x := by first | exact .inl rfl | exact .inr rfl) (hf : X.fn x = true ∨ X.env.scope.names.lookup x = some .local := by first | exact .inl rfl | exact .inr rfl | assumption) : JG X B (.Name x pos) (gNm i) := PG.imp (pg_name hN hi hx hf) fun v σ H Q h => by
  obtain ⟨d, sl, C, Qd, r, rs, rl, h, k⟩ := h
  exact k _ _ H C (Stp.refl _ _) rl (rs.setD r i) h
def gNl : DGs := fun ds s C Q => ds = [] ∧ Q s C
def gCn (t : DG) (u : DGs) : DGs := fun ds s C Q => ∃ d r, ds = d :: r ∧ t d s C fun s' C' => u r s' C' Q
theorem jgs_nil : JGs X B [] gNl := PGs.imp pgs_nil fun v σ H Q h => by
  obtain ⟨d, sl, C, Qd, r, rs, rl, ⟨e, h⟩, k⟩ := h
  subst e
  cases r
  exact ⟨rfl, k _ _ H C (Stp.refl _ _) rl rs h⟩
theorem jgs_cons {g : DG} {gs : DGs} (h1 : JG X B a g) (h2 : JGs X B es gs) (hs : (assignEach (a :: es) X.env).map (·.2) = assign a X.env :: (assignEach es X.env).map (·.2) := by rfl) : JGs X B (a :: es) (gCn g gs) := PGs.imp (pgs_cons h1 h2 hs) fun v σ H Q h => by
  obtain ⟨ds, sl, C, Qd, r, rs, rl, ⟨d, dr, e, h⟩, k⟩ := h
  subst e
  obtain ⟨w, vr, rfl, r1, r2⟩ := r
  exact ⟨w, vr, rfl, d, sl, C, _, r1, rs, rl, h, fun σ' sl' H' C' st rl' rs' q => ⟨dr, sl', C', Qd, r2.mono st.tx, rs', rl', q, fun a b c d e => k a b c d (st.trans e)⟩⟩
def gTp (n : Nat) (t : DGs) : DG := fun d s C Q => ∃ ds, d = .tup ds ∧ ds.length = n ∧ t ds s C Q
theorem jg_tup {k : Nat} {t : DGs} {n : Nat} (hc : X.calm = true) (h : JGs X B es t) (hn : (assignEach es X.env).length = n := by rfl) (hst : (assignEach es X.env).findIdx? (·.1) = none := by rfl) : JG X B (.Tuple es k pos) (gTp n t) := PG.imp (pg_tup hc h hn hst) fun v σ H Q h => by
  obtain ⟨d, sl, C, Qd, r, rs, rl, ⟨ds, e, hl, h⟩, k⟩ := h
  subst e
  obtain ⟨a, vs, rfl, hq, hr⟩ := r
  exact ⟨a, vs, rfl, hq, by rw [← hr.length]; exact hl, ds, sl, C, Qd, hr, rs, rl, h, k⟩
def dAsg (te : DE) (g : DG) : DS := fun D s C => te s C fun x C1 => g x s C1 D.nx
theorem js_asg {tg : Expr} {g : DG} (ha : JE X B a ta) (hg : JG X B tg g) (hs : swapsWithSole [tg] a pos.line X.env = pure false := by rfl) (hw : swappedStores [tg] a X.env = pure none := by rfl) (h1 : (assignEach [tg] X.env).map (·.2) = [assign tg X.env] := by rfl) : JS X B (.Assign [tg] a pos) (dAsg ta g) := PS.imp (ps_asg ha hg hs hw h1) fun D σ H h => by
  obtain ⟨sl, C, Dd, rs, rl, h, k⟩ := h
  exact ⟨sl, C, _, rs, rl, h, fun v d H1 C1 st1 rl1 r q => ⟨d, sl, C1, _, r, rs.mono st1.tx, rl1, q, fun σ' sl' H' C' st rl' rs' q' => k.nx σ' sl' H' C' (st1.trans st) rl' rs' q'⟩⟩
theorem js_set {i : Nat} {x : Str} {pos' : Pos} (hN : X.N.Nodup) (ha : JE X B a ta) (hi : X.N[i]? = some x := by rfl) (hx : Loc X.env.scope x := by first | exact .inl rfl | exact .inr rfl) (hs : swapsWith a (some (.Name x pos')) pos.line X.env = pure false := by rfl) (hf : X.fn x = true ∨ X.env.scope.names.lookup x = some .local := by first | exact .inl rfl | exact .inr rfl | assumption) :
    JS X B (.Assign [.Name x pos'] a pos) (dAsg ta (gNm i)) := PS.imp (ps_set hN hi hx ha hs hf) fun D σ H h => by
  obtain ⟨sl, C, Dd, rs, rl, h, k⟩ := h
  exact ⟨sl, C, _, rs, rl, h, fun v d H1 C1 st1 rl1 r q => k.nx _ _ H1 C1 st1 rl1 ((rs.mono st1.tx).setD r i) q⟩
/-- a, b = e1, e2, the names two different locals -/
def dPar (i j : Nat) (ta : DA) : DS := fun D s C => ta s C fun ds C1 => ∃ v w, ds = [v, w] ∧ D.nx ((s.set i (some v)).set j (some w)) C1
end
end KB

/-! KB5: loops, comprehensions, calls over data. -/
namespace KB
open PySem PySem.Spec PyProof.Rows SeqAt
open L2 hiding op_eqD op_neD
/-- what is walked: the items, what must stay of the store for that -/
abbrev DI := Sl → Cp → (List D → (Cp → Prop) → Cp → Prop) → Prop
structure WalkD (K : PySem.W.Frag) (B : Bs) (J : It) (items : List D) (ok : Cp → Prop) : Prop where
  goes : ∀ i H C, i < items.length → Rl K B H C → ok C → J.go i H
  stops : ∀ H C, Rl K B H C → ok C → J.stop items.length H
  yields : ∀ i H C x H', i < items.length → Rl K B H C → ok C → J.yld i H x H' → Stp H C H' C ∧ Rl K B H' C ∧ ∃ d, items[i]? = some d ∧ Rep K H' d x
def lI (K : PySem.W.Frag) (B : Bs) (τ : DI) : TI := fun σ H R => ∃ sl C Qd, RepS K H sl σ ∧ Rl K B H C ∧ τ sl C Qd ∧ ∀ items ok H' C' J, Stp H C H' C' → Rl K B H' C' → WalkD K ⟨H', C', B.P, B.w⟩ J items ok → Qd items ok C' → R J H'
abbrev JI (X : Cx) (B : Bs) (tg e : Expr) (τ : DI) : Prop := PI X tg e (lI X.K B τ)
theorem PI.imp {X : Cx} {tg e : Expr} {t t' : TI} (h : PI X tg e t) (i : ∀ σ H R, t' σ H R → t σ H R) : PI X tg e t' := ⟨fun pins s σ H R I q => h.run pins s σ H R I (i σ H R q)⟩
section
variable {X : Cx} {B : Bs} {pos : Pos} {a b c tg e : Expr} {ta tb tc : DE} {rest es : List Expr} {tr : DA} {K : PySem.W.Frag}
theorem walkD_same {J : It} {items : List D} {ok : Cp → Prop} {G : Hp → Prop} {Y : Hp → List V → Prop} (w : ∀ vs, Walk J vs.length (fun H => Y H vs) (YAt vs)) (hg : ∀ H C, Rl K B H C → ok C → ∃ vs, Y H vs ∧ Reps K H items vs) : WalkD K B J items ok where
  goes := fun i H C hi rl o => by
    obtain ⟨vs, g1, g2⟩ := hg H C rl o
    exact (w vs).goes i H (by rw [← g2.length]; exact hi) g1
  stops := fun H C rl o => by
    obtain ⟨vs, g1, g2⟩ := hg H C rl o
    rw [g2.length]
    exact (w vs).stops H g1
  yields := fun i H C x H' hi rl o y => by
    obtain ⟨vs, g1, g2⟩ := hg H C rl o
    obtain ⟨e, hx⟩ := (w vs).yields i H x H' (by rw [← g2.length]; exact hi) g1 y
    subst e
    obtain ⟨d, e1, e2⟩ := g2.getV hx
    exact ⟨Stp.refl _ _, rl, d, e1, e2⟩
theorem Rl.repsL {H : Hp} {C : Cp} (rl : Rl K B H C) {p : Addr} {ds : List D} (h : isL C p ds) : ∃ vs, Rd H p (.lst vs) ∧ Reps K H ds vs := by
  rcases h with h | h
  · obtain ⟨vs, e, q⟩ := rl.ok _ _ h
    exact ⟨vs, .inl e, q⟩
  · obtain ⟨o, vs, e, q⟩ := rl.ok _ _ h
    exact ⟨vs, .inr ⟨o, e⟩, q⟩
/-- over a list: it must stand as it is -/
def dOver (t : DE) : DI := fun s C R => t s C fun x C1 => match x with
  | .ptr p => ∃ ds, isL C1 p ds ∧ R ds (fun C => isL C p ds) C1
  | _ => False
theorem ji_list (ha : JE X B a ta) : JI X B tg a (dOver ta) := PI.imp (pi_list ha) fun σ H R h => by
  obtain ⟨sl, C, Qd, rs, rl, h, k⟩ := h
  refine ⟨sl, C, _, rs, rl, h, fun v d H1 C1 st1 rl1 r q => ?_⟩
  cases d with
  | ptr p =>
    cases r
    obtain ⟨ds, hl, q⟩ := q
    obtain ⟨vs, hq, hr⟩ := hl.sq rl1
    exact ⟨p, rfl, ⟨vs, hq⟩, k ds _ H1 C1 _ st1 rl1 (walkD_same (G := fun _ => True) (Y := fun H vs => SqL X.K H p vs) (fun vs => walk_list) fun H C rl o => isL.sq rl o) q⟩
  | _ => exact False.elim q
/-- over a tuple -/
def dOverT (t : DE) : DI := fun s C R => t s C fun x C1 => match x with
  | .tup ds => R ds (fun _ => True) C1
  | _ => False
theorem ji_tup (ha : JE X B a ta) : JI X B tg a (dOverT ta) := PI.imp (pi_tup ha) fun σ H R h => by
  obtain ⟨sl, C, Qd, rs, rl, h, k⟩ := h
  refine ⟨sl, C, _, rs, rl, h, fun v d H1 C1 st1 rl1 r q => ?_⟩
  cases d with
  | tup ds =>
    obtain ⟨p, vs, rfl, hq, hr⟩ := r
    exact ⟨p, rfl, ⟨vs, hq⟩, k ds _ H1 C1 _ st1 rl1 (walkD_same (G := fun _ => True) (Y := fun H vs => SqT X.K H p vs) (fun vs => walk_tup) fun H C rl o => ⟨vs, rl.st.tx.sqT hq, hr.mono rl.st.tx⟩) q⟩
  | _ => exact False.elim q
/-- over a text -/
def dOverS (t : DE) : DI := fun s C R => t s C fun x C1 => match x with
  | .str l => R (l.map fun c => .str [c]) (fun _ => True) C1
  | _ => False
theorem ji_str (ha : JE X B a ta) : JI X B tg a (dOverS ta) := PI.imp (pi_str ha) fun σ H R h => by
  obtain ⟨sl, C, Qd, rs, rl, h, k⟩ := h
  refine ⟨sl, C, _, rs, rl, h, fun v d H1 C1 st1 rl1 r q => ?_⟩
  cases d with
  | str l =>
    cases r
    refine ⟨⟨l.toArray⟩, rfl, k _ _ H1 C1 _ st1 rl1 ⟨fun i H C hi rl o => ?_, fun H C rl o => ?_, fun i H C x H' hi rl o y => ?_⟩ q⟩
    · exact walk_str.goes i H (by simpa using hi) trivial
    · have := (walk_str (z := ⟨l.toArray⟩)).stops H trivial
      simpa using this
    · obtain ⟨e, c, hc, hx⟩ := walk_str.yields i H x H' (by simpa using hi) trivial y
      subst e hx
      refine ⟨Stp.refl _ _, rl, .str [c], ?_, rfl⟩
      have hc : l.toArray[i]? = some c := hc
      rw [List.getElem?_map]
      simp at hc
      rw [hc]
      rfl
  | _ => exact False.elim q
/-- over a range -/
def rngD (lo : Int) (n : Nat) : List D := (List.range n).map fun (i : Nat) => D.int (lo + (i : Int))
theorem rngD_len {lo : Int} {n : Nat} : (rngD lo n).length = n := by simp [rngD]
theorem rngD_get {lo : Int} {n i : Nat} (h : i < n) : (rngD lo n)[i]? = some (.int (lo + (i : Int))) := by simp [rngD, h]
theorem walkD_rng {lo : Int} {n : Nat} : WalkD K B (Itr lo n) (rngD lo n) (fun _ => True) where
  goes := fun i H C hi rl o => walk_range.goes i H (by rw [rngD_len] at hi; exact hi) trivial
  stops := fun H C rl o => by rw [rngD_len]; exact walk_range.stops H trivial
  yields := fun i H C x H' hi rl o y => by
    rw [rngD_len] at hi
    obtain ⟨e, hx⟩ := walk_range.yields i H x H' hi trivial y
    subst e hx
    exact ⟨Stp.refl _ _, rl, _, rngD_get hi, rfl⟩
def dRng1 (t : DA) : DI := fun s C R => t s C fun ds C1 => ∃ j : Int, ds = [.int j] ∧ -(2 ^ 62) ≤ j ∧ j < 2 ^ 62 ∧ R (rngD 0 j.toNat) (fun _ => True) C1
def dRng2 (t : DA) : DI := fun s C R => t s C fun ds C1 => ∃ i j : Int, ds = [.int i, .int j] ∧ (-(2 ^ 62) ≤ i ∧ i < 2 ^ 62 ∧ -(2 ^ 62) ≤ j ∧ j < 2 ^ 62) ∧ R (rngD i (j - i).toNat) (fun _ => True) C1
theorem ji_range1 {p : Pos} (hm : X.mg "range" = none) (ha : JA X B [a] tr) (hg : Gl X "range" := by rfl) (hs : starEach [a] X.env = [(false, eval a X.env)] := by rfl) : JI X B tg (.Call (.Name "range" p) [a] [] pos) (dRng1 tr) := PI.imp (pi_range1 hg hm ha hs) fun σ H R h => by
  obtain ⟨sl, C, Qd, rs, rl, h, k⟩ := h
  refine ⟨sl, C, _, rs, rl, h, fun vs ds H1 C1 st1 rl1 r ⟨j, e, h1, h2, q⟩ => ?_⟩
  subst e
  obtain ⟨v, r2, rfl, hv, hn⟩ := r
  cases hv; cases hn
  exact ⟨j, rfl, h1, h2, k _ _ H1 C1 _ st1 rl1 walkD_rng q⟩
theorem ji_range2 {p : Pos} (hm : X.mg "range" = none) (ha : JA X B [a, b] tr) (hg : Gl X "range" := by rfl) (hs : starEach [a, b] X.env = [(false, eval a X.env), (false, eval b X.env)] := by rfl) (hs2 : starEach [b] X.env = [(false, eval b X.env)] := by rfl) :
    JI X B tg (.Call (.Name "range" p) [a, b] [] pos) (dRng2 tr) := PI.imp (pi_range2 hg hm ha hs hs2) fun σ H R h => by
  obtain ⟨sl, C, Qd, rs, rl, h, k⟩ := h
  refine ⟨sl, C, _, rs, rl, h, fun vs ds H1 C1 st1 rl1 r ⟨i, j, e, h1, q⟩ => ?_⟩
  subst e
  obtain ⟨v, r2, rfl, hv, w, r3, rfl, hw, hn⟩ := r
  cases hv; cases hw; cases hn
  exact ⟨i, j, rfl, h1, k _ _ H1 C1 _ st1 rl1 walkD_rng q⟩
/-! pairs -/
def pairD (xs ys : List D) : List D := (xs.zip ys).map fun p => .tup [p.1, p.2]
theorem walkD_pair {J : It} {xs ys : List D} {ok : Cp → Prop} (hw : ∀ H C, Rl K B H C → ok C → ∃ (n : Nat) (G : Hp → Prop) (f g : Nat → Option V), n = min xs.length ys.length ∧ G H ∧ Walk J n G (YPair f g) ∧
    (∀ i v, i < n → f i = some v → ∃ d, xs[i]? = some d ∧ Rep K H d v) ∧ ∀ i v, g i = some v → ∃ d, ys[i]? = some d ∧ Rep K H d v) : WalkD K B J (pairD xs ys) ok where
  goes := fun i H C hi rl o => by
    obtain ⟨n, G, f, g, hn, hG, w, _, _⟩ := hw H C rl o
    exact w.goes i H (by simp [pairD] at hi; omega) hG
  stops := fun H C rl o => by
    obtain ⟨n, G, f, g, hn, hG, w, _, _⟩ := hw H C rl o
    have := w.stops H hG
    rw [hn] at this
    simpa [pairD] using this
  yields := fun i H C x H' hi rl o y => by
    obtain ⟨n, G, f, g, hn, hG, w, hf, hg⟩ := hw H C rl o
    have hi2 : i < n := by simp [pairD] at hi; omega
    obtain ⟨T, x1, x2, rfl, nT, rfl, f1, f2⟩ := w.yields i H x H' hi2 hG y
    obtain ⟨d1, a1, a2⟩ := hf i x1 hi2 f1
    obtain ⟨d2, b1, b2⟩ := hg i x2 f2
    obtain ⟨s1, s2, s3⟩ := rl.newT nT (.cons a2 (.cons b2 .nil))
    refine ⟨s1, s2, _, ?_, s3⟩
    have hz : (xs.zip ys)[i]? = some (d1, d2) := List.getElem?_zip_eq_some.mpr ⟨a1, b1⟩
    simp [pairD, hz]
def dZip (t : DA) : DI := fun s C R => t s C fun ds C1 => ∃ p q xs ys, ds = [.ptr p, .ptr q] ∧ isL C1 p xs ∧ isL C1 q ys ∧ R (pairD xs ys) (fun C => isL C p xs ∧ isL C q ys) C1
theorem ji_zip {e2 : Expr} {p tpos : Pos} {elts : List Expr} {kk : Nat} (hm : X.mg "zip" = none) (ha : JA X B [a, e2] tr) (hg : Gl X "zip" := by rfl) (hs : starEach [a, e2] X.env = (false, eval a X.env) :: starEach [e2] X.env := by rfl) (hpl : (backTo pos (starEach [e2] X.env)).any (·.1) = false := by rfl) :
    JI X B (.Tuple elts kk tpos) (.Call (.Name "zip" p) [a, e2] [] pos) (dZip tr) := PI.imp (pi_zip hg hm ha hs hpl) fun σ H R h => by
  obtain ⟨sl, C, Qd, rs, rl, h, k⟩ := h
  refine ⟨sl, C, _, rs, rl, h, fun vs ds H1 C1 st1 rl1 r ⟨pa, pb, xs, ys, e, h1, h2, q⟩ => ?_⟩
  subst e
  obtain ⟨v, r2, rfl, hv, w, r3, rfl, hw, hn⟩ := r
  cases hv; cases hw; cases hn
  obtain ⟨ws, g1, g2⟩ := isL.sq rl1 h1
  obtain ⟨zs, g3, g4⟩ := isL.sq rl1 h2
  exact ⟨pa, pb, ws, zs, rfl, g1, g3, k _ _ H1 C1 _ st1 rl1 (walkD_pair fun H C rl o => by
    obtain ⟨ws, g1, g2⟩ := isL.sq rl o.1
    obtain ⟨zs, g3, g4⟩ := isL.sq rl o.2
    exact ⟨_, _, _, _, by rw [g2.length, g4.length], ⟨g1, g3⟩, walk_zip rfl, fun i v _ h => g2.getV h, fun i v h => g4.getV h⟩) q⟩
def dEnum (t : DA) : DI := fun s C R => t s C fun ds C1 => ∃ p xs, ds = [.ptr p] ∧ isL C1 p xs ∧ R (pairD (rngD 0 xs.length) xs) (fun C => isL C p xs) C1
theorem ji_enum {p tpos : Pos} {elts : List Expr} {kk : Nat} (hm : X.mg "enumerate" = none) (ha : JA X B [a] tr) (hg : Gl X "enumerate" := by rfl) (hs : starEach [a] X.env = [(false, eval a X.env)] := by rfl) :
    JI X B (.Tuple elts kk tpos) (.Call (.Name "enumerate" p) [a] [] pos) (dEnum tr) := PI.imp (pi_enum hg hm ha hs) fun σ H R h => by
  obtain ⟨sl, C, Qd, rs, rl, h, k⟩ := h
  refine ⟨sl, C, _, rs, rl, h, fun vs ds H1 C1 st1 rl1 r ⟨pa, xs, e, h1, q⟩ => ?_⟩
  subst e
  obtain ⟨v, r2, rfl, hv, hn⟩ := r
  cases hv; cases hn
  obtain ⟨ws, g1, g2⟩ := isL.sq rl1 h1
  exact ⟨pa, ws, rfl, g1, k _ _ H1 C1 _ st1 rl1 (walkD_pair fun H C rl o => by
    obtain ⟨ws, g1, g2⟩ := isL.sq rl o
    refine ⟨ws.length, _, _, _, by rw [rngD_len, g2.length, Nat.min_self], g1, walk_enum, fun i v hi h => ?_, fun i v h => g2.getV h⟩
    have h : V.int (i : Int) = v := Option.some.inj h
    subst h
    refine ⟨.int (0 + (i : Int)), rngD_get (by rw [g2.length]; exact hi), ?_⟩
    rw [Int.zero_add]
    rfl) q⟩

/-! ### for -/
variable {src : DI} {g : DG} {tS uS : DS} {tA : DT}
/-- Pv by the turn; behind a turn what is not wanted may be let go -/
def dFor (src : DI) (g : DG) (tb : DS) : DS := fun D s C => src s C fun items ok C1 => ∃ Pv : Nat → Sl → Cp → Prop, Pv 0 s C1 ∧ (∀ i s C, i ≤ items.length → Pv i s C → ok C) ∧
  (∀ i x s C, items[i]? = some x → Pv i s C → g x s C fun s2 C2 => tb { D with nx := fun s' C' => ∃ C'', Sub C'' C' ∧ Pv (i + 1) s' C'', ct := fun s' C' => ∃ C'', Sub C'' C' ∧ Pv (i + 1) s' C'', bk := D.nx } s2 C2) ∧ ∀ s C, Pv items.length s C → D.nx s C
theorem js_for {body : List Stmt} (hp : PassesOwn (model X.prog X.w) X.A X.env X.xe) (hc : X.calm = true) (hi : JI X B tg a src) (hg : JG X B tg g) (hb : JSs X B body tS) (hs : ∀ x, foldedSetIterable a X.env x = pure x := by intro _; rfl) : JS X B (.For tg a body [] pos) (dFor src g tS) := PS.imp (ps_for hp hc hi hg hb hs) fun D σ H h => by
  obtain ⟨sl, C, Dd, rs, rl, h, k⟩ := h
  refine ⟨sl, C, _, rs, rl, h, fun items ok H1 C1 J st1 rl1 w ⟨Pv, h0, hok, hstep, hd⟩ => ?_⟩
  refine ⟨fun i m σ H => m = items.length - i ∧ i ≤ items.length ∧ ∃ sl C, RepS X.K H sl σ ∧ Rl X.K B H C ∧ Stp H1 C1 H C ∧ Pv i sl C, ⟨_, rfl, Nat.zero_le _, sl, C1, rs.mono st1.tx, rl1, Stp.refl _ _, h0⟩, ?_⟩
  rintro i m σ2 H2 ⟨rfl, hi2, sl2, C2, rs2, rl2, st2, hp2⟩
  have rb : Rl X.K ⟨H1, C1, B.P, B.w⟩ H2 C2 := ⟨st2, rl2.ok⟩
  have o := hok i sl2 C2 hi2 hp2
  by_cases hlt : i < items.length
  · refine .inr ⟨w.goes i H2 C2 hlt rb o, fun σ' H' => ∃ sl C, RepS X.K H' sl σ' ∧ Rl X.K B H' C ∧ Stp H1 C1 H' C ∧ Pv (i + 1) sl C, fun σ' H' q => ⟨items.length - (i + 1), by omega, rfl, hlt, q⟩, fun x H' y => ?_⟩
    obtain ⟨s3, r3, d, e, rd⟩ := w.yields i H2 C2 x H' hlt rb o y
    have rl3 : Rl X.K B H' C2 := ⟨rl2.st.trans s3, r3.ok⟩
    refine ⟨d, sl2, C2, _, rd, rs2.mono s3.tx, rl3, hstep i d sl2 C2 e hp2, fun σ' sl' H3 C3 st3 rl4 rs3 q => ?_⟩
    refine ⟨sl', C3, _, rs3, rl4, q, ⟨fun σ sl H' C' st rl rs q => ?_, fun v d H' C' st => k.rt v d H' C' ((((st1.trans st2).trans s3).trans st3).trans st), fun σ sl H' C' st => k.nx σ sl H' C' ((((st1.trans st2).trans s3).trans st3).trans st), fun σ sl H' C' st rl rs q => ?_⟩⟩
    · obtain ⟨C'', hs, q⟩ := q
      exact ⟨sl, C'', rs, rl.less hs, ((((st2.trans s3).trans st3).trans st).less hs), q⟩
    · obtain ⟨C'', hs, q⟩ := q
      exact ⟨sl, C'', rs, rl.less hs, ((((st2.trans s3).trans st3).trans st).less hs), q⟩
  · have e : i = items.length := by omega
    subst e
    exact .inl ⟨w.stops H2 C2 rb o, k.nx _ _ H2 C2 (st1.trans st2) rl2 rs2 (hd _ _ hp2)⟩
/-- while, by a word and a measure -/
def dWhile (c : DT) (tb : DS) : DS := fun D s C => ∃ W : Nat → Sl → Cp → Prop, (∃ m, W m s C) ∧ ∀ m s C, W m s C → c s C fun b C1 => if b = true then tb { D with nx := fun s' C' => ∃ m', m' < m ∧ ∃ C'', Sub C'' C' ∧ W m' s' C'', ct := fun s' C' => ∃ m', m' < m ∧ ∃ C'', Sub C'' C' ∧ W m' s' C'', bk := D.nx } s C1 else D.nx s C1
theorem js_while {body : List Stmt} (hp : PassesOwn (model X.prog X.w) X.A X.env X.xe) (hc : JT X B c tA) (hb : JSs X B body tS) : JS X B (.While c body [] pos) (dWhile tA tS) := PS.imp (ps_while hp hc hb) fun D σ H h => by
  obtain ⟨sl, C, Dd, rs, rl, ⟨W, ⟨m0, w0⟩, turn⟩, k⟩ := h
  refine ⟨fun m σ' H' => ∃ sl' C', RepS X.K H' sl' σ' ∧ Rl X.K B H' C' ∧ Stp H C H' C' ∧ W m sl' C', ⟨m0, sl, C, rs, rl, Stp.refl _ _, w0⟩, ?_⟩
  rintro m σ1 H1 ⟨sl1, C1, rs1, rl1, st1, w1⟩
  refine ⟨sl1, C1, _, rs1, rl1, turn m sl1 C1 w1, fun b H2 C2 st2 rl2 q => ?_⟩
  cases b with
  | true =>
    refine ⟨fun σ' H' => ∃ m', m' < m ∧ ∃ sl' C', RepS X.K H' sl' σ' ∧ Rl X.K B H' C' ∧ Stp H C H' C' ∧ W m' sl' C', fun σ' H' q => q, ?_⟩
    refine ⟨sl1, C2, _, rs1.mono st2.tx, rl2, q, ⟨fun σ sl H' C' st rl rs q => ?_, fun v d H' C' st => k.rt v d H' C' ((st1.trans st2).trans st), fun σ sl H' C' st => k.nx σ sl H' C' ((st1.trans st2).trans st), fun σ sl H' C' st rl rs q => ?_⟩⟩
    · obtain ⟨m', hm, C'', hs, q⟩ := q
      exact ⟨m', hm, sl, C'', rs, rl.less hs, ((st1.trans st2).trans st).less hs, q⟩
    · obtain ⟨m', hm, C'', hs, q⟩ := q
      exact ⟨m', hm, sl, C'', rs, rl.less hs, ((st1.trans st2).trans st).less hs, q⟩
  | false => exact k.nx _ _ H2 C2 (st1.trans st2) rl2 (rs1.mono st2.tx) q
/-! ### comprehensions -/
theorem wipe_at {σ : L2.St} {i : Nat} {x : Option V} : ∀ {vs : List Nat}, i ∈ vs → wipe (σ.set i x) vs = wipe σ vs
  | v :: vs, h => by
    unfold wipe
    by_cases hm : i ∈ vs
    · rw [wipe_at hm]
    · have e : i = v := by
        rcases List.mem_cons.mp h with e | e
        · exact e
        · exact absurd e hm
      subst e
      have : ∀ ws : List Nat, i ∉ ws → wipe (σ.set i x) ws = (wipe σ ws).set i x := by
        intro ws
        induction ws with
        | nil => intro _; rfl
        | cons w ws ih =>
          intro hn
          have h1 : i ≠ w := fun e => hn (by simp [e])
          have h2 : i ∉ ws := fun e => hn (by simp [e])
          show (wipe (σ.set i x) ws).set w none = ((wipe σ ws).set w none).set i x
          rw [ih h2, List.set_comm _ _ h1]
      rw [this vs hm, List.set_set]
theorem wipe_get {σ : L2.St} : ∀ (vs : List Nat) (i : Nat), (wipe σ vs)[i]? = if i ∈ vs ∧ i < σ.length then some none else σ[i]?
  | [], i => by simp [wipe]
  | v :: vs, i => by
    show ((wipe σ vs).set v none)[i]? = _
    rw [List.getElem?_set, wipe_get vs i, wipe_length]
    by_cases e : v = i
    · subst e
      by_cases hl : v < σ.length
      · simp [hl]
      · simp [hl, List.getElem?_eq_none (Nat.le_of_not_lt hl)]
    · have e2 : ¬ i = v := fun z => e z.symm
      simp [e, e2]
theorem wipe_idem (σ : L2.St) (vs : List Nat) : wipe (wipe σ vs) vs = wipe σ vs := by
  apply List.ext_getElem?
  intro i
  rw [wipe_get, wipe_length, wipe_get]
  by_cases h : i ∈ vs ∧ i < σ.length
  · rw [if_pos h, if_pos h]
  · rw [if_neg h]
def lGv (K : PySem.W.Frag) (B : Bs) (vs : List Nat) (τ : DG) : TG := fun v σ H Q => ∃ d sl C Qd, Rep K H d v ∧ RepS K H sl σ ∧ Rl K B H C ∧ τ d sl C Qd ∧ ∀ σ' sl' H' C', Stp H C H' C' → Rl K B H' C' → RepS K H' sl' σ' → wipe σ' vs = wipe σ vs → Qd sl' C' → Q σ' H'
def lGsv (K : PySem.W.Frag) (B : Bs) (vs : List Nat) (τ : DGs) : TGs := fun v σ H Q => ∃ d sl C Qd, Reps K H d v ∧ RepS K H sl σ ∧ Rl K B H C ∧ τ d sl C Qd ∧ ∀ σ' sl' H' C', Stp H C H' C' → Rl K B H' C' → RepS K H' sl' σ' → wipe σ' vs = wipe σ vs → Qd sl' C' → Q σ' H'
def GL (K : PySem.W.Frag) (B : Bs) (vs : List Nat) (g : TG) (τ : DG) : Prop := ∀ v σ H Q, lGv K B vs τ v σ H Q → g v σ H Q
def GLs (K : PySem.W.Frag) (B : Bs) (vs : List Nat) (g : TGs) (τ : DGs) : Prop := ∀ v σ H Q, lGsv K B vs τ v σ H Q → g v σ H Q
theorem gl_name {vs : List Nat} {i : Nat} (h : i ∈ vs := by decide) : GL K B vs (gName i) (gNm i) := fun v σ H Q ⟨d, sl, C, Qd, r, rs, rl, q, k⟩ => k _ _ H C (Stp.refl _ _) rl (rs.setD r i) (wipe_at h) q
theorem gls_nil {vs : List Nat} : GLs K B vs gNil gNl := fun v σ H Q ⟨d, sl, C, Qd, r, rs, rl, ⟨e, q⟩, k⟩ => by
  subst e
  cases r
  exact ⟨rfl, k _ _ H C (Stp.refl _ _) rl rs rfl q⟩
theorem gls_cons {vs : List Nat} {g : TG} {gs : TGs} {τ : DG} {τs : DGs} (h1 : GL K B vs g τ) (h2 : GLs K B vs gs τs) : GLs K B vs (gCons g gs) (gCn τ τs) := fun v σ H Q ⟨d, sl, C, Qd, r, rs, rl, ⟨x, xr, e, q⟩, k⟩ => by
  subst e
  obtain ⟨w, vr, rfl, r1, r2⟩ := r
  exact ⟨w, vr, rfl, h1 _ _ _ _ ⟨x, sl, C, _, r1, rs, rl, q, fun σ' sl' H' C' st rl' rs' hw q => h2 _ _ _ _ ⟨xr, sl', C', Qd, r2.mono st.tx, rs', rl', q, fun a b c d e f g hw2 => k a b c d (st.trans e) f g (hw2.trans hw)⟩⟩⟩
theorem gl_tup {vs : List Nat} {n : Nat} {gs : TGs} {τs : DGs} (h : GLs K B vs gs τs) : GL K B vs (gTup K n gs) (gTp n τs) := fun v σ H Q ⟨d, sl, C, Qd, r, rs, rl, ⟨ds, e, hl, q⟩, k⟩ => by
  subst e
  obtain ⟨a, ws, rfl, hq, hr⟩ := r
  exact ⟨a, ws, rfl, hq, by rw [← hr.length]; exact hl, h _ _ _ _ ⟨ds, sl, C, Qd, hr, rs, rl, q, k⟩⟩
theorem stp_hid {H0 H1 H : Hp} {C0 C1 C : Cp} {p : Addr} {o : HO} (a : Stp H0 C0 H1 C1) (h1 : H1 p = none) (b : Stp H1 C1 H C) (hp : ¬ Frz (H p)) : Stp H0 C0 (upd H p o) C := by
  refine ⟨(a.tx.trans b.tx).trans (tx_upd hp), fun q u e n => ?_⟩
  obtain ⟨e1, n1⟩ := a.hid q u e n
  obtain ⟨e2, n2⟩ := b.hid q u e1 n1
  exact ⟨by rw [upd_ne (ne_of_none e1 h1)]; exact e2, n2⟩
/-- the list so far is hidden; Pv by the turn and it; behind a turn what is not wanted may be let go -/
def dLc (src : DI) (g : DG) (tt : DT) (te : DE) (vs : List Nat) : DE := fun s C Q => src s C fun items ok C1 => ∃ Pv : Nat → List D → Cp → Prop, Pv 0 [] C1 ∧ (∀ i acc C, i ≤ items.length → Pv i acc C → ok C) ∧
  (∀ i x acc C, items[i]? = some x → Pv i acc C → acc.length ≤ i → g x (wipeD s vs) C fun s2 C2 => tt s2 C2 fun b C3 => if b = true then te s2 C3 fun y C4 => ∃ C'', Sub C'' C4 ∧ Pv (i + 1) (acc ++ [y]) C'' else ∃ C'', Sub C'' C3 ∧ Pv (i + 1) acc C'') ∧
  items.length < sizeLine ∧ ∀ acc C p, Pv items.length acc C → C p = none → Q (.ptr p) (up C p (.lst acc))
abbrev JTs (X : Cx) (B : Bs) (ifs : List Expr) (τ : DT) : Prop := PTs X ifs (lT X.K B τ)
def dYes : DT := fun _ C Q => Q true C
theorem jts_nil : JTs X B [] dYes := by
  refine ⟨fun pins s σ H Q I h => pts_nil.run pins s σ H Q I ?_⟩
  obtain ⟨sl, C, Qd, rs, rl, h, k⟩ := h
  exact k _ H C (Stp.refl _ _) rl h
theorem jts_one (h : JT X B c tA) : JTs X B [c] tA := pts_one h
theorem lc_lift {vs : List Nat} {g : TG} {τg : DG} {tt : DT} {te : DE} {σ : L2.St} {H : Hp} {Q : VK} (hg : GL K B vs g τg) (h : lE K B (dLc src τg tt te vs) σ H Q) : tLc (lI K B src) g (lT K B tt) (lE K B te) vs σ H Q := by
  obtain ⟨sl, C, Qd, rs, rl, h, k⟩ := h
  refine ⟨sl, C, _, rs, rl, h, fun items ok H1 C1 J st1 rl1 w ⟨Pv, h0, hok, hstep, hz, hd⟩ D hD => ?_⟩
  have c1 : C1 D = none := rl1.fresh hD
  refine ⟨fun i m H => m = items.length - i ∧ i ≤ items.length ∧ ∃ acc vacc C, H D = some (.lst vacc) ∧ Reps K H acc vacc ∧ Rl K B H C ∧ Stp H1 C1 H C ∧ C D = none ∧ acc.length ≤ i ∧ Pv i acc C,
    ⟨_, rfl, Nat.zero_le _, [], [], C1, upd_same, .nil, rl1.more hD, stp_more hD, c1, Nat.le_refl _, h0⟩, ?_⟩
  rintro i m H2 ⟨rfl, hi2, acc, vacc, C2, eD, ra, rl2, st2, cD, hl, hp2⟩
  have rb : Rl K ⟨H1, C1, B.P, B.w⟩ H2 C2 := ⟨st2, rl2.ok⟩
  have o := hok i acc C2 hi2 hp2
  by_cases hlt : i < items.length
  · refine .inr ⟨w.goes i H2 C2 hlt rb o, fun H' => ∃ acc vacc C, H' D = some (.lst vacc) ∧ Reps K H' acc vacc ∧ Rl K B H' C ∧ Stp H1 C1 H' C ∧ C D = none ∧ acc.length ≤ i + 1 ∧ Pv (i + 1) acc C, fun H' q => ⟨items.length - (i + 1), by omega, rfl, hlt, q⟩, fun x H' y => ?_⟩
    obtain ⟨s3, r3, d, e, rd⟩ := w.yields i H2 C2 x H' hlt rb o y
    have rl3 : Rl K B H' C2 := ⟨rl2.st.trans s3, r3.ok⟩
    refine hg _ _ _ _ ⟨d, wipeD sl vs, C2, _, rd, (rs.wipe vs).mono ((st1.trans st2).trans s3).tx, rl3, hstep i d acc C2 e hp2 hl, fun σ' sl' H3 C3 st3 rl4 rs3 hw q => ⟨by rw [hw, wipe_idem], ?_⟩⟩
    refine ⟨sl', C3, _, rs3, rl4, q, fun b H4 C4 st4 rl5 q => ?_⟩
    have s24 : Stp H2 C2 H4 C4 := (s3.trans st3).trans st4
    cases b with
    | true =>
      refine ⟨sl', C4, _, rs3.mono st4.tx, rl5, q, fun v dv H5 C5 st5 rl6 rv ⟨C6, hs, q⟩ => ?_⟩
      have s25 : Stp H2 C2 H5 C5 := s24.trans st5
      obtain ⟨e5, n5⟩ := s25.hid D _ eD cD
      have nf : ¬ Frz (H5 D) := by rw [e5]; exact id
      refine ⟨vacc, e5, ?_, acc ++ [dv], vacc ++ [v], C6, upd_same, (Reps.append (ra.mono s25.tx) (.cons rv .nil)).mono (tx_upd nf), ?_, ?_, hs.none n5, by rw [List.length_append]; show acc.length + 1 ≤ i + 1; omega, q⟩
      · rw [← ra.length]
        omega
      · have st' : Stp B.H B.C (upd H5 D (.lst (vacc ++ [v]))) C6 := (stp_hid rl1.st hD (st2.trans s25) nf).less hs
        refine ⟨st', fun p c e => ?_⟩
        have hp : p ≠ D := by
          intro z
          subst z
          rw [hs.none n5] at e
          cases e
        exact (rl6.ok p c (hs p c e)).keep (tx_upd nf) (upd_ne hp)
      · exact (stp_hid (Stp.refl H1 C1) hD (st2.trans s25) nf).less hs
    | false =>
      obtain ⟨C6, hs, q⟩ := q
      obtain ⟨e5, n5⟩ := s24.hid D _ eD cD
      exact ⟨acc, vacc, C6, e5, ra.mono s24.tx, rl5.less hs, (st2.trans s24).less hs, hs.none n5, by omega, q⟩
  · have e : i = items.length := by omega
    subst e
    refine .inl ⟨w.stops H2 C2 rb o, k _ _ H2 (up C2 D (.lst acc)) ?_ ⟨?_, fun p c e => ?_⟩ (repP D) (hd acc C2 D hp2 cD)⟩
    · refine st1.trans ⟨st2.tx, fun p u e n => ?_⟩
      obtain ⟨a1, a2⟩ := st2.hid p u e n
      exact ⟨a1, by rw [up_ne (ne_of_none e hD)]; exact a2⟩
    · refine rl1.st.trans ⟨st2.tx, fun p u e n => ?_⟩
      obtain ⟨a1, a2⟩ := st2.hid p u e n
      exact ⟨a1, by rw [up_ne (ne_of_none e hD)]; exact a2⟩
    · by_cases hp : p = D
      · subst hp
        rw [up_same] at e
        cases e
        exact ⟨vacc, eD, ra⟩
      · rw [up_ne hp] at e
        exact rl2.ok p c e
theorem j_lc {elt : Expr} {ifs : List Expr} {scope : Scope} (own : List (Str × Nat)) {g : TG} {τg : DG} {tt : DT} {te : DE} (hc : X.calm = true) (hN : X.N.Nodup) (hi : JI X B tg a src) (hgl : GL X.K B (own.map (·.2)) g τg)
    (hg : ∀ (s : Shared) (H : Hp) (C : Addr) (cl : List (Str × Addr)) (fp : List Addr), PG (X.blk s H scope (compEnvC scope cl C X.env) fp) tg g)
    (ht : ∀ (s : Shared) (H : Hp) (C : Addr) (cl : List (Str × Addr)) (fp : List Addr), JTs (X.blk s H scope (compEnvC scope cl C X.env) fp) B ifs tt)
    (he : ∀ (s : Shared) (H : Hp) (C : Addr) (cl : List (Str × Addr)) (fp : List Addr), JE (X.blk s H scope (compEnvC scope cl C X.env) fp) B elt te) (ok : blkC X.N X.env.scope scope own = true := by decide +kernel) (hs : ∀ x, foldedSetIterable a X.env x = pure x := by intro _; rfl) :
    JE X B (.ListComp elt [⟨tg, a, ifs, 0⟩] scope pos) (dLc src τg tt te (own.map (·.2))) := PE.imp (pe_lc hc hN hi (blkOk_by ok) hg ht he hs) fun _ _ _ h => lc_lift hgl h
theorem js_setLc {i : Nat} {y : Str} {py spos : Pos} {elt : Expr} {ifs : List Expr} {scope : Scope} (own : List (Str × Nat)) {g : TG} {τg : DG} {tt : DT} {te : DE} (hc : X.calm = true) (hN : X.N.Nodup) (hi : JI X B tg a src) (hgl : GL X.K B (own.map (·.2)) g τg)
    (hg : ∀ (s : Shared) (H : Hp) (C : Addr) (cl : List (Str × Addr)) (fp : List Addr), PG (X.blk s H scope (compEnvC scope cl C X.env) fp) tg g)
    (ht : ∀ (s : Shared) (H : Hp) (C : Addr) (cl : List (Str × Addr)) (fp : List Addr), JTs (X.blk s H scope (compEnvC scope cl C X.env) fp) B ifs tt)
    (he : ∀ (s : Shared) (H : Hp) (C : Addr) (cl : List (Str × Addr)) (fp : List Addr), JE (X.blk s H scope (compEnvC scope cl C X.env) fp) B elt te)
    (hsw : swapsWith (.ListComp elt [⟨tg, a, ifs, 0⟩] scope pos) (some (.Name y py)) spos.line X.env = pure true)
    (hy : X.N[i]? = some y := by rfl) (hyl : X.env.scope.names.lookup y = some .local := by rfl) (ok : blkC X.N X.env.scope scope own = true := by decide +kernel) (hs : ∀ x, foldedSetIterable a X.env x = pure x := by intro _; rfl) :
    JS X B (.Assign [.Name y py] (.ListComp elt [⟨tg, a, ifs, 0⟩] scope pos) spos) (dAsg (dLc src τg tt te (own.map (·.2))) (gNm i)) := PS.imp (ps_setLc hc hN hy hyl hsw hi (blkOk_by ok) hg ht he hs) fun D σ H h => by
  obtain ⟨sl, C, Dd, rs, rl, h, k⟩ := h
  exact lc_lift (Q := fun x H1 => gName i x σ H1 D.nx) hgl ⟨sl, C, _, rs, rl, h, fun v d H1 C1 st1 rl1 r q => k.nx _ _ H1 C1 st1 rl1 ((rs.mono st1.tx).setD r i) q⟩
end
end KB

/-! KB6: defs, calls, built-ins, methods over data. -/
namespace KB
open PySem PySem.Spec PyProof.Rows SeqAt
open L2 hiding op_eqD op_neD
/-! ### defs -/
/-- a def that raises nothing: its promise by data -/
def lSp (P : Program) (w : World) (K : PySem.W.Frag) (n : Nat) (F : DSp) : Sp := fun vs H Q _ => vs.length = n ∧ ∃ ds C Qd, Reps K H ds vs ∧ (∀ p c, C p = some c → CellOk P w K H p c) ∧ F ds C Qd (fun _ _ => False) ∧ ∀ v d H' C', Stp H C H' C' → (∀ p c, C' p = some c → CellOk P w K H' p c) → Rep K H' d v → Qd d C' → Q v H'
/-- a body as a def: n names, the parameters first; what is not wanted at its end is let go -/
def runD (np n : Nat) (rd : DS) : DSp := fun ds C Q _ => ds.length = np ∧ rd { nx := fun _ C' => ∃ C'', Sub C'' C' ∧ Q .non C'', rt := fun d C' => ∃ C'', Sub C'' C' ∧ Q d C'' } (ds.map some ++ List.replicate (n - ds.length) none) C
theorem reps_start {K : PySem.W.Frag} {H : Hp} : ∀ {ds : List D} {vs : List V}, Reps K H ds vs → RepS K H (ds.map some) (vs.map some)
  | [], _, h => by cases h; exact .nil
  | d :: ds, _, h => by
    obtain ⟨v, r, rfl, a, t⟩ := h
    exact .cons (fun e q => by cases q; exact ⟨v, rfl, a⟩) (reps_start t)
theorem paired_append {α β : Type} {F : α → β → Prop} : ∀ {a c : List α} {b d : List β}, Paired F a b → Paired F c d → Paired F (a ++ c) (b ++ d)
  | _, _, _, _, .nil, h => h
  | _, _, _, _, .cons r t, h => .cons r (paired_append t h)
theorem reps_none {K : PySem.W.Frag} {H : Hp} : ∀ n : Nat, RepS K H (List.replicate n none) (List.replicate n none)
  | 0 => .nil
  | n + 1 => .cons (fun e q => nomatch q) (reps_none n)
section
variable {P : Program} {w : World} {K : PySem.W.Frag} {mg : Str → Option Value} {base : Heap}
/-- the context of a def's body, as the rules want it -/
structure CtxOk (X : Cx) (P : Program) (w : World) (K : PySem.W.Frag) (mg : Str → Option Value) (base : Heap) (k : Nat) : Prop where
  hP : X.prog = P
  hw : X.w = w
  hK : X.K = K
  hm : X.mg = mg
  hb : X.base = base
  hr : Room k X.A
  hc : X.calm = true
theorem fnok_of {x qual : Str} {st : Stmt} {f : Addr} {fd : FuncData} {N ps : List Str} {k n : Nat} {rd : DS} (F : Fun K x qual st f fd) (S : FnScope N ps (defScope st)) (hn : ps.length = n)
    (hbody : ∀ (cdv : Value) (A : Around) (outer : List Env) (s : Shared) (H : Hp) (E : XK) (B : Bs), B.P = P → B.w = w → Room k (A.deeper (envOfC qual (defScope st) s.heap.objs.size f cdv)) →
      JSs (cxOf CX0 P w K mg base N qual (defScope st) f cdv A outer s H E).nox B (defBody st) rd) : FnOk P w K mg base CX0 (k + 1) f fd ps (lSp P w K n (runD n N.length rd)) := by
  refine F.ok S (fun vs H Q E h => h.1.trans hn.symm) (fun cdv A outer s H vs Q E hr h => ?_)
  obtain ⟨hl, ds, C, Qd, r, ok, ⟨hl2, h⟩, k⟩ := h
  refine ⟨_, hbody cdv A outer s H E ⟨H, C, P, w⟩ rfl rfl hr, ds.map some ++ List.replicate (N.length - ds.length) none, C, _, ?_, ⟨Stp.refl _ _, ok⟩, h, ⟨fun σ sl H' C' st rl rs q => ?_, fun v d H' C' st rl r q => ?_, fun _ _ _ _ _ _ _ q => q.elim, fun _ _ _ _ _ _ _ q => q.elim⟩⟩
  · unfold L2.start
    rw [r.length]
    exact paired_append (reps_start r) (reps_none _)
  · obtain ⟨C'', hs, q⟩ := q
    exact k _ _ H' C'' (st.less hs) (fun p c e => rl.ok p c (hs p c e)) repN q
  · obtain ⟨C'', hs, q⟩ := q
    exact k _ _ H' C'' (st.less hs) (fun p c e => rl.ok p c (hs p c e)) r q
end
section
variable {X : Cx} {B : Bs} {pos : Pos} {a b c tg e o : Expr} {ta tb tc to ty tv : DE} {rest es : List Expr} {tr : DA} {K : PySem.W.Frag}
/-- f(..), dd the defaults -/
def dCall (F : DSp) (dd : List D) (t : DA) : DE := fun s C Q => t s C fun ds C1 => F (ds ++ dd) C1 Q fun _ _ => False
theorem call_lift {n : Nat} {F : DSp} {dd : List D} {dvs : List V} {σ : L2.St} {H : Hp} {Q : VK} (hd : ∀ H, Reps K H dd dvs) (hl : ∀ ds C Q E, F ds C Q E → ds.length = n) (h : lE K B (dCall F dd tr) σ H Q) : tCall (lSp B.P B.w K n F) dvs E0 (lA K B tr) σ H Q := by
  obtain ⟨sl, C, Qd, rs, rl, h, k⟩ := h
  refine ⟨sl, C, _, rs, rl, h, fun vs ds H1 C1 st1 rl1 r q => ?_⟩
  have r2 := r.append (hd H1)
  exact ⟨by rw [← r2.length]; exact hl _ _ _ _ q, ds ++ dd, C1, Qd, r2, rl1.ok, q, fun v d H' C' st ok r q => k v d H' C' (st1.trans st) ⟨rl1.st.trans st, ok⟩ r q⟩
theorem j_call {k n : Nat} {f : Addr} {fd : FuncData} {ps : List Str} {F : DSp} {ds : List Value} {x : Str} {p : Pos} (dd : List D) {dvs : List V} (G : FnOk X.prog X.w X.K X.mg X.base CX0 k f fd ps (lSp B.P B.w X.K n F)) (hr : Room k X.A) (hm : X.mg x = some (.ref f)) (hk : PySem.W.keepIn X.K (.ref f) = true) (hb : Binds X.K fd ps ds)
    (hl : ∀ ds C Q E, F ds C Q E → ds.length = n) (hd : Vals dvs ds) (hdd : ∀ H, Reps X.K H dd dvs) (ha : JA X B (e :: es) tr) (hg : Gl X x := by rfl) (hdb : (x == ("__debug__" : Str)) = false := by decide)
    (he : starEach (e :: es) X.env = (false, eval e X.env) :: starEach es X.env := by rfl) (hpl : (backTo pos (starEach es X.env)).any (·.1) = false := by rfl) : JE X B (.Call (.Name x p) (e :: es) [] pos) (dCall F dd tr) :=
  PE.imp (pe_call G hr hg hm hk hb hd pass0 ha hdb he hpl) fun _ _ _ h => call_lift hdd hl h
/-! ### built-ins by name -/
def dCB (r : List D → Cp → DQ → Prop) (t : DA) : DE := fun s C Q => t s C fun ds C1 => r ds C1 Q
theorem cb_lift {r : List D → Cp → DQ → Prop} {σ : L2.St} {H : Hp} {Q : VK} (h : lE K B (dCB r tr) σ H Q) : tCB (lC K B r) (lA K B tr) σ H Q := by
  obtain ⟨sl, C, Qd, rs, rl, h, k⟩ := h
  exact ⟨sl, C, _, rs, rl, h, fun vs ds H1 C1 st1 rl1 r q => ⟨ds, C1, Qd, r, rl1, q, fun v d H' C' st => k v d H' C' (st1.trans st)⟩⟩
theorem j_callB {x : Str} {p : Pos} {id : String} {r : List D → Cp → DQ → Prop} (hc : CallD X B (.builtin id) r) (hm : X.mg x = none) (hv : bootBuiltins x = some (.builtin id)) (ha : JA X B (e :: es) tr) (hg : Gl X x := by rfl) (hn : x ≠ "__name__" := by decide) (hdb : (x == ("__debug__" : Str)) = false := by decide)
    (he : starEach (e :: es) X.env = (false, eval e X.env) :: starEach es X.env := by rfl) (hpl : (backTo pos (starEach es X.env)).any (·.1) = false := by rfl) : JE X B (.Call (.Name x p) (e :: es) [] pos) (dCB r tr) := PE.imp (pe_callB hc hg hm hv ha hn hdb he hpl) fun _ _ _ h => cb_lift h
theorem j_callTy {x : Str} {p : Pos} {T : String} {r : List D → Cp → DQ → Prop} (hc : CallD X B (.type T) r) (hm : X.mg x = none) (hv : bootBuiltins x = some (.type T)) (ha : JA X B (e :: es) tr) (hg : Gl X x := by rfl) (hn : x ≠ "__name__" := by decide) (hdb : (x == ("__debug__" : Str)) = false := by decide)
    (he : starEach (e :: es) X.env = (false, eval e X.env) :: starEach es X.env := by rfl) (hpl : (backTo pos (starEach es X.env)).any (·.1) = false := by rfl) : JE X B (.Call (.Name x p) (e :: es) [] pos) (dCB r tr) := PE.imp (pe_callTy hc hg hm hv ha hn hdb he hpl) fun _ _ _ h => cb_lift h
def lenD (C : Cp) : D → Nat → Prop
  | .tup ds, n => n = ds.length
  | .str l, n => l.length ≤ sizeLine ∧ n = l.length
  | .ptr p, n => ∃ ds, isL C p ds ∧ n = ds.length
  | _, _ => False
def lenR : List D → Cp → DQ → Prop := fun ds C Q => ∃ d n, ds = [d] ∧ lenD C d n ∧ Q (.int (n : Int)) C
theorem call_lenD0 : CallD X B (.builtin "len") lenR := by
  intro pins s σ H xs us Q I rx h
  obtain ⟨ds, C, Qd, r, rl, ⟨d, n, e, hl, h⟩, k⟩ := h
  subst e
  obtain ⟨v, r2, rfl, hv, hn⟩ := r
  cases hn
  cases d with
  | tup ds =>
    obtain ⟨p, vs, rfl, hq, hr⟩ := hv
    have hl : n = ds.length := hl
    subst hl
    exact call_len_seq pins s σ H _ us Q I rx ⟨p, vs, rfl, .inr hq, k _ (.int _) H C (Stp.refl _ _) rl (by rw [hr.length]; exact repI _) h⟩
  | str l =>
    cases hv
    obtain ⟨hz, hl⟩ := hl
    subst hl
    exact call_len_str pins s σ H _ us Q I rx ⟨_, rfl, by simpa [Str.length] using hz, k _ (.int _) H C (Stp.refl _ _) rl (by show V.int _ = V.int _; simp [Str.length]) h⟩
  | ptr p =>
    cases hv
    obtain ⟨ds, hl, e⟩ := hl
    subst e
    obtain ⟨vs, hq, hr⟩ := hl.sq rl
    exact call_len_seq pins s σ H _ us Q I rx ⟨p, vs, rfl, .inl hq, k _ (.int _) H C (Stp.refl _ _) rl (by rw [hr.length]; exact repI _) h⟩
  | _ => exact False.elim hl
def lenKR : List D → Cp → DQ → Prop := fun ds C Q => ∃ p kvs, ds = [.ptr p] ∧ C p = some (.dk kvs) ∧ Q (.int (kvs.length : Int)) C
def absR : List D → Cp → DQ → Prop := fun ds C Q => ∃ i, ds = [.int i] ∧ Q (.int (if i < 0 then -i else i)) C
theorem call_absD : CallD X B (.builtin "abs") absR := by
  intro pins s σ H xs us Q I rx h
  obtain ⟨ds, C, Qd, r, rl, ⟨i, e, h⟩, k⟩ := h
  subst e
  obtain ⟨v, r2, rfl, hv, hn⟩ := r
  cases hn; cases hv
  exact call_abs pins s σ H _ us Q I rx ⟨i, rfl, k _ (.int _) H C (Stp.refl _ _) rl rfl h⟩
def max2R : List D → Cp → DQ → Prop := fun ds C Q => ∃ i j, ds = [.int i, .int j] ∧ Q (.int (if j > i then j else i)) C
def min2R : List D → Cp → DQ → Prop := fun ds C Q => ∃ i j, ds = [.int i, .int j] ∧ Q (.int (if j < i then j else i)) C
theorem call_max2D (hc : X.calm = true) : CallD X B (.builtin "max") max2R := by
  intro pins s σ H xs us Q I rx h
  obtain ⟨ds, C, Qd, r, rl, ⟨i, j, e, h⟩, k⟩ := h
  subst e
  obtain ⟨v, r2, rfl, hv, w, r3, rfl, hw, hn⟩ := r
  cases hn; cases hv; cases hw
  exact call_max2 hc pins s σ H _ us Q I rx ⟨i, j, rfl, k _ (.int _) H C (Stp.refl _ _) rl rfl h⟩
theorem call_min2D (hc : X.calm = true) : CallD X B (.builtin "min") min2R := by
  intro pins s σ H xs us Q I rx h
  obtain ⟨ds, C, Qd, r, rl, ⟨i, j, e, h⟩, k⟩ := h
  subst e
  obtain ⟨v, r2, rfl, hv, w, r3, rfl, hw, hn⟩ := r
  cases hn; cases hv; cases hw
  exact call_min2 hc pins s σ H _ us Q I rx ⟨i, j, rfl, k _ (.int _) H C (Stp.refl _ _) rl rfl h⟩
def intR : List D → Cp → DQ → Prop := fun ds C Q => (∃ i, ds = [.int i] ∧ Q (.int i) C) ∨ ∃ b, ds = [.bl b] ∧ Q (.int (if b = true then 1 else 0)) C
theorem call_intD : CallD X B (.type "int") intR := by
  intro pins s σ H xs us Q I rx h
  obtain ⟨ds, C, Qd, r, rl, h, k⟩ := h
  rcases h with ⟨i, e, h⟩ | ⟨i, e, h⟩
  · subst e
    obtain ⟨v, r2, rfl, hv, hn⟩ := r
    cases hn; cases hv
    exact call_int1 pins s σ H _ us Q I rx (.inl ⟨i, rfl, k _ (.int _) H C (Stp.refl _ _) rl rfl h⟩)
  · subst e
    obtain ⟨v, r2, rfl, hv, hn⟩ := r
    cases hn; cases hv
    exact call_int1 pins s σ H _ us Q I rx (.inr ⟨i, rfl, k _ (.int _) H C (Stp.refl _ _) rl rfl h⟩)
/-- any, all of a list of truths -/
def anyR : List D → Cp → DQ → Prop := fun ds C Q => ∃ (p : Addr) (bs : List Bool), ds = [.ptr p] ∧ isL C p (bs.map D.bl) ∧ Q (.bl (bs.any id)) C
def allR : List D → Cp → DQ → Prop := fun ds C Q => ∃ (p : Addr) (bs : List Bool), ds = [.ptr p] ∧ isL C p (bs.map D.bl) ∧ Q (.bl (bs.all id)) C
theorem call_anyD (hc : X.calm = true) : CallD X B (.builtin "any") anyR := by
  intro pins s σ H xs us Q I rx h
  obtain ⟨ds, C, Qd, r, rl, ⟨p, bs, e, hl, h⟩, k⟩ := h
  subst e
  obtain ⟨v, r2, rfl, hv, hn⟩ := r
  cases hn; cases hv
  obtain ⟨vs, hq, hr⟩ := hl.sq rl
  rw [hr.bools] at hq
  exact cr_any hc pins s σ H _ us Q I rx ⟨p, bs, rfl, hq, k _ (.bl _) H C (Stp.refl _ _) rl rfl h⟩
theorem call_allD (hc : X.calm = true) : CallD X B (.builtin "all") allR := by
  intro pins s σ H xs us Q I rx h
  obtain ⟨ds, C, Qd, r, rl, ⟨p, bs, e, hl, h⟩, k⟩ := h
  subst e
  obtain ⟨v, r2, rfl, hv, hn⟩ := r
  cases hn; cases hv
  obtain ⟨vs, hq, hr⟩ := hl.sq rl
  rw [hr.bools] at hq
  exact cr_all hc pins s σ H _ us Q I rx ⟨p, bs, rfl, hq, k _ (.bl _) H C (Stp.refl _ _) rl rfl h⟩
/-- list(..), tuple(..) of a list or a tuple -/
def itemsD (C : Cp) : D → List D → Prop
  | .tup ds, xs => xs = ds
  | .ptr p, xs => isL C p xs
  | _, _ => False
def listR : List D → Cp → DQ → Prop := fun ds C Q => ∃ d xs, ds = [d] ∧ itemsD C d xs ∧ ∀ p, C p = none → Q (.ptr p) (up C p (.lst xs))
def tupleR : List D → Cp → DQ → Prop := fun ds C Q => ∃ d xs, ds = [d] ∧ itemsD C d xs ∧ Q (.tup xs) C
theorem call_listD : CallD X B (.type "list") listR := by
  intro pins s σ H xs us Q I rx h
  obtain ⟨ds, C, Qd, r, rl, ⟨d, ys, e, hl, h⟩, k⟩ := h
  subst e
  obtain ⟨v, r2, rfl, hv, hn⟩ := r
  cases hn
  cases d with
  | tup ds =>
    obtain ⟨p, vs, rfl, hq, hr⟩ := hv
    have hl : ys = ds := hl
    subst hl
    refine call_list_of pins s σ H _ us Q I rx ⟨p, vs, rfl, .inr hq, fun l hn => ?_⟩
    obtain ⟨a1, a2⟩ := rl.newL hn hr
    exact k _ _ _ _ a1 a2 (repP l) (h l (rl.fresh hn))
  | ptr p =>
    cases hv
    obtain ⟨vs, hq, hr⟩ := isL.sq rl hl
    refine call_list_of pins s σ H _ us Q I rx ⟨p, vs, rfl, .inl hq, fun l hn => ?_⟩
    obtain ⟨a1, a2⟩ := rl.newL hn hr
    exact k _ _ _ _ a1 a2 (repP l) (h l (rl.fresh hn))
  | _ => exact False.elim hl
theorem call_tupleD : CallD X B (.type "tuple") tupleR := by
  intro pins s σ H xs us Q I rx h
  obtain ⟨ds, C, Qd, r, rl, ⟨d, ys, e, hl, h⟩, k⟩ := h
  subst e
  obtain ⟨v, r2, rfl, hv, hn⟩ := r
  cases hn
  cases d with
  | tup ds =>
    obtain ⟨p, vs, rfl, hq, hr⟩ := hv
    have hl : ys = ds := hl
    subst hl
    exact call_tuple_of pins s σ H _ us Q I rx ⟨p, vs, rfl, .inr ⟨hq, k _ (.tup ys) H C (Stp.refl _ _) rl ⟨p, vs, rfl, hq, hr⟩ h⟩⟩
  | ptr p =>
    cases hv
    obtain ⟨vs, hq, hr⟩ := isL.sq rl hl
    refine call_tuple_of pins s σ H _ us Q I rx ⟨p, vs, rfl, .inl ⟨hq, fun l hn => ?_⟩⟩
    obtain ⟨a1, a2, a3⟩ := rl.newT hn hr
    exact k _ _ _ _ a1 a2 a3 h
  | _ => exact False.elim hl
/-! ### methods of built-in types -/
def tyD (C : Cp) (T : String) : D → Prop
  | .str _ => T = "str"
  | .ptr p => (T = "list" ∧ ∃ ds, isL C p ds) ∨ (T = "dict" ∧ ((∃ kvs, C p = some (.dk kvs)) ∨ ∃ kvs, C p = some (.dt kvs)))
  | _ => False
theorem tyD_ok {H : Hp} {C : Cp} {T : String} {d : D} {x : V} (rl : Rl K B H C) (r : Rep K H d x) (h : tyD C T d) : tyV K T x H := by
  cases d with
  | str l => cases r; exact h
  | ptr p =>
    cases r
    rcases h with ⟨e, ds, hl⟩ | ⟨e, ⟨kvs, hl⟩ | ⟨kvs, hl⟩⟩
    · obtain ⟨vs, hq, _⟩ := hl.sq rl
      exact .inl ⟨e, vs, hq⟩
    · obtain ⟨ws, e1, _⟩ := rl.ok _ _ hl
      exact .inr (.inr (.inl ⟨e, .inl ⟨ws, e1⟩⟩))
    · obtain ⟨ws, e1, _⟩ := rl.ok _ _ hl
      exact .inr (.inr (.inl ⟨e, .inr ⟨ws, e1⟩⟩))
  | _ => exact False.elim h
def dBM (T : String) (r : D → List D → Cp → DQ → Prop) (to : DE) (t : DA) : DE := fun s C Q => to s C fun d C1 => tyD C1 T d ∧ t s C1 fun ds C2 => r d ds C2 Q
def dBM0 (T : String) (r : D → List D → Cp → DQ → Prop) (to : DE) : DE := fun s C Q => to s C fun d C1 => tyD C1 T d ∧ r d [] C1 Q
theorem j_bm {T : String} {name : Str} {id : String} {apos : Pos} {r : D → List D → Cp → DQ → Prop} (pa : PlainAttrs T) (slot : Slot T name id) (hty : typeOf (.builtin id) = pure (.type "method_descriptor")) (hm : MtD X B id r) (ho : JE X B o to) (ha : JA X B (e :: es) tr)
    (hbase : attributeBase o name X.env (eval o X.env) = eval o X.env := by rfl)
    (hfew : ((backTo pos (starEach (e :: es) X.env)).all (fun x => !x.1) && (backToKw pos (keywordEach [] X.env)).all (fun x => x.1.isSome)
      && decide ((e :: es).length + ([] : List Keyword).length + (if ([] : List Keyword).isEmpty then 0 else 1) < 30)) = true := by rfl)
    (hline : (apos.endLine == pos.line) = true := by rfl) (hs : starEach (e :: es) X.env = (false, eval e X.env) :: starEach es X.env := by rfl) (hplain : (backTo pos (starEach es X.env)).any (·.1) = false := by rfl) :
    JE X B (.Call (.Attribute o name apos) (e :: es) [] pos) (dBM T r to tr) := PE.imp (pe_bm pa slot hty hm ho ha hbase hfew hline hs hplain) fun σ H Q h => by
  obtain ⟨sl, C, Qd, rs, rl, h, k⟩ := h
  exact ⟨sl, C, _, rs, rl, h, fun v d H1 C1 st1 rl1 r1 ⟨ty, q⟩ => ⟨tyD_ok rl1 r1 ty, sl, C1, _, rs.mono st1.tx, rl1, q, fun vs ds H2 C2 st2 rl2 r2 q => ⟨d, ds, C2, Qd, r1.mono st2.tx, r2, rl2, q, fun v e H' C' st => k v e H' C' ((st1.trans st2).trans st)⟩⟩⟩
theorem j_bm0 {T : String} {name : Str} {id : String} {apos : Pos} {r : D → List D → Cp → DQ → Prop} (pa : PlainAttrs T) (slot : Slot T name id) (hty : typeOf (.builtin id) = pure (.type "method_descriptor")) (hm : MtD X B id r) (ho : JE X B o to)
    (hbase : attributeBase o name X.env (eval o X.env) = eval o X.env := by rfl) (hline : (apos.endLine == pos.line) = true := by rfl) : JE X B (.Call (.Attribute o name apos) [] [] pos) (dBM0 T r to) := PE.imp (pe_bm0 pa slot hty hm ho hbase hline) fun σ H Q h => by
  obtain ⟨sl, C, Qd, rs, rl, h, k⟩ := h
  exact ⟨sl, C, _, rs, rl, h, fun v d H1 C1 st1 rl1 r1 ⟨ty, q⟩ => ⟨tyD_ok rl1 r1 ty, d, [], C1, Qd, r1, .nil, rl1, q, fun v e H' C' st => k v e H' C' (st1.trans st)⟩⟩
theorem Rl.setL {H : Hp} {C : Cp} (rl : Rl K B H C) {p : Addr} {ds es : List D} {vs ws : List V} (hc : C p = some (.lst ds)) (hp : H p = some (.lst vs)) (r : Reps K H es ws) : Stp H C (upd H p (.lst ws)) (up C p (.lst es)) ∧ Rl K B (upd H p (.lst ws)) (up C p (.lst es)) := by
  have nf : ¬ Frz (H p) := by rw [hp]; exact id
  have hn : C p ≠ none := by rw [hc]; exact fun z => nomatch z
  exact ⟨stp_put nf (.inl hn), rl.put nf (.inl hn) ⟨ws, upd_same, r.mono (tx_upd nf)⟩⟩
def appendR : D → List D → Cp → DQ → Prop := fun d ds C Q => ∃ p xs y, d = .ptr p ∧ ds = [y] ∧ C p = some (.lst xs) ∧ xs.length < sizeLine ∧ Q .non (up C p (.lst (xs ++ [y])))
theorem mt_appendD : MtD X B "list.append" appendR := by
  intro pins s σ H x xs v us Q I rx rs h
  obtain ⟨d, ds, C, Qd, r1, r2, rl, ⟨p, ys, y, e1, e2, hc, hz, h⟩, k⟩ := h
  subst e1 e2
  cases r1
  obtain ⟨w, r3, rfl, hw, hn⟩ := r2
  cases hn
  obtain ⟨vs, hp, hr⟩ := rl.cells hc
  obtain ⟨a1, a2⟩ := rl.setL hc hp (hr.append (.cons hw .nil))
  exact mt_append pins s σ H _ _ v us Q I rx rs ⟨p, vs, w, rfl, rfl, hp, by rw [← hr.length]; exact hz, k _ _ _ _ a1 a2 repN h⟩
def extendR : D → List D → Cp → DQ → Prop := fun d ds C Q => ∃ p q xs ys, d = .ptr p ∧ ds = [.ptr q] ∧ C p = some (.lst xs) ∧ C q = some (.lst ys) ∧ xs.length + ys.length ≤ sizeLine ∧ Q .non (up C p (.lst (xs ++ ys)))
theorem mt_extendD : MtD X B "list.extend" extendR := by
  intro pins s σ H x xs v us Q I rx rs h
  obtain ⟨d, ds, C, Qd, r1, r2, rl, ⟨p, q, ys, zs, e1, e2, hc, hc2, hz, h⟩, k⟩ := h
  subst e1 e2
  cases r1
  obtain ⟨w, r3, rfl, hw, hn⟩ := r2
  cases hn; cases hw
  obtain ⟨vs, hp, hr⟩ := rl.cells hc
  obtain ⟨ws, hp2, hr2⟩ := rl.cells hc2
  obtain ⟨a1, a2⟩ := rl.setL hc hp (hr.append hr2)
  exact mt_extend pins s σ H _ _ v us Q I rx rs ⟨p, q, vs, ws, rfl, rfl, hp, hp2, by rw [← hr.length, ← hr2.length]; exact hz, k _ _ _ _ a1 a2 repN h⟩
theorem reps_eraseIdx {H : Hp} : ∀ {ds : List D} {vs : List V} (i : Nat), Reps K H ds vs → Reps K H (ds.eraseIdx i) (vs.eraseIdx i)
  | [], _, _, h => by cases h; exact .nil
  | _ :: _, _, 0, h => by
    obtain ⟨w, r, rfl, a, t⟩ := h
    exact t
  | _ :: _, _, i + 1, h => by
    obtain ⟨w, r, rfl, a, t⟩ := h
    exact ⟨w, _, rfl, a, reps_eraseIdx i t⟩
def popAtR : D → List D → Cp → DQ → Prop := fun d ds C Q => ∃ p xs i k y, d = .ptr p ∧ ds = [.int i] ∧ C p = some (.lst xs) ∧ -(2 ^ 63) ≤ i ∧ i < 2 ^ 63 ∧ seqIndex? i xs.length = some k ∧ xs[k]? = some y ∧ Q y (up C p (.lst (xs.eraseIdx k)))
end
end KB

/-! KB7: what is collected of a thing; sorted. -/
namespace KB
open PySem PySem.Spec PyProof.Rows SeqAt
open L2 hiding op_eqD op_neD
mutual
def toP : D → PyData
  | .non => .none
  | .bl b => .bool b
  | .int i => .int i
  | .str l => .str ⟨l.toArray⟩
  | .tup ds => .tuple (toPs ds)
  | .ptr _ => .none
  | .ty _ => .none
def toPs : List D → List PyData
  | [] => []
  | d :: ds => toP d :: toPs ds
end
theorem toPs_map : ∀ ds : List D, toPs ds = ds.map toP
  | [] => rfl
  | d :: ds => by unfold toPs; rw [toPs_map ds]; rfl
mutual
theorem depth_toP : ∀ d : D, (toP d).depth = dep d
  | .non => by unfold toP PyData.depth dep; rfl
  | .bl _ => by unfold toP PyData.depth dep; rfl
  | .int _ => by unfold toP PyData.depth dep; rfl
  | .str _ => by unfold toP PyData.depth dep; rfl
  | .ptr _ => by unfold toP PyData.depth dep; rfl
  | .ty _ => by unfold toP PyData.depth dep; rfl
  | .tup ds => by
    unfold toP PyData.depth dep
    rw [depths_toP ds]
theorem depths_toP : ∀ ds : List D, PyData.depthAll (toPs ds) = deps ds
  | [] => by unfold toPs PyData.depthAll deps; rfl
  | d :: ds => by
    unfold toPs PyData.depthAll deps
    rw [depth_toP d, depths_toP ds]
end
section
variable {K : PySem.W.Frag} {H : Hp}
mutual
theorem dp_of : ∀ (d : D) (v : V), npt d = true → Rep K H d v → Dp K H v (toP d)
  | .non, _, _, h => by cases h; unfold toP; exact .non
  | .bl _, _, _, h => by cases h; unfold toP; exact .bl _
  | .int _, _, _, h => by cases h; unfold toP; exact .int _
  | .str _, _, _, h => by cases h; unfold toP; exact .str _
  | .ptr _, _, n, _ => by unfold npt at n; cases n
  | .ty _, _, n, _ => by unfold npt at n; cases n
  | .tup ds, _, n, h => by
    obtain ⟨a, vs, rfl, hq, hr⟩ := h
    unfold toP
    exact .tup hq (dps_of ds vs n hr)
theorem dps_of : ∀ (ds : List D) (vs : List V), npts ds = true → Reps K H ds vs → DpAll K H vs (toPs ds)
  | [], _, _, h => by cases h; unfold toPs; exact .nil
  | d :: ds, _, n, h => by
    obtain ⟨v, r, rfl, a, t⟩ := h
    unfold npts at n
    rw [Bool.and_eq_true] at n
    unfold toPs
    exact .cons (dp_of d v n.1 a) (dps_of ds r n.2 t)
end
end
def leP : D → D → Bool := W.dataLe false toP
theorem repK_keys {α β : Type} {f : α → β} {K : PySem.W.Frag} {H : Hp} {kvs : List (α × D)} {ws : List (β × V)} (q : RepK f K H kvs ws) : (kvs.map fun kv => f kv.1) = ws.map (·.1) := by
  unfold RepK at q
  induction q with
  | nil => rfl
  | cons r t ih => rw [List.map_cons, List.map_cons, r.1, ih]
/-- what iterating gives: of a list, a tuple, a dict its keys -/
def collD (C : Cp) : D → List D → Prop
  | .tup ds, xs => xs = ds
  | .str l, xs => l.length ≤ sizeLine ∧ xs = l.map fun c => .str [c]
  | .ptr p, xs => isL C p xs ∨ (∃ kvs, C p = some (.dk kvs) ∧ xs = kvs.map fun kv => keyD kv.1) ∨ ∃ kvs, C p = some (.dg kvs) ∧ xs = kvs.map fun kv => kv.1
  | _, _ => False
theorem paired_at {α β : Type} {F : α → β → Prop} : ∀ {a : List α} {b : List β}, Paired F a b → ∀ {j : Nat} (h1 : j < a.length) (h2 : j < b.length), F a[j] b[j]
  | _, _, .nil, _, h1, _ => by simp at h1
  | _, _, .cons r t, 0, _, _ => r
  | _, _, .cons r t, j + 1, h1, h2 => paired_at t (by simpa using h1) (by simpa using h2)
/-- values stand for data, by a heap that goes on -/
def Stand (X : Cx) (H : Hp) (ds : List D) (its : List Value) : Prop := ∃ vs, Reps X.K H ds vs ∧ Vals vs its
theorem keyD_rep {K : PySem.W.Frag} {H : Hp} (k : DKey) : Rep K H (keyD k) (kV (keyOf k)) := by
  cases k with
  | inl i => rfl
  | inr l => rfl
theorem keyDs_rep {K : PySem.W.Frag} {H : Hp} : ∀ ks : List DKey, Reps K H (ks.map keyD) ((ks.map keyOf).map kV)
  | [] => rfl
  | k :: ks => ⟨_, _, rfl, keyD_rep k, keyDs_rep ks⟩
theorem reps_of_at {K : PySem.W.Frag} {H : Hp} : ∀ {ds : List D} {us : List Value}, us.length = ds.length → (∀ (j : Nat) (u : Value), us[j]? = some u → ∃ d v, ds[j]? = some d ∧ Rep K H d v ∧ RelV v u) → ∃ vs, Reps K H ds vs ∧ Vals vs us
  | [], [], _, _ => ⟨[], rfl, .nil⟩
  | d :: ds, u :: us, hl, h => by
    obtain ⟨d', v, e1, e2, e3⟩ := h 0 u rfl
    have e1 : d = d' := Option.some.inj e1
    subst e1
    obtain ⟨vs, a1, a2⟩ := reps_of_at (ds := ds) (us := us) (by simpa using hl) fun j w e => h (j + 1) w (by simpa using e)
    exact ⟨v :: vs, ⟨v, vs, rfl, e2, a1⟩, .cons e3 a2⟩
  | [], _ :: _, hl, _ => by simp at hl
  | _ :: _, [], hl, _ => by simp at hl
section
variable {X : Cx} {B : Bs} {pins : List (Addr × Obj)} {σ : L2.St} {H : Hp} {s : Shared}
theorem collect_D {A : Around} {E : Value → Shared → Prop} {R : List Value → Shared → Prop} {C : Cp} {d : D} {x : V} {u : Value} {xs : List D} (hB : B.P = X.prog ∧ B.w = X.w) (hA : A.handled = none) (I : Inv X pins σ H s) (rl : Rl X.K B H C) (r : Rep X.K H d x) (rv : RelV x u) (hc : collD C d xs)
    (h : ∀ its h' tk, xs.length ≤ sizeLine → (∀ b o, s.heap.get? b = some o → h'.get? b = some o) → Stand X H xs its → R its { s with heap := h', toks := tk }) : wpAny (model X.prog X.w) A (collect u) R E s := by
  cases d with
  | tup ds =>
    have hc : xs = ds := hc
    subst hc
    obtain ⟨p, vs, rfl, hq, hr⟩ := r
    cases rv
    obtain ⟨its, rv2, ⟨o, ho, hc, n, hd⟩, hz⟩ := I.tuple hq
    exact wpAny_collect_seq p (T := "tuple") (.inr rfl) ho hc hd (fun h' hk => h its h' s.toks (by rw [hr.length]; exact hz) hk ⟨vs, hr, rv2⟩) (by rw [List.size_toArray, ← rv2.length]; exact hz)
  | ptr p =>
    cases r; cases rv
    rcases hc with hl | ⟨kvs, hl, e⟩ | ⟨kvs, hl, e⟩
    · obtain ⟨vs, hq, hr⟩ := isL.sq rl hl
      obtain ⟨its, rv2, pt, hz⟩ := I.list hq
      obtain ⟨o, ho, hc, n, hd⟩ := pt.isList
      exact wpAny_collect_seq p (T := "list") (.inl rfl) ho hc hd (fun h' hk => h its h' s.toks (by rw [hr.length]; exact hz) hk ⟨vs, hr, rv2⟩) (by rw [List.size_toArray, ← rv2.length]; exact hz)
    · subst e
      obtain ⟨ws, e1, q⟩ := rl.ok _ _ hl
      obtain ⟨z, lo, vs, rel, dd⟩ := dk_of I.hok e1
      obtain ⟨ep, hat⟩ := dd.dictAt
      have l1 : kvs.length = vs.length := (Paired.length q).trans (Paired.length rel)
      have z' : kvs.length ≤ sizeLine := by rw [Paired.length q]; exact z
      refine PySem.W.kdu_collect (A := A) (PySem.W.kdl_dict (knd := mixKind X.prog X.w) (kvs := vs) (ep := ep) lo) hA hat (by rw [← l1]; exact z') fun h' tk acc hk hacc => h acc.toList h' tk (by rw [List.length_map]; exact z') hk ?_
      refine reps_of_at (by rw [Array.length_toList, hacc.1, List.length_map, l1]) fun j u e => ?_
      obtain ⟨k, x, e2, e3⟩ := hacc.2 j u (by rw [← Array.getElem?_toList]; exact e)
      have hj : j < kvs.length := by rw [l1]; exact (List.getElem?_eq_some_iff.mp e2).1
      have ek : keyOf kvs[j].1 = k := by
        have hq1 : (kvs.map fun kv => keyOf kv.1) = ws.map (·.1) := repK_keys q
        have hq2 : (kvs.map fun kv => keyOf kv.1) = vs.map (·.1) := hq1.trans rel.keys
        have := congrArg (fun l => l[j]?) hq2
        simp only [List.getElem?_map, List.getElem?_eq_getElem hj, e2, Option.map_some] at this
        exact Option.some.inj this
      refine ⟨keyD kvs[j].1, kV (keyOf kvs[j].1), by simp [hj], keyD_rep _, ?_⟩
      rw [ek]
      rcases keyIs_shape e3 with ⟨i, t, ek, ev⟩ | ⟨z, t, ek, ev⟩
      · subst ek; exact ⟨t, ev⟩
      · subst ek; exact ⟨t, ev⟩
    · subst e
      obtain ⟨xs, e1, q, kg⟩ := rl.ok _ _ hl
      rw [hB.1, hB.2] at e1
      obtain ⟨o, es, ep, h1, h2, h3, h4, h5, h6, lo⟩ : _ := (I.hok p _ e1).1
      have l0 : kvs.length = xs.length := Paired.length q
      have l2 : es.size = xs.length := by rw [← Array.length_toList, h4, List.length_map]
      refine PySem.W.kdu_collect (A := A) (PySem.KdlSrc.rawDict (es := es) (ep := ep) lo) hA ⟨o, h1, h2, h3⟩ (by rw [l2]; exact h6) fun h' tk acc hk hacc => h acc.toList h' tk (by rw [List.length_map, l0]; exact h6) hk ?_
      refine reps_of_at (by rw [Array.length_toList, hacc.1, List.length_map, l2, l0]) fun j u e => ?_
      obtain ⟨hi, e2⟩ := hacc.2 j u (by rw [← Array.getElem?_toList]; exact e)
      have hj : j < kvs.length := by omega
      have hjx : j < xs.length := by omega
      obtain ⟨r1, r2, r3⟩ := paired_at q hj hjx
      have e4 : es[j].key = .ref xs[j].2.1 := by
        have : es.toList[j]? = some (entryOfKey (nestedKind X.prog X.w) xs[j]) := by rw [h4, List.getElem?_map, List.getElem?_eq_getElem hjx]; rfl
        rw [Array.getElem?_toList, Array.getElem?_eq_getElem hi] at this
        rw [Option.some.inj this]
        rfl
      exact ⟨kvs[j].1, .ref xs[j].2.1, by simp [hj], r2, by rw [e2, e4]; rfl⟩
  | str l =>
    cases r
    obtain ⟨t, rfl⟩ := rv
    obtain ⟨hz, e⟩ := hc
    subst e
    refine wpAny_collect_str hA ⟨l.toArray⟩ t (fun s' acc hk hg hd ho hi => ?_) (by simpa using hz)
    obtain ⟨h', g', d', t', o'⟩ := s'
    simp only at hg hd ho hk
    subst hg hd ho
    refine h acc.toList h' t' (by rw [List.length_map]; exact hz) hk (reps_of_at (by rw [Array.length_toList, hi.1]; simp) fun j u e => ?_)
    obtain ⟨c, t2, hc, hu⟩ := hi.2 j u (by rw [← Array.getElem?_toList]; exact e)
    refine ⟨.str [c], .str ⟨#[c]⟩, ?_, rfl, t2, hu⟩
    have hc : l.toArray[j]? = some c := hc
    simp at hc
    simp [hc]
  | _ => exact False.elim hc
end
section
variable {X : Cx} {B : Bs} {pins : List (Addr × Obj)} {σ : L2.St} {H : Hp} {s : Shared}
theorem eachIs_of : ∀ {ds : List D} {vs : List V} {its : List Value} {R : Value → D → Prop}, Reps X.K H ds vs → Vals vs its → (∀ d v u, d ∈ ds → Rep X.K H d v → RelV v u → R u d) → W.EachIs R its ds
  | [], _, _, _, h, r, _ => by
    cases h
    cases r
    exact .nil
  | d :: ds, _, _, _, h, r, k => by
    obtain ⟨v, vr, rfl, a, t⟩ := h
    cases r with
    | cons r1 r2 => exact .cons (k d v _ (by simp) a r1) (eachIs_of t r2 fun d v u m => k d v u (by simp [m]))
theorem stand_of : ∀ {ds : List D} {its : List Value}, W.EachIs (fun u d => ∃ v, Rep X.K H d v ∧ RelV v u) its ds → Stand X H ds its
  | [], _, h => by cases h; exact ⟨[], rfl, .nil⟩
  | d :: ds, _, h => by
    cases h with
    | cons h1 h2 =>
      obtain ⟨v, a, b⟩ := h1
      obtain ⟨vs, c, e⟩ := stand_of h2
      exact ⟨v :: vs, ⟨v, vs, rfl, a, c⟩, .cons b e⟩
/-- the items may be sorted: alike, no places within -/
structure SortOk (xs : List D) : Prop where
  al : W.AllAlike (xs.map toP)
  so : W.Sortable (xs.map toP)
  np : ∀ x ∈ xs, npt x = true ∧ dep x ≤ 60
def sortedR : List D → Cp → DQ → Prop := fun ds C Q => ∃ d xs, ds = [d] ∧ collD C d xs ∧ SortOk xs ∧ ∀ p, C p = none → Q (.ptr p) (up C p (.lst (xs.mergeSort leP)))
theorem call_sortedD (hB : B.P = X.prog ∧ B.w = X.w) (hr : X.A.units + 70 < cLine) (hcalm : X.calm = true) : CallD X B (.builtin "sorted") sortedR := by
  intro pins s σ H ys us Q I rx hh
  obtain ⟨ds, C, Qd, r, rl, ⟨d, xs, e, hc, so, hq⟩, k⟩ := hh
  subst e
  obtain ⟨v, r2, rfl, hv, hn⟩ := r
  cases hn
  obtain ⟨u, rfl, ru⟩ := vals1 rx
  refine Calls.call_function_entry PyProof.Rows.kind_sorted PyProof.Rows.plain_sorted PyProof.Rows.entry_sorted (PyProof.Rows.args_sorted1 _) ?_
  unfold Builtin.«sorted»
  refine wpAny_bind (m := checkCount "sorted" 1 1 _) (wpAny_pure ?_)
  refine wpAny_bind (collect_D (A := X.A.in1) hB (I.ok.hd hcalm) I rl hv ru hc fun its h' tk hz hk st => ?_)
  obtain ⟨vs, hr1, hr2⟩ := st
  have hl : its.length ≤ sizeLine := by rw [← hr2.length, ← hr1.length]; exact hz
  refine wpAny_bind (wpAny_newList ?_ hl)
  have hoL : (h'.push (seqObj "list" its.toArray 0)).get? h'.objs.size = some (seqObj "list" its.toArray 0) := Heap.get?_push_size _ rfl
  have I1 : Inv X pins σ H { s with heap := h', toks := tk } := I.kept hk
  have keep : ∀ b o, h'.get? b = some o → (W.sortingHeap (h'.push (seqObj "list" its.toArray 0)) h'.objs.size its).get? b = some o := fun b o e =>
    W.sortingHeap_old (Nat.ne_of_lt (Heap.lt_size e)) (Heap.get?_push_of_some _ e)
  have er : W.EachIs (fun u d => ∃ as, Reads (W.sortingHeap (h'.push (seqObj "list" its.toArray 0)) h'.objs.size its) u (toP d) as) its xs := eachIs_of hr1 hr2 fun d v u m a b => by
    obtain ⟨as, q⟩ := Dp.reads I1 (toP d) v u (dp_of d v (so.np d m).1 a) b
    exact ⟨as, PyProof.Rows.Reads.keeps keep q⟩
  show wpAny _ _ _ _ _ { s with heap := h'.push (seqObj "list" its.toArray 0), toks := tk }
  have S : W.SortsAt X.prog X.w X.A.in1.in1 { s with heap := W.sortingHeap (h'.push (seqObj "list" its.toArray 0)) h'.objs.size its, toks := tk } (W.dataKind (W.sortingHeap (h'.push (seqObj "list" its.toArray 0)) h'.objs.size its) (xs.map toP)) its :=
    W.SortsAt.data (s := { s with heap := W.sortingHeap (h'.push (seqObj "list" its.toArray 0)) h'.objs.size its, toks := tk }) (W.each_map (R := fun v d => ∃ as, Reads _ v d as) toP er) so.al so.so fun d hd => by
      obtain ⟨b, hb, rfl⟩ := List.mem_map.mp hd
      rw [depth_toP]
      have := (so.np b hb).2
      show X.A.units + 1 + 1 + _ < cLine
      omega
  refine wpAny_bind (wpAny_holding (wpAny_call_entry PyProof.Rows.slot_list_sort ⟨_, hoL, rfl⟩ PyProof.Rows.entry_list_sort
    (W.list_sort_vals (s := { s with heap := h'.push (seqObj "list" its.toArray 0), toks := tk }) hoL S hl ⟨_, rfl, ?_⟩) (PyProof.Rows.args_list_sort _)))
  have out : W.EachIs (fun u d => ∃ v, Rep X.K H d v ∧ RelV v u) _ (xs.mergeSort leP) := W.sortVals_data (R := fun u d => ∃ v, Rep X.K H d v ∧ RelV v u) false (eachIs_of hr1 hr2 fun d v u _ a b => ⟨v, a, b⟩) er so.al
  obtain ⟨ws, g1, g2⟩ := stand_of (X := X) (H := H) out
  obtain ⟨e', he'⟩ := PyProof.Rows.sortedHeap_at (vs := its) (out := (W.sortVals (W.dataKind (W.sortingHeap (h'.push (seqObj "list" its.toArray 0)) h'.objs.size its) (xs.map toP)) false its its).toArray) hoL
  have hlen : ws.length ≤ sizeLine := by
    rw [← g1.length, List.length_mergeSort]
    exact hz
  have hfr : H h'.objs.size = none := I1.hok.fresh (Nat.le_refl _)
  obtain ⟨a1, a2⟩ := rl.newL (p := h'.objs.size) hfr g1
  refine wpAny_pure ⟨_, rfl, .ref h'.objs.size, upd H h'.objs.size (.lst ws), I1.laid (t' := tk) (fun b u e => ?_) (Nat.le_refl _)
    (show ObjOk X.prog X.w _ _ _ (.lst ws) from ⟨hlen, _, e', g2, he'⟩), rfl, k _ _ _ _ a1 a2 (repP _) (hq _ (rl.fresh hfr))⟩
  have hb : b < h'.objs.size := Heap.lt_size e
  rw [PyProof.Rows.sortedHeap_old (Nat.ne_of_lt hb) (by rw [size_push']; exact Nat.lt_succ_of_lt hb)]
  exact Heap.get?_push_of_some _ e
end
end KB

/-! KB8: dicts over data. -/
namespace KB
open PySem PySem.Spec PyProof.Rows SeqAt
open L2 hiding op_eqD op_neD
section
variable {κ α : Type} [DecidableEq κ]
def lookA (kvs : List (κ × α)) (k : κ) : Option α := (kvs.find? fun kv => decide (kv.1 = k)).map (·.2)
def putA (kvs : List (κ × α)) (k : κ) (v : α) : List (κ × α) := if (kvs.any fun kv => decide (kv.1 = k)) = true then kvs.map (fun kv => if kv.1 = k then (kv.1, v) else kv) else kvs ++ [(k, v)]
def delA (kvs : List (κ × α)) (k : κ) : List (κ × α) := kvs.filter fun kv => decide (kv.1 ≠ k)
theorem lookA_nil {k : κ} : lookA ([] : List (κ × α)) k = none := rfl
theorem lookA_cons {p : κ × α} {r : List (κ × α)} {k : κ} : lookA (p :: r) k = if p.1 = k then some p.2 else lookA r k := by
  unfold lookA
  rw [List.find?_cons]
  by_cases h : p.1 = k
  · simp [h]
  · simp [h]
theorem lookA_any (k : κ) : ∀ kvs : List (κ × α), (kvs.any fun kv => decide (kv.1 = k)) = (lookA kvs k).isSome
  | [] => rfl
  | p :: r => by
    rw [List.any_cons, lookA_any k r, lookA_cons]
    by_cases h : p.1 = k
    · simp [h]
    · simp [h]
theorem putA_len (kvs : List (κ × α)) (k : κ) (v : α) : (putA kvs k v).length ≤ kvs.length + 1 := by
  unfold putA
  split <;> simp
theorem lookA_map (k j : κ) (y : α) : ∀ kvs : List (κ × α), lookA (kvs.map fun kv => if kv.1 = k then (kv.1, y) else kv) j = (lookA kvs j).map fun x => if j = k then y else x
  | [] => rfl
  | p :: r => by
    rw [List.map_cons, lookA_cons, lookA_cons, lookA_map k j y r]
    by_cases h : p.1 = k
    · subst h
      by_cases h2 : p.1 = j
      · subst h2
        simp
      · simp [h2]
    · by_cases h2 : p.1 = j
      · subst h2
        simp [h]
      · simp [h, h2]
theorem lookA_snoc (k j : κ) (y : α) : ∀ kvs : List (κ × α), lookA (kvs ++ [(k, y)]) j = match lookA kvs j with | some x => some x | none => if k = j then some y else none
  | [] => by rw [List.nil_append, lookA_cons]; rfl
  | p :: r => by
    rw [List.cons_append, lookA_cons, lookA_cons, lookA_snoc k j y r]
    by_cases h : p.1 = j
    · simp [h]
    · simp [h]
theorem lookA_put (kvs : List (κ × α)) (k j : κ) (y : α) : lookA (putA kvs k y) j = if j = k then some y else lookA kvs j := by
  unfold putA
  rw [lookA_any]
  cases e : lookA kvs k with
  | some x =>
    simp only [Option.isSome_some, if_true]
    rw [lookA_map]
    by_cases h : j = k
    · subst h
      rw [e]
      simp
    · cases lookA kvs j <;> simp [h]
  | none =>
    simp only [Option.isSome_none, Bool.false_eq_true, if_false]
    rw [lookA_snoc]
    by_cases h : j = k
    · subst h
      rw [e]
    · have h2 : ¬ k = j := fun z => h z.symm
      simp only [h, h2, if_false]
      cases lookA kvs j <;> rfl
theorem lookA_del (k j : κ) : ∀ kvs : List (κ × α), lookA (delA kvs k) j = if j = k then none else lookA kvs j
  | [] => by
    unfold delA
    rw [List.filter_nil, lookA_nil]
    simp
  | p :: r => by
    have ih := lookA_del k j r
    unfold delA at ih ⊢
    rw [List.filter_cons]
    by_cases h : p.1 = k
    · simp only [h, ne_eq, not_true, decide_false, Bool.false_eq_true, if_false]
      rw [ih, lookA_cons]
      by_cases h2 : j = k
      · simp [h2]
      · have h3 : ¬ k = j := fun z => h2 z.symm
        simp [h2, h, h3]
    · simp only [h, ne_eq, not_false_eq_true, decide_true, if_true]
      rw [lookA_cons, ih, lookA_cons]
      by_cases h2 : p.1 = j
      · subst h2
        simp [h]
      · simp [h2]
end
/-! dicts whose keys are tuples -/
def lookG (kvs : List (D × D)) (k : D) : Option D := (kvs.find? fun kv => decide (nk kv.1 = nk k)).map (·.2)
def putG (kvs : List (D × D)) (k v : D) : List (D × D) := if (lookG kvs k).isSome then kvs.map (fun kv => if nk kv.1 = nk k then (kv.1, v) else kv) else kvs ++ [(k, v)]
def delG (kvs : List (D × D)) (k : D) : List (D × D) := kvs.filter fun kv => decide (nk kv.1 ≠ nk k)
mutual
theorem nk_inj : ∀ (a b : D), flatG a = true → flatG b = true → nk a = nk b → a = b
  | a, .ptr _, _, h, _ => by unfold flatG at h; cases h
  | a, .ty _, _, h, _ => by unfold flatG at h; cases h
  | a, .bl _, _, h, _ => by unfold flatG at h; cases h
  | .ptr _, b, h, _, _ => by unfold flatG at h; cases h
  | .ty _, b, h, _, _ => by unfold flatG at h; cases h
  | .bl _, b, h, _, _ => by unfold flatG at h; cases h
  | .non, .non, _, _, _ => rfl
  | .int i, .int j, _, _, h => by unfold nk at h; injection h with h; rw [h]
  | .str l, .str m, _, _, h => by
    unfold nk at h
    injection h with h
    rw [sOf_inj h]
  | .tup ds, .tup es, h1, h2, h => by
    unfold nk at h
    injection h with h
    rw [nks_inj ds es h1 h2 h]
  | .non, .int _, _, _, h => by unfold nk at h; cases h
  | .non, .str _, _, _, h => by unfold nk at h; cases h
  | .non, .tup _, _, _, h => by unfold nk at h; cases h
  | .int _, .non, _, _, h => by unfold nk at h; cases h
  | .int _, .str _, _, _, h => by unfold nk at h; cases h
  | .int _, .tup _, _, _, h => by unfold nk at h; cases h
  | .str _, .non, _, _, h => by unfold nk at h; cases h
  | .str _, .int _, _, _, h => by unfold nk at h; cases h
  | .str _, .tup _, _, _, h => by unfold nk at h; cases h
  | .tup _, .non, _, _, h => by unfold nk at h; cases h
  | .tup _, .int _, _, _, h => by unfold nk at h; cases h
  | .tup _, .str _, _, _, h => by unfold nk at h; cases h
theorem nks_inj : ∀ (a b : List D), flatGs a = true → flatGs b = true → nks a = nks b → a = b
  | [], [], _, _, _ => rfl
  | [], _ :: _, _, _, h => by unfold nks at h; cases h
  | _ :: _, [], _, _, h => by unfold nks at h; cases h
  | x :: xs, y :: ys, h1, h2, h => by
    unfold flatGs at h1 h2
    rw [Bool.and_eq_true] at h1 h2
    unfold nks at h
    injection h with h3 h4
    rw [nk_inj x y h1.1 h2.1 h3, nks_inj xs ys h1.2 h2.2 h4]
end
mutual
theorem npt_of_flatG : ∀ d : D, flatG d = true → npt d = true
  | .non, _ => rfl
  | .bl _, _ => rfl
  | .int _, _ => rfl
  | .str _, _ => rfl
  | .ptr _, h => by unfold flatG at h; cases h
  | .ty _, h => by unfold flatG at h; cases h
  | .tup ds, h => by
    unfold flatG at h
    unfold npt
    exact npts_of_flatGs ds h
theorem npts_of_flatGs : ∀ ds : List D, flatGs ds = true → npts ds = true
  | [], _ => rfl
  | d :: ds, h => by
    unfold flatGs at h
    rw [Bool.and_eq_true] at h
    unfold npts
    rw [npt_of_flatG d h.1, npts_of_flatGs ds h.2]
    rfl
end
section
variable {X : Cx} {B : Bs} {pins : List (Addr × Obj)} {σ : L2.St} {H : Hp} {s : Shared} {C : Cp}
mutual
theorem nested_of (I : Inv X pins σ H s) : ∀ (d : D) (v : V) (u : Value), npt d = true → Rep X.K H d v → RelV v u → NestedIs s.heap (nk d) u
  | .non, _, _, _, h, r => by cases h; cases r; unfold nk; exact .none
  | .bl b, _, _, _, h, r => by cases h; cases r; unfold nk; exact .bool rfl
  | .int i, _, _, _, h, r => by cases h; obtain ⟨t, rfl⟩ := r; unfold nk; exact .int _ _
  | .str l, _, _, _, h, r => by cases h; obtain ⟨t, rfl⟩ := r; unfold nk; exact .text _ _
  | .ptr _, _, _, n, _, _ => by unfold npt at n; cases n
  | .ty _, _, _, n, _, _ => by unfold npt at n; cases n
  | .tup ds, _, _, n, h, r => by
    obtain ⟨a, vs, rfl, hq, hr⟩ := h
    cases r
    obtain ⟨its, rv, ⟨o, ho, hc, k, hd⟩, _⟩ := I.tuple hq
    unfold nk
    exact .tup ho hc hd (by rw [List.toList_toArray]; exact nesteds_of I ds vs its n hr rv)
theorem nesteds_of (I : Inv X pins σ H s) : ∀ (ds : List D) (vs : List V) (us : List Value), npts ds = true → Reps X.K H ds vs → Vals vs us → NestedAll s.heap (nks ds) us
  | [], _, _, _, h, r => by cases h; cases r; unfold nks; exact .nil
  | d :: ds, _, _, n, h, r => by
    obtain ⟨v, vr, rfl, a, t⟩ := h
    unfold npts at n
    rw [Bool.and_eq_true] at n
    cases r with
    | cons r1 r2 =>
      unfold nks
      exact .cons (nested_of I d v _ n.1 a r1) (nesteds_of I ds vr _ n.2 t r2)
end
theorem key_is (I : Inv X pins σ H s) {d : D} {a : Addr} (hk : keyG d) (r : Rep X.K H d (.ref a)) : (nestedKind X.prog X.w).is s.heap (nk d) a := ⟨nested_of I d (.ref a) (.ref a) (npt_of_flatG d hk.2.2) r rfl, hk.2.1⟩
theorem dg_of (hB : B.P = X.prog ∧ B.w = X.w) (I : Inv X pins σ H s) (rl : Rl X.K B H C) {p : Addr} {kvs : List (D × D)} (h : C p = some (.dg kvs)) :
    ∃ xs, H p = some (DgObj X.prog X.w p xs) ∧ s.heap.DictOfH (nestedKind X.prog X.w) p xs ∧ RepG X.K H kvs xs ∧ (∀ q ∈ kvs, keyG q.1) ∧ xs.length ≤ sizeLine ∧ (p == sysModules) = false := by
  obtain ⟨xs, e1, q, kg⟩ := rl.ok _ _ h
  rw [hB.1, hB.2] at e1
  obtain ⟨o, es, ep, h1, h2, h3, h4, h5, h6, lo⟩ : _ := (I.hok p _ e1).1
  refine ⟨xs, e1, ⟨o, es, ep, h1, h2, h3, h4, fun x hx => ?_, h5⟩, q, kg, h6, lo⟩
  obtain ⟨j, hj, ej⟩ := List.mem_iff_getElem.mp hx
  have hjk : j < kvs.length := by rw [Paired.length q]; exact hj
  obtain ⟨r1, r2, r3⟩ := paired_at q hjk hj
  rw [ej] at r1 r2
  rw [← r1]
  exact key_is I (kg _ (List.getElem_mem hjk)) r2
theorem repG_look {kvs : List (D × D)} {xs : List (NestedKey × Addr × Value)} (q : RepG X.K H kvs xs) (k : D) : match lookG kvs k with
    | some d => ∃ a u v, atKey xs (nk k) = some (a, u) ∧ Rep X.K H d v ∧ RelV v u
    | none => atKey xs (nk k) = none := by
  unfold RepG at q
  induction q with
  | nil => rfl
  | @cons p x ps xs r t ih =>
    unfold lookG atKey at ih ⊢
    rw [List.find?_cons, List.find?_cons]
    by_cases h : nk p.1 = nk k
    · have h2 : x.1 = nk k := by rw [← r.1]; exact h
      simp only [h, h2, decide_true, Option.map_some]
      obtain ⟨v, a, b⟩ := r.2.2
      exact ⟨_, _, v, rfl, a, b⟩
    · have h2 : ¬ x.1 = nk k := by rw [← r.1]; exact h
      simp only [h, h2, decide_false]
      exact ih
theorem repG_put {kvs : List (D × D)} {xs : List (NestedKey × Addr × Value)} (q : RepG X.K H kvs xs) {k d : D} {a : Addr} {v : V} {u : Value} (hk : Rep X.K H k (.ref a)) (r : Rep X.K H d v) (rv : RelV v u) : RepG X.K H (putG kvs k d) (storedH xs (nk k) a u) := by
  have hl := repG_look q k
  have hmap : RepG X.K H (kvs.map fun kv => if nk kv.1 = nk k then (kv.1, d) else kv) (xs.map (putAt (nk k) u)) := by
    unfold RepG at q ⊢
    clear hl
    induction q with
    | nil => exact .nil
    | @cons p x ps xs r1 t ih =>
      refine .cons ?_ ih
      unfold putAt
      by_cases h : nk p.1 = nk k
      · have h2 : x.1 = nk k := by rw [← r1.1]; exact h
        dsimp only
        rw [if_pos h, if_pos h2]
        exact ⟨r1.1, r1.2.1, v, r, rv⟩
      · have h2 : ¬ x.1 = nk k := by rw [← r1.1]; exact h
        dsimp only
        rw [if_neg h, if_neg h2]
        exact r1
  unfold putG storedH
  cases e : lookG kvs k with
  | some d' =>
    rw [e] at hl
    obtain ⟨a', u', v', e2, _⟩ := hl
    rw [e2]
    exact hmap
  | none =>
    rw [e] at hl
    rw [hl]
    exact paired_append q (.cons ⟨rfl, hk, v, r, rv⟩ .nil)
theorem repG_del {kvs : List (D × D)} {xs : List (NestedKey × Addr × Value)} (q : RepG X.K H kvs xs) (k : D) : RepG X.K H (delG kvs k) (withoutH xs (nk k)) := by
  unfold RepG at q ⊢
  unfold delG withoutH
  induction q with
  | nil => exact .nil
  | @cons p x ps xs r1 t ih =>
    rw [List.filter_cons, List.filter_cons]
    by_cases h : nk p.1 = nk k
    · have h2 : x.1 = nk k := by rw [← r1.1]; exact h
      simp only [h, h2, ne_eq, not_true, decide_false, Bool.false_eq_true, if_false]
      exact ih
    · have h2 : ¬ x.1 = nk k := by rw [← r1.1]; exact h
      simp only [h, h2, ne_eq, not_false_eq_true, decide_true, if_true]
      exact .cons r1 ih
theorem repK_look {kvs : List (DKey × D)} {ws : List (Key × V)} (q : RepK keyOf X.K H kvs ws) (k : DKey) : match lookA kvs k with
    | some d => ∃ v, valV ws (keyOf k) = some v ∧ Rep X.K H d v
    | none => valV ws (keyOf k) = none := by
  unfold RepK at q
  induction q with
  | nil => rfl
  | @cons p x ps xs r t ih =>
    rw [lookA_cons]
    by_cases h : p.1 = k
    · rw [if_pos h, valV_pos (by rw [← r.1, h])]
      exact ⟨_, rfl, r.2⟩
    · rw [if_neg h, valV_neg (by rw [← r.1]; exact fun z => h (keyOf_inj z))]
      exact ih
theorem repK_put {kvs : List (DKey × D)} {ws : List (Key × V)} (q : RepK keyOf X.K H kvs ws) (k : DKey) {d : D} {v : V} (r : Rep X.K H d v) : RepK keyOf X.K H (putA kvs k d) (putK ws (keyOf k) v) := by
  have hl := repK_look q k
  have hmap : RepK keyOf X.K H (kvs.map fun kv => if kv.1 = k then (kv.1, d) else kv) (ws.map fun kv => if kv.1 = keyOf k then (kv.1, v) else kv) := by
    unfold RepK at q ⊢
    clear hl
    induction q with
    | nil => exact .nil
    | @cons p x ps xs r1 t ih =>
      refine .cons ?_ ih
      by_cases h : p.1 = k
      · have h2 : x.1 = keyOf k := by rw [← r1.1, h]
        dsimp only
        rw [if_pos h, if_pos h2]
        exact ⟨r1.1, r⟩
      · have h2 : ¬ x.1 = keyOf k := by rw [← r1.1]; exact fun z => h (keyOf_inj z)
        dsimp only
        rw [if_neg h, if_neg h2]
        exact r1
  unfold putA putK
  rw [lookA_any, valV_any]
  cases e : lookA kvs k with
  | some d' =>
    rw [e] at hl
    obtain ⟨v', e2, _⟩ := hl
    rw [e2]
    exact hmap
  | none =>
    rw [e] at hl
    rw [hl]
    exact paired_append q (.cons ⟨rfl, r⟩ .nil)
theorem repK_del {kvs : List (DKey × D)} {ws : List (Key × V)} (q : RepK keyOf X.K H kvs ws) (k : DKey) : RepK keyOf X.K H (delA kvs k) (dropK ws (keyOf k)) := by
  unfold RepK at q ⊢
  unfold delA dropK
  induction q with
  | nil => exact .nil
  | @cons p x ps xs r1 t ih =>
    rw [List.filter_cons, List.filter_cons]
    by_cases h : p.1 = k
    · have h2 : x.1 = keyOf k := by rw [← r1.1, h]
      simp only [h, h2, ne_eq, not_true, decide_false, Bool.false_eq_true, if_false]
      exact ih
    · have h2 : ¬ x.1 = keyOf k := by rw [← r1.1]; exact fun z => h (keyOf_inj z)
      simp only [h, h2, ne_eq, not_false_eq_true, decide_true, if_true]
      exact .cons r1 ih
/-- what the dict at p holds at y -/
def gotD (C : Cp) (p : Addr) (y : D) (r : Option D) : Prop := (∃ kvs k, C p = some (.dk kvs) ∧ y = keyD k ∧ r = lookA kvs k) ∨ ∃ kvs, C p = some (.dg kvs) ∧ keyG y ∧ r = lookG kvs y
/-- the dict at p behind p[y] = v -/
def putsD (C : Cp) (p : Addr) (y v : D) (C' : Cp) : Prop := (∃ kvs k, C p = some (.dk kvs) ∧ y = keyD k ∧ kvs.length < sizeLine ∧ C' = up C p (.dk (putA kvs k v))) ∨ ∃ kvs, C p = some (.dg kvs) ∧ keyG y ∧ kvs.length < sizeLine ∧ C' = up C p (.dg (putG kvs y v))
theorem keyD_val {k : DKey} {x : V} (r : Rep X.K H (keyD k) x) : x = kV (keyOf k) := by
  cases k with
  | inl i => exact r
  | inr l => exact r
theorem getItem_D {A : Around} {E : Value → Shared → Prop} {Q : Value → Shared → Prop} (hB : B.P = X.prog ∧ B.w = X.w) (hu : A.units + 20 < cLine) (I : Inv X pins σ H s) (rl : Rl X.K B H C) {p : Addr} {y d : D} {x : V} {u : Value} (g : gotD C p y (some d)) (r : Rep X.K H y x) (rv : RelV x u)
    (h : ∀ w' v s', Inv X pins σ H s' → Rep X.K H d v → RelV v w' → Q w' s') : wpAny (model X.prog X.w) A (getItem (.ref p) u) Q E s := by
  rcases g with ⟨kvs, k, e, ey, er⟩ | ⟨kvs, e, hk, er⟩
  · subst ey
    obtain ⟨ws, e1, q⟩ := rl.ok _ _ e
    have hl := repK_look q k
    rw [← er] at hl
    obtain ⟨v, e2, hv⟩ := hl
    have hx := keyD_val r
    subst hx
    exact d_getItem (by omega) I (by have := DGet.k (k := keyOf k) e1; rw [e2] at this; exact this) rv fun w' s' I' rw' => h w' v s' I' hv rw'
  · obtain ⟨xs, e1, hm, q, kg, hz, lo⟩ := dg_of hB I rl e
    have hl := repG_look q y
    rw [← er] at hl
    obtain ⟨a, u', v, e2, hv, hr⟩ := hl
    obtain ⟨ds, hds⟩ := hk.1
    have hr' := r
    rw [hds] at r
    obtain ⟨b, vs, rfl, _, _⟩ := r
    cases rv
    exact wpAny_getItem_heap (show A.units + 1 + 8 < cLine by omega) (key_is I hk hr') hm e2 (h u' v _ (I.tok _) hv hr)
theorem setItem_D {A : Around} {E : Value → Shared → Prop} {Q : Unit → Shared → Prop} {C' : Cp} (hB : B.P = X.prog ∧ B.w = X.w) (hu : A.units + 20 < cLine) (I : Inv X pins σ H s) (rl : Rl X.K B H C) {p : Addr} {y d : D} {x v : V} {u z : Value} (g : putsD C p y d C') (r : Rep X.K H y x) (rv : RelV x u) (r2 : Rep X.K H d v) (rv2 : RelV v z)
    (h : ∀ H' s', Inv X pins σ H' s' → Stp H C H' C' → Rl X.K B H' C' → Q () s') : wpAny (model X.prog X.w) A (setItem (.ref p) u z) Q E s := by
  rcases g with ⟨kvs, k, e, ey, hl, eC⟩ | ⟨kvs, e, hk, hl, eC⟩
  · subst ey eC
    obtain ⟨ws, e1, q⟩ := rl.ok _ _ e
    have hx := keyD_val r
    subst hx
    have nf : ¬ Frz (H p) := by rw [e1]; exact id
    have hn : C p ≠ none := by rw [e]; exact fun z => nomatch z
    exact d_setItem (by omega) I (DPut.k (k := keyOf k) e1 (by rw [← Paired.length q]; exact hl)) rv rv2 fun s' I' => h _ s' I' (stp_put nf (.inl hn)) (rl.put nf (.inl hn) ⟨_, upd_same, (repK_put q k r2).mono (tx_upd nf)⟩)
  · subst eC
    obtain ⟨xs, e1, hm, q, kg, hz, lo⟩ := dg_of hB I rl e
    have nf : ¬ Frz (H p) := by rw [e1]; exact id
    have hn : C p ≠ none := by rw [e]; exact fun z => nomatch z
    obtain ⟨ds, hds⟩ := hk.1
    have hr' := r
    rw [hds] at r
    obtain ⟨b, vs, rfl, _, _⟩ := r
    cases rv
    have q2 := repG_put q hr' r2 rv2
    have hz2 : (storedH xs (nk y) b z).length ≤ sizeLine := by
      rw [← Paired.length q2]
      unfold putG
      split
      · rw [List.length_map]; omega
      · rw [List.length_append]; show kvs.length + 1 ≤ _; omega
    refine wpAny_setItem_heap (hsz := hz) (show A.units + 1 + 8 < cLine by omega) (key_is I hk hr') hm fun h' hm' hs => h (upd H p (DgObj X.prog X.w p (storedH xs (nk y) b z))) _ ?_ (stp_put nf (.inl hn)) (rl.put nf (.inl hn) ?_)
    · obtain ⟨o, es, ep, h1, h2, h3, h4, h5, h6⟩ := hm'
      refine d_write I (by rw [e1]; exact True.intro) hs ⟨o, h1⟩ ⟨⟨o, es, ep, h1, h2, h3, h4, h6, hz2, lo⟩, ⟨o, h1⟩, fun ha hb ⟨o, es, ep, a1, a2⟩ k => ⟨o, es, ep, k o a1, a2⟩⟩
    · rw [hB.1, hB.2]
      refine ⟨_, upd_same, q2.mono (tx_upd nf), fun x hx => ?_⟩
      unfold putG at hx
      split at hx
      · obtain ⟨x0, hx0, rfl⟩ := List.mem_map.mp hx
        have : (if nk x0.1 = nk y then (x0.1, d) else x0).1 = x0.1 := by split <;> rfl
        rw [this]
        exact kg _ hx0
      · rcases List.mem_append.mp hx with hx | hx
        · exact kg _ hx
        · have : x = (y, d) := by simpa using hx
          rw [this]
          exact hk
end
end KB

/-! KB9: in, dict expressions, stores, texts, isinstance. -/
namespace KB
open PySem PySem.Spec PyProof.Rows SeqAt
open L2 hiding op_eqD op_neD
def memD (ds : List D) (x : D) : Bool := ds.any fun d => eqD d x
section
variable {X : Cx} {pins : List (Addr × Obj)} {σ : L2.St} {H : Hp} {s : Shared}
open Classical in
noncomputable def eqBy (K : PySem.W.Frag) (H : Hp) (x : D) (y : Value) : Bool := if h : ∃ d, npt d = true ∧ ∃ v, Rep K H d v ∧ RelV v y then eqD h.choose x else false
theorem eqBy_is (I : Inv X pins σ H s) {d x : D} {v : V} {y : Value} (n : npt d = true) (r : Rep X.K H d v) (rv : RelV v y) : eqBy X.K H x y = eqD d x := by
  have h : ∃ d, npt d = true ∧ ∃ v, Rep X.K H d v ∧ RelV v y := ⟨d, n, v, r, rv⟩
  unfold eqBy
  rw [dif_pos h]
  obtain ⟨n2, v2, r2, rv2⟩ := h.choose_spec
  have : v2 = v := RelV.inj rv2 rv
  subst this
  rw [rep_inj I _ _ _ n2 n r2 r]
theorem any_eqBy (I : Inv X pins σ H s) {x : D} : ∀ {ds : List D} {vs : List V} {us : List Value}, npts ds = true → Reps X.K H ds vs → Vals vs us → us.any (eqBy X.K H x) = memD ds x
  | [], _, _, _, h, r => by cases h; cases r; rfl
  | d :: ds, _, _, n, h, r => by
    obtain ⟨v, vr, rfl, a, t⟩ := h
    unfold npts at n
    rw [Bool.and_eq_true] at n
    cases r with
    | cons r1 r2 =>
      show (_ || _) = (_ || _)
      rw [eqBy_is I n.1 a r1, any_eqBy I n.2 t r2]
      rfl
end
section
variable {X : Cx} {B : Bs}
/-- x in a tuple, a list -/
def inR (neg : Bool) : D → D → Cp → DQ → Prop
  | x, .tup ds, C, Q => npt x = true ∧ okEqs ds ∧ Q (.bl (if neg then !memD ds x else memD ds x)) C
  | x, .ptr p, C, Q => ∃ ds, isL C p ds ∧ npt x = true ∧ okEqs ds ∧ Q (.bl (if neg then !memD ds x else memD ds x)) C
  | _, _, _, _ => False
theorem in_items {pins : List (Addr × Obj)} {s : Shared} {σ : L2.St} {H : Hp} (I : Inv X pins σ H s) {A : Around} {ds : List D} {vs : List V} {its : List Value} {dx : D} {x : V} {v : Value} (hA : A.units + 70 < cLine) (ok : okEqs ds) (nx : npt dx = true) (hr : Reps X.K H ds vs) (rv : Vals vs its) (r1 : Rep X.K H dx x) (rx : RelV x v) :
    ∀ y, y ∈ its.toArray → EqAt A s y v (eqBy X.K H dx y) := by
  intro y hy
  have hy : y ∈ its := by simpa using hy
  obtain ⟨j, hj, e⟩ := List.mem_iff_getElem.mp hy
  obtain ⟨w, a1, a2, a3⟩ := getV_of hr rv hj
  rw [e] at a2
  have n := npts_mem ok.1 a3
  rw [eqBy_is I n a1 a2]
  have := deps_mem a3
  have h6 := ok.2
  exact eqAt_D I 60 _ _ A w x _ _ (by omega) n nx (by omega) a1 r1 a2 rx
theorem op_inD (hu : X.A.units + 80 < cLine) : OpD X B (compareOp .In) (inR false) := by
  intro pins s σ H x y v u Q I rx ry h
  obtain ⟨dx, dy, C, Qd, r1, r2, rl, h, k⟩ := h
  cases dy with
  | tup ds =>
    obtain ⟨h1, h2, h3⟩ := h
    obtain ⟨a, vs, rfl, hq, hr⟩ := r2
    cases ry
    obtain ⟨its, rv, p, _⟩ := I.tuple hq
    refine in_tupleAt (eqBy X.K H dx) p (in_items I (show X.A.units + 1 + 70 < cLine by omega) h2 h1 hr rv r1 rx) ⟨.bl _, H, I, rfl, k _ (.bl _) H C (Stp.refl _ _) rl (repB _) ?_⟩
    have := any_eqBy (x := dx) I h2.1 hr rv
    rw [List.any_toArray, this]
    exact h3
  | ptr q =>
    obtain ⟨ds, hl, h1, h2, h3⟩ := h
    cases r2; cases ry
    obtain ⟨vs, hq, hr⟩ := hl.sq rl
    obtain ⟨its, rv, p, _⟩ := I.list hq
    refine in_listAt (eqBy X.K H dx) p.isList (in_items I (show X.A.units + 1 + 70 < cLine by omega) h2 h1 hr rv r1 rx) ⟨.bl _, H, I, rfl, k _ (.bl _) H C (Stp.refl _ _) rl (repB _) ?_⟩
    have := any_eqBy (x := dx) I h2.1 hr rv
    rw [List.any_toArray, this]
    exact h3
  | _ => exact False.elim h
theorem op_niD (hu : X.A.units + 80 < cLine) : OpD X B (compareOp .NotIn) (inR true) := by
  intro pins s σ H x y v u Q I rx ry h
  obtain ⟨dx, dy, C, Qd, r1, r2, rl, h, k⟩ := h
  cases dy with
  | tup ds =>
    obtain ⟨h1, h2, h3⟩ := h
    obtain ⟨a, vs, rfl, hq, hr⟩ := r2
    cases ry
    obtain ⟨its, rv, p, _⟩ := I.tuple hq
    refine notIn_tupleAt (eqBy X.K H dx) p (in_items I (show X.A.units + 1 + 70 < cLine by omega) h2 h1 hr rv r1 rx) ⟨.bl _, H, I, rfl, k _ (.bl _) H C (Stp.refl _ _) rl (repB _) ?_⟩
    have := any_eqBy (x := dx) I h2.1 hr rv
    rw [List.any_toArray, this]
    exact h3
  | ptr q =>
    obtain ⟨ds, hl, h1, h2, h3⟩ := h
    cases r2; cases ry
    obtain ⟨vs, hq, hr⟩ := hl.sq rl
    obtain ⟨its, rv, p, _⟩ := I.list hq
    refine notIn_listAt (eqBy X.K H dx) p.isList (in_items I (show X.A.units + 1 + 70 < cLine by omega) h2 h1 hr rv r1 rx) ⟨.bl _, H, I, rfl, k _ (.bl _) H C (Stp.refl _ _) rl (repB _) ?_⟩
    have := any_eqBy (x := dx) I h2.1 hr rv
    rw [List.any_toArray, this]
    exact h3
  | _ => exact False.elim h
/-- a sign in a text -/
def inSR (neg : Bool) : D → D → Cp → DQ → Prop := fun x y C Q => ∃ c l, x = .str [c] ∧ y = .str l ∧ Q (.bl (if neg then !decide (c ∈ l) else decide (c ∈ l))) C
theorem op_inSD : OpD X B (compareOp .In) (inSR false) := by
  intro pins s σ H x y v u Q I rx ry h
  obtain ⟨dx, dy, C, Qd, r1, r2, rl, ⟨c, l, e1, e2, h⟩, k⟩ := h
  subst e1 e2
  cases r1; cases r2
  exact op_in_sign pins s σ H _ _ v u Q I rx ry ⟨c, _, rfl, rfl, k _ (.bl (decide (c ∈ l))) H C (Stp.refl _ _) rl rfl h⟩
theorem op_niSD : OpD X B (compareOp .NotIn) (inSR true) := by
  intro pins s σ H x y v u Q I rx ry h
  obtain ⟨dx, dy, C, Qd, r1, r2, rl, ⟨c, l, e1, e2, h⟩, k⟩ := h
  subst e1 e2
  cases r1; cases r2
  exact op_notIn_sign pins s σ H _ _ v u Q I rx ry ⟨c, _, rfl, rfl, k _ (.bl (!decide (c ∈ l))) H C (Stp.refl _ _) rl rfl h⟩
/-- truths, by is -/
def isBR (neg : Bool) : D → D → Cp → DQ → Prop := fun x y C Q => ∃ a b, x = .bl a ∧ y = .bl b ∧ Q (.bl (if neg then !decide (a = b) else decide (a = b))) C
theorem op_isBD : OpD X B (compareOp .Is) (isBR false) := by
  intro pins s σ H x y v u Q I rx ry h
  obtain ⟨dx, dy, C, Qd, r1, r2, rl, ⟨a, b, e1, e2, h⟩, k⟩ := h
  subst e1 e2
  cases r1; cases r2
  exact op_is_bl pins s σ H _ _ v u Q I rx ry ⟨a, b, rfl, rfl, k _ (.bl _) H C (Stp.refl _ _) rl rfl h⟩
theorem op_isnBD : OpD X B (compareOp .IsNot) (isBR true) := by
  intro pins s σ H x y v u Q I rx ry h
  obtain ⟨dx, dy, C, Qd, r1, r2, rl, ⟨a, b, e1, e2, h⟩, k⟩ := h
  subst e1 e2
  cases r1; cases r2
  exact op_isnot_bl pins s σ H _ _ v u Q I rx ry ⟨a, b, rfl, rfl, k _ (.bl _) H C (Stp.refl _ _) rl rfl h⟩
variable {pos apos : Pos} {o i e f value : Expr} {to ti te tf tv : DE}
/-! ### dicts -/
def dGetI (to ti : DE) : DE := fun s C Q => to s C fun x C1 => ti s C1 fun y C2 => ∃ p d, x = .ptr p ∧ gotD C2 p y (some d) ∧ Q d C2
theorem gotD.there {C : Cp} {p : Addr} {y : D} {r : Option D} (h : gotD C p y r) : (∃ kvs, C p = some (.dk kvs)) ∨ ∃ kvs, C p = some (.dg kvs) := by
  rcases h with ⟨kvs, k, e, _⟩ | ⟨kvs, e, _⟩
  · exact .inl ⟨kvs, e⟩
  · exact .inr ⟨kvs, e⟩
theorem dict_is {pins : List (Addr × Obj)} {σ : L2.St} {H : Hp} {s : Shared} {C : Cp} (hB : B.P = X.prog ∧ B.w = X.w) (I : Inv X pins σ H s) (rl : Rl X.K B H C) {p : Addr} (h : (∃ kvs, C p = some (.dk kvs)) ∨ ∃ kvs, C p = some (.dg kvs)) : s.TypeIs (.ref p) "dict" ∧ ∃ ob, s.heap.get? p = some ob ∧ ob.dict = none := by
  rcases h with ⟨kvs, h⟩ | ⟨kvs, h⟩
  · obtain ⟨ws, e1, _⟩ := rl.ok _ _ h
    obtain ⟨_, _, vs, _, o, es, ep, ho, ex, _⟩ := dk_of I.hok e1
    exact ⟨⟨o, ho, ex.1⟩, o, ho, ex.2.1⟩
  · obtain ⟨xs, e1, ⟨o, es, ep, ho, ex, _⟩, _⟩ := dg_of hB I rl h
    exact ⟨⟨o, ho, ex.1⟩, o, ho, ex.2.1⟩
theorem j_dget (hB : B.P = X.prog ∧ B.w = X.w) (hu : X.A.units + 20 < cLine) (ho : JE X B o to) (hi : JE X B i ti) (hs : NoSl i := by exact fun _ _ => rfl) : JE X B (.Subscript o i pos) (dGetI to ti) := ⟨fun pins s σ H Q I h => by
  obtain ⟨sl, C, Qd, rs, rl, h, k⟩ := h
  refine subD_of PySem.F.slot_dict_getitem.lookup hs (thn (ho.run pins s σ H (fun x H1 => ∃ dx C1, Stp H C H1 C1 ∧ Rl X.K B H1 C1 ∧ Rep X.K H1 dx x ∧ ti sl C1 fun y C2 => ∃ p d, dx = .ptr p ∧ gotD C2 p y (some d) ∧ Qd d C2) I ⟨sl, C, _, rs, rl, h, fun v d H' C' st rl' r q => ⟨d, C', st, rl', r, q⟩⟩) fun u s1 ⟨x, H1, I1, rx, dx, C1, st1, rl1, r1, q1⟩ => ?_)
  refine thn (hi.run pins s1 σ H1 (fun y H2 => ∃ dy C2, Stp H1 C1 H2 C2 ∧ Rl X.K B H2 C2 ∧ Rep X.K H2 dy y ∧ ∃ p d, dx = .ptr p ∧ gotD C2 p dy (some d) ∧ Qd d C2) I1 ⟨sl, C1, _, rs.mono st1.tx, rl1, q1, fun v d H' C' st rl' r q => ⟨d, C', st, rl', r, q⟩⟩) fun iv s2 ⟨y, H2, I2, ry, dy, C2, st2, rl2, r2, p, d, e, g, q2⟩ => ?_
  subst e
  cases r1
  obtain rfl : u = Value.ref p := rx
  exact ⟨(dict_is hB I2 rl2 g.there).1, getItem_D hB hu I2 rl2 g r2 ry fun w' v s3 I3 rw' rv => ⟨v, H2, I3, rv, k v d H2 C2 (st1.trans st2) rl2 rw' q2⟩⟩⟩
def dPutI (to ti tv : DE) : DS := fun D s C => tv s C fun v C1 => to s C1 fun x C2 => ti s C2 fun y C3 => ∃ p C4, x = .ptr p ∧ putsD C3 p y v C4 ∧ D.nx s C4
theorem js_dput {pos' : Pos} (hB : B.P = X.prog ∧ B.w = X.w) (hu : X.A.units + 20 < cLine) (ho : JE X B o to) (hi : JE X B i ti) (hv : JE X B value tv) (hs : swapsWith value (some (.Subscript o i pos')) pos.line X.env = pure false := by rfl) :
    JS X B (.Assign [.Subscript o i pos'] value pos) (dPutI to ti tv) := ⟨fun pins s σ H D I h => by
  obtain ⟨sl, C, Dd, rs, rl, h, k⟩ := h
  refine wpAny_Assign_Subscript (thn (hv.run pins s σ H (fun x H1 => ∃ dv C1, Stp H C H1 C1 ∧ Rl X.K B H1 C1 ∧ Rep X.K H1 dv x ∧ to sl C1 fun x C2 => ti sl C2 fun y C3 => ∃ p C4, x = .ptr p ∧ putsD C3 p y dv C4 ∧ Dd.nx sl C4) I ⟨sl, C, _, rs, rl, h, fun v d H' C' st rl' r q => ⟨d, C', st, rl', r, q⟩⟩) fun z s1 ⟨v, H1, I1, rv, dv, C1, st1, rl1, r1, q1⟩ => ?_) hs
  refine thn (ho.run pins s1 σ H1 (fun x H2 => ∃ dx C2, Stp H1 C1 H2 C2 ∧ Rl X.K B H2 C2 ∧ Rep X.K H2 dx x ∧ ti sl C2 fun y C3 => ∃ p C4, dx = .ptr p ∧ putsD C3 p y dv C4 ∧ Dd.nx sl C4) I1 ⟨sl, C1, _, rs.mono st1.tx, rl1, q1, fun v d H' C' st rl' r q => ⟨d, C', st, rl', r, q⟩⟩) fun u s2 ⟨x, H2, I2, rx, dx, C2, st2, rl2, r2, q2⟩ => ?_
  refine thn (hi.run pins s2 σ H2 (fun y H3 => ∃ dy C3, Stp H2 C2 H3 C3 ∧ Rl X.K B H3 C3 ∧ Rep X.K H3 dy y ∧ ∃ p C4, dx = .ptr p ∧ putsD C3 p dy dv C4 ∧ Dd.nx sl C4) I2 ⟨sl, C2, _, rs.mono (st1.trans st2).tx, rl2, q2, fun v d H' C' st rl' r q => ⟨d, C', st, rl', r, q⟩⟩) fun iv s3 ⟨y, H3, I3, ry, dy, C3, st3, rl3, r3, p, C4, e, g, q3⟩ => ?_
  subst e
  cases r2
  obtain rfl : u = Value.ref p := rx
  exact setItem_D hB hu I3 rl3 g r3 ry (r1.mono (st2.trans st3).tx) rv fun H4 s4 I4 st4 rl4 => ⟨σ, H4, I4, k.nx _ _ H4 C4 (((st1.trans st2).trans st3).trans st4) rl4 (rs.mono (((st1.trans st2).trans st3).trans st4).tx) q3⟩⟩
end
end KB

/-! KB10: dict methods, join, isinstance, pop. -/
namespace KB
open PySem PySem.Spec PyProof.Rows SeqAt
open L2 hiding op_eqD op_neD
section
variable {X : Cx} {B : Bs} {pos apos : Pos} {o i e f value : Expr} {es : List Expr} {to ti te tf tv : DE} {tr : DA}
def isDk (C : Cp) (p : Addr) : Prop := (∃ kvs, C p = some (.dk kvs)) ∨ ∃ kvs, C p = some (.dg kvs)
def inDR (neg : Bool) : D → D → Cp → DQ → Prop := fun y x C Q => ∃ p r, x = .ptr p ∧ gotD C p y r ∧ Q (.bl (if neg then !r.isSome else r.isSome)) C
theorem op_inKD (hB : B.P = X.prog ∧ B.w = X.w) (hu : X.A.units + 20 < cLine) : OpD X B (compareOp .In) (inDR false) := by
  intro pins s σ H x y v u Q I rx ry h
  obtain ⟨dx, dy, C, Qd, r1, r2, rl, ⟨p, r, e, g, h⟩, k⟩ := h
  subst e
  cases r2; cases ry
  rcases g with ⟨kvs, kk, e, ey, er⟩ | ⟨kvs, e, hk, er⟩
  · subst ey
    obtain ⟨ws, e1, q⟩ := rl.ok _ _ e
    have hl := repK_look q kk
    have hx := keyD_val r1
    subst hx
    have hs : (valV ws (keyOf kk)).isSome = r.isSome := by
      rw [er]
      cases e2 : lookA kvs kk with
      | none => rw [e2] at hl; rw [hl]; rfl
      | some d => rw [e2] at hl; obtain ⟨v, e3, _⟩ := hl; rw [e3]; rfl
    exact d_in (by omega) I (DGet.k (k := keyOf kk) e1) rx fun s' I' => ⟨.bl _, H, I', rfl, k _ (.bl _) H C (Stp.refl _ _) rl (repB _) (by rw [hs]; exact h)⟩
  · obtain ⟨xs, e1, hm, q, kg, hz, lo⟩ := dg_of hB I rl e
    have hl := repG_look q dx
    obtain ⟨ds, hds⟩ := hk.1
    have hr' := r1
    rw [hds] at r1
    obtain ⟨b, vs, rfl, _, _⟩ := r1
    cases rx
    have hs : (atKey xs (nk dx)).isSome = r.isSome := by
      rw [er]
      cases e2 : lookG kvs dx with
      | none => rw [e2] at hl; rw [hl]; rfl
      | some d => rw [e2] at hl; obtain ⟨a, u, v, e3, _⟩ := hl; rw [e3]; rfl
    exact wpAny_in_heap (show X.A.units + 1 + 8 < cLine by omega) (key_is I hk hr') lo hm ⟨.bl _, H, I.tok _, rfl, k _ (.bl _) H C (Stp.refl _ _) rl (repB _) (by rw [hs]; exact h)⟩
theorem op_niKD (hB : B.P = X.prog ∧ B.w = X.w) (hu : X.A.units + 20 < cLine) : OpD X B (compareOp .NotIn) (inDR true) := by
  intro pins s σ H x y v u Q I rx ry h
  obtain ⟨dx, dy, C, Qd, r1, r2, rl, ⟨p, r, e, g, h⟩, k⟩ := h
  subst e
  cases r2; cases ry
  rcases g with ⟨kvs, kk, e, ey, er⟩ | ⟨kvs, e, hk, er⟩
  · subst ey
    obtain ⟨ws, e1, q⟩ := rl.ok _ _ e
    have hl := repK_look q kk
    have hx := keyD_val r1
    subst hx
    have hs : (valV ws (keyOf kk)).isSome = r.isSome := by
      rw [er]
      cases e2 : lookA kvs kk with
      | none => rw [e2] at hl; rw [hl]; rfl
      | some d => rw [e2] at hl; obtain ⟨v, e3, _⟩ := hl; rw [e3]; rfl
    exact d_notIn (by omega) I (DGet.k (k := keyOf kk) e1) rx fun s' I' => ⟨.bl _, H, I', rfl, k _ (.bl _) H C (Stp.refl _ _) rl (repB _) (by rw [hs]; exact h)⟩
  · obtain ⟨xs, e1, hm, q, kg, hz, lo⟩ := dg_of hB I rl e
    have hl := repG_look q dx
    obtain ⟨ds, hds⟩ := hk.1
    have hr' := r1
    rw [hds] at r1
    obtain ⟨b, vs, rfl, _, _⟩ := r1
    cases rx
    have hs : (atKey xs (nk dx)).isSome = r.isSome := by
      rw [er]
      cases e2 : lookG kvs dx with
      | none => rw [e2] at hl; rw [hl]; rfl
      | some d => rw [e2] at hl; obtain ⟨a, u, v, e3, _⟩ := hl; rw [e3]; rfl
    show wpAny _ _ (do return Value.bool (!(← contains (.ref p) (.ref b)))) _ _ s
    exact wpAny_bind (wpAny_contains_heap (show X.A.units + 1 + 8 < cLine by omega) (key_is I hk hr') lo hm (wpAny_pure ⟨.bl _, H, I.tok _, rfl, k _ (.bl _) H C (Stp.refl _ _) rl (repB _) (by rw [hs]; exact h)⟩))
/-- a dict's method -/
def dBMd (r : D → List D → Cp → DQ → Prop) (to : DE) (t : DA) : DE := fun s C Q => to s C fun d C1 => (∃ p, d = .ptr p ∧ isDk C1 p) ∧ t s C1 fun ds C2 => r d ds C2 Q
theorem j_bmd {name : Str} {id : String} {r : D → List D → Cp → DQ → Prop} (hB : B.P = X.prog ∧ B.w = X.w) (slot : Slot "dict" name id) (hty : typeOf (.builtin id) = pure (.type "method_descriptor")) (hm : MtD X B id r) (ho : JE X B o to) (ha : JA X B (e :: es) tr)
    (hbase : attributeBase o name X.env (eval o X.env) = eval o X.env := by rfl)
    (hfew : ((backTo pos (starEach (e :: es) X.env)).all (fun x => !x.1) && (backToKw pos (keywordEach [] X.env)).all (fun x => x.1.isSome)
      && decide ((e :: es).length + ([] : List Keyword).length + (if ([] : List Keyword).isEmpty then 0 else 1) < 30)) = true := by rfl)
    (hline : (apos.endLine == pos.line) = true := by rfl) (hs : starEach (e :: es) X.env = (false, eval e X.env) :: starEach es X.env := by rfl) (hplain : (backTo pos (starEach es X.env)).any (·.1) = false := by rfl) :
    JE X B (.Call (.Attribute o name apos) (e :: es) [] pos) (dBMd r to tr) := ⟨fun pins s σ H Q I h => by
  obtain ⟨sl, C, Qd, rs, rl, h, k⟩ := h
  refine wpAny_Call_method_late hbase hfew hline rfl (thn (ho.run pins s σ H (fun x H1 => ∃ dx C1, Stp H C H1 C1 ∧ Rl X.K B H1 C1 ∧ Rep X.K H1 dx x ∧ (∃ p, dx = .ptr p ∧ isDk C1 p) ∧ tr sl C1 fun ds C2 => r dx ds C2 Qd) I ⟨sl, C, _, rs, rl, h, fun v d H' C' st rl' r q => ⟨d, C', st, rl', r, q⟩⟩) fun v s1 ⟨x, H1, I1, r1, dx, C1, st1, rl1, rd, ⟨p, ed, hd⟩, q1⟩ => ?_)
  subst ed
  cases rd; cases r1
  obtain ⟨h1, ob, h2, h3⟩ := dict_is hB I1 rl1 hd
  refine ⟨"dict", id, PySem.F.plainAttrs_dict, slot, hty, h1, fun a e => by cases e; exact ⟨ob, h2, h3⟩, ?_⟩
  have hA := ha.run pos pins s1 σ H1 (fun vs H2 => ∃ ds C2, Stp H1 C1 H2 C2 ∧ Rl X.K B H2 C2 ∧ Reps X.K H2 ds vs ∧ r (.ptr p) ds C2 Qd) I1 ⟨sl, C1, _, rs.mono st1.tx, rl1, q1, fun vs ds H' C' st rl' r q => ⟨ds, C', st, rl', r, q⟩⟩
  rw [hs] at hA ⊢
  refine Calls.callWith_builtin (by show (false || (backTo pos (starEach es X.env)).any (·.1)) = false; rw [hplain] <;> rfl) (Calls.evalArgs_plain ?_)
  exact thn hA fun us s2 ⟨vs, H2, I2, r2, ds, C2, st2, rl2, rds, q2⟩ => hm pins s2 σ H2 (.ref p) vs _ us Q I2 rfl r2 ⟨.ptr p, ds, C2, Qd, repP p, rds, rl2, q2, fun v e H' C' st => k v e H' C' ((st1.trans st2).trans st)⟩⟩
def getR : D → List D → Cp → DQ → Prop := fun d ds C Q => ∃ p y z r, d = .ptr p ∧ (ds = [y, z] ∨ ds = [y] ∧ z = .non) ∧ gotD C p y r ∧ Q (r.getD z) C
theorem mt_getD (hB : B.P = X.prog ∧ B.w = X.w) (hu : X.A.units + 20 < cLine) : MtD X B "dict.get" getR := by
  intro pins s σ H x xs v us Q I rx rs h
  obtain ⟨d, ds, C, Qd, r1, r2, rl, ⟨p, y, z, r, ed, eds, g, h⟩, k⟩ := h
  subst ed
  cases r1; cases rx
  have key : ∃ yv uy zv uz, Rep X.K H y yv ∧ RelV yv uy ∧ Rep X.K H z zv ∧ RelV zv uz ∧ (us = [uy, uz] ∨ us = [uy] ∧ z = .non ∧ uz = .none) := by
    rcases eds with e | ⟨e, ez⟩
    · subst e
      obtain ⟨yv, r3, rfl, a1, zv, r4, rfl, a2, hn⟩ := r2
      cases hn
      obtain ⟨uy, uz, rfl, b1, b2⟩ := vals2 rs
      exact ⟨yv, uy, zv, uz, a1, b1, a2, b2, .inl rfl⟩
    · subst e ez
      obtain ⟨yv, r3, rfl, a1, hn⟩ := r2
      cases hn
      obtain ⟨uy, rfl, b1⟩ := vals1 rs
      exact ⟨yv, uy, .non, .none, a1, b1, rfl, rfl, .inr ⟨rfl, rfl, rfl⟩⟩
  obtain ⟨yv, uy, zv, uz, a1, b1, a2, b2, hus⟩ := key
  rcases g with ⟨kvs, kk, e, ey, er⟩ | ⟨kvs, e, hk, er⟩
  · subst ey
    obtain ⟨ws, e1, q⟩ := rl.ok _ _ e
    have hl := repK_look q kk
    have hx := keyD_val a1
    subst hx
    have fin : ∀ w' s', Inv X pins σ H s' → RelV ((valV ws (keyOf kk)).getD zv) w' → EP X pins σ Q w' s' := fun w' s' I' rw' => by
      refine ⟨_, H, I', rw', k _ (r.getD z) H C (Stp.refl _ _) rl ?_ h⟩
      rw [er]
      cases e2 : lookA kvs kk with
      | none => rw [e2] at hl; rw [hl]; exact a2
      | some d => rw [e2] at hl; obtain ⟨v, e3, hv⟩ := hl; rw [e3]; exact hv
    rcases hus with e | ⟨e, ez, eu⟩
    · subst e
      exact d_get2 (by omega) I (DGet.k (k := keyOf kk) e1) b1 b2 fin
    · subst e ez eu
      cases a2
      exact d_get1 (by omega) I (DGet.k (k := keyOf kk) e1) b1 fin
  · obtain ⟨xs, e1, hm, q, kg, hz, lo⟩ := dg_of hB I rl e
    have hl := repG_look q y
    obtain ⟨dd, hds⟩ := hk.1
    have hr' := a1
    rw [hds] at a1
    obtain ⟨b, vs, rfl, _, _⟩ := a1
    cases b1
    have fin : ∀ s', Inv X pins σ H s' → EP X pins σ Q (((atKey xs (nk y)).map (·.2)).getD uz) s' := fun s' I' => by
      cases e2 : lookG kvs y with
      | none =>
        rw [e2] at hl er
        rw [hl]
        subst er
        exact ⟨zv, H, I', b2, k _ z H C (Stp.refl _ _) rl a2 h⟩
      | some d =>
        rw [e2] at hl er
        obtain ⟨a, u, v, e3, hv, hr⟩ := hl
        rw [e3]
        subst er
        exact ⟨v, H, I', hr, k _ d H C (Stp.refl _ _) rl hv h⟩
    rcases hus with e | ⟨e, ez, eu⟩
    · subst e
      exact call_meetsIn PySem.F.slot_dict_get hm.typeIs PySem.F.entry_dict_get (PySem.F.args_dict_get_3 _ _ _) (meetsH_dict_get_default (nestedKind X.prog X.w) p b lo uz) ⟨(show X.A.units + 1 + 8 < cLine by omega), nk y, xs, key_is I hk hr', hm, fin _ (I.tok _)⟩
    · subst e ez eu
      exact call_meetsIn PySem.F.slot_dict_get hm.typeIs PySem.F.entry_dict_get (PySem.F.args_dict_get_2 _ _) (meetsH_dict_get (nestedKind X.prog X.w) p b lo) ⟨(show X.A.units + 1 + 8 < cLine by omega), nk y, xs, key_is I hk hr', hm, fin _ (I.tok _)⟩
/-- a new dict for keys that are tuples -/
def dEmpG : DE := fun _ C Q => ∀ p, C p = none → Q (.ptr p) (up C p (.dg []))
theorem j_empG (hB : B.P = X.prog ∧ B.w = X.w) : JE X B (.Dict [] [] pos) dEmpG := ⟨fun pins s σ H Q I h => by
  obtain ⟨sl, C, Qd, rs, rl, h, k⟩ := h
  have hn := I.hok.fresh (Nat.le_refl s.heap.objs.size)
  have cn : C s.heap.objs.size = none := rl.fresh hn
  refine wpAny_Dict_empty ⟨.ref s.heap.objs.size, _, I.laid (a := s.heap.objs.size) (o := DgObj X.prog X.w s.heap.objs.size []) (t' := s.toks) (fun _ _ q => Heap.get?_push_of_some _ q) (Nat.le_refl _) ?_, rfl, ?_⟩
  · exact ⟨⟨_, #[], 0, Heap.get?_push_size _ rfl, ⟨rfl, rfl, rfl⟩, rfl, rfl, List.nodup_nil, Nat.zero_le _, beq_eq_false_iff_ne.mpr (Ne.symm (Nat.ne_of_lt I.big))⟩, ⟨_, Heap.get?_push_size _ rfl⟩, fun ha hb ⟨o, es, ep, a1, a2⟩ k => ⟨o, es, ep, k o a1, a2⟩⟩
  · refine k _ (.ptr s.heap.objs.size) _ (up C s.heap.objs.size (.dg [])) (stp_put (by rw [hn]; exact id) (.inr hn)) (rl.putNew hn ?_) rfl (h _ cn)
    rw [hB.1, hB.2]
    exact ⟨[], upd_same, .nil, fun q hq => nomatch hq⟩⟩
/-! ### join -/
def joinD (sep : List Nat) : List (List Nat) → List Nat := TL.joinL sep
def joinR : D → List D → Cp → DQ → Prop := fun d ds C Q => ∃ (a : List Nat) (x : D) (ys : List (List Nat)), d = .str a ∧ ds = [x] ∧ itemsD C x (ys.map D.str) ∧ (ys.map List.length).sum + ys.length * a.length ≤ 16777216 ∧ Q (.str (joinD a ys)) C
theorem mt_joinD : MtD X B "str.join" joinR := by
  intro pins s σ H x xs v us Q I rx rs h
  obtain ⟨d, ds, C, Qd, r1, r2, rl, ⟨a, x1, ys, ed, eds, hi, hz, h⟩, k⟩ := h
  subst ed eds
  cases r1
  obtain ⟨w, r3, rfl, hw, hn⟩ := r2
  cases hn
  have fin : Q (.str (Txt.join ⟨a.toArray⟩ (ys.map sOf))) H := by
    refine k _ (.str (joinD a ys)) H C (Stp.refl _ _) rl ?_ h
    show V.str _ = V.str _
    congr 1
    rw [TL.join_eq]
    refine TL.ext_tl ?_
    rw [TL.tl_join]
    show TL.joinL a ((ys.map sOf).map TL.tl) = joinD a ys
    rw [List.map_map]
    have : (TL.tl ∘ sOf) = id := by funext l; rfl
    rw [this, List.map_id]
    rfl
  have hz2 : ((ys.map sOf).map (·.length)).sum + (ys.map sOf).length * (⟨a.toArray⟩ : Str).length ≤ 16777216 := by
    rw [List.map_map, List.length_map]
    have : ((fun x : Str => x.length) ∘ sOf) = List.length := by funext l; simp [Str.length]
    rw [this]
    simpa [Str.length] using hz
  cases x1 with
  | tup es =>
    have hi : ys.map D.str = es := hi
    subst hi
    obtain ⟨p, vs, rfl, hq, hr⟩ := hw
    rw [hr.strs] at hq
    exact mt_join pins s σ H _ _ v us Q I rx rs ⟨_, p, ys.map sOf, rfl, rfl, .inr hq, hz2, fin⟩
  | ptr p =>
    cases hw
    obtain ⟨vs, hq, hr⟩ := isL.sq rl hi
    rw [hr.strs] at hq
    exact mt_join pins s σ H _ _ v us Q I rx rs ⟨_, p, ys.map sOf, rfl, rfl, .inl hq, hz2, fin⟩
  | _ => exact False.elim hi
/-! ### pop -/
theorem mt_popAtD : MtD X B "list.pop" popAtR := by
  intro pins s σ H x xs v us Q I rx rs h
  obtain ⟨d, ds, C, Qd, r1, r2, rl, ⟨p, ys, i, kk, y, e1, e2, hc, h1, h2, h3, h4, h⟩, k⟩ := h
  subst e1 e2
  cases r1
  obtain ⟨w, r3, rfl, hw, hn⟩ := r2
  cases hn; cases hw
  obtain ⟨vs, hp, hr⟩ := rl.cells hc
  obtain ⟨a1, a2⟩ := rl.setL hc hp (reps_eraseIdx kk hr)
  obtain ⟨yv, b1, b2⟩ := hr.get h4
  exact mt_popAt pins s σ H _ _ v us Q I rx rs ⟨p, vs, i, kk, yv, rfl, rfl, hp, h1, h2, by rw [← hr.length]; exact h3, b1, k _ _ _ _ a1 a2 (b2.mono a1.tx) h⟩
/-- pop() -/
def popR : D → List D → Cp → DQ → Prop := fun d ds C Q => ∃ p xs y, d = .ptr p ∧ ds = [] ∧ C p = some (.lst xs) ∧ xs[xs.length - 1]? = some y ∧ Q y (up C p (.lst xs.dropLast))
theorem reps_dropLast {K : PySem.W.Frag} {H : Hp} {ds : List D} {vs : List V} (h : Reps K H ds vs) : Reps K H ds.dropLast vs.dropLast := by
  rw [List.dropLast_eq_take, List.dropLast_eq_take, h.length]
  exact h.take _
theorem mt_popD : MtD X B "list.pop" popR := by
  intro pins s σ H x xs v us Q I rx rs h
  obtain ⟨d, ds, C, Qd, r1, r2, rl, ⟨p, ys, y, e1, e2, hc, h4, h⟩, k⟩ := h
  subst e1 e2
  cases r1; cases r2
  obtain ⟨vs, hp, hr⟩ := rl.cells hc
  obtain ⟨a1, a2⟩ := rl.setL hc hp (reps_dropLast hr)
  obtain ⟨yv, b1, b2⟩ := hr.get h4
  exact mt_pop pins s σ H _ _ v us Q I rx rs ⟨p, vs, yv, rfl, rfl, hp, by rw [← hr.length]; exact b1, k _ _ _ _ a1 a2 (b2.mono a1.tx) h⟩
/-! ### isinstance of built-in classes -/
def nameD (C : Cp) : D → String → Prop
  | .non, n => n = "NoneType"
  | .bl _, n => n = "bool"
  | .int _, n => n = "int"
  | .str _, n => n = "str"
  | .tup _, n => n = "tuple"
  | .ptr p, n => (n = "list" ∧ ∃ ds, isL C p ds) ∨ (n = "dict" ∧ ∃ kvs, C p = some (.dk kvs))
  | .ty _, _ => False
theorem nameD_ok {H : Hp} {C : Cp} (rl : Rl X.K B H C) {d : D} {x : V} {n : String} (r : Rep X.K H d x) (h : nameD C d n) : TyX X.K H x (.type n) := by
  cases d with
  | non => cases r; cases (show n = "NoneType" from h); exact .base .non
  | bl b => cases r; cases (show n = "bool" from h); exact .base (.bl _)
  | int b => cases r; cases (show n = "int" from h); exact .base (.int _)
  | str b => cases r; cases (show n = "str" from h); exact .base (.str _)
  | tup ds =>
    cases (show n = "tuple" from h)
    obtain ⟨a, vs, rfl, hq, _⟩ := r
    rcases hq with (hq | ⟨o, hq⟩) | ⟨o, its, k, hq, hc, _⟩
    · exact .base (.tup hq)
    · exact .fTuple hq
    · exact .kTuple hq hc
  | ptr p =>
    cases r
    rcases h with ⟨e, ds, h | h⟩ | ⟨e, kvs, h⟩
    · subst e
      obtain ⟨vs, q, _⟩ := rl.ok _ _ h
      exact .base (.lst q)
    · subst e
      obtain ⟨o, vs, q, _⟩ := rl.ok _ _ h
      exact .base (.frz q)
    · subst e
      obtain ⟨vs, q, _⟩ := rl.ok _ _ h
      exact .base (.dK q)
  | ty _ => exact h.elim
def isiR : List D → Cp → DQ → Prop := fun ds C Q => ∃ d tb n b, ds = [d, .ty tb] ∧ nameD C d n ∧ kitB n tb = some b ∧ Q (.bl b) C
theorem call_isiD : CallD X B (.builtin "isinstance") isiR := by
  intro pins s σ H xs us Q I rx h
  obtain ⟨ds, C, Qd, r, rl, ⟨d, tb, n, b, e, hn, hk, h⟩, k⟩ := h
  subst e
  obtain ⟨x, r2, rfl, hx, y, r3, rfl, hy, hnil⟩ := r
  cases hnil; cases hy
  exact call_isi pins s σ H _ us Q I rx ⟨x, .ty tb, .type n, .type tb, b, rfl, .ty tb, nameD_ok rl hx hn, kit_ty hk, k _ (.bl b) H C (Stp.refl _ _) rl rfl h⟩
theorem j_tyName {x : Str} (n : String) (hm : X.mg x = none) (hv : bootBuiltins x = some (.type n)) (hg : Gl X x := by rfl) (hn : x ≠ "__name__" := by decide) (hdb : (x == ("__debug__" : Str)) = false := by decide) : JE X B (.Name x pos) (dC (.ty n)) := j_const (.ty n) (pe_bltn (v := .ty n) hg hm hv rfl hn hdb) fun _ _ => rfl
end
end KB

/-! KB11: stores into lists and dicts, parallel assignments, displays of dicts, op=. -/
namespace KB
open PySem PySem.Spec PyProof.Rows SeqAt
open L2 hiding op_eqD op_neD
section
variable {X : Cx} {B : Bs} {pos apos tpos : Pos} {o i e f value a b c : Expr} {es : List Expr} {to ti te tf tv ta tb : DE} {tr : DA}
/-! ### o[i] = v -/
def setsD (C : Cp) (p : Addr) (y v : D) (C' : Cp) : Prop := (∃ xs k j, C p = some (.lst xs) ∧ y = .int k ∧ ixN xs.length k = some j ∧ C' = up C p (.lst (xs.set j v))) ∨ putsD C p y v C'
def setR : D → D → D → Cp → (Cp → Prop) → Prop := fun x y v C Q => ∃ p C', x = .ptr p ∧ setsD C p y v C' ∧ Q C'
def lSet (K : PySem.W.Frag) (B : Bs) (r : D → D → D → Cp → (Cp → Prop) → Prop) : TSet := fun x y v H Q => ∃ dx dy dv C Qd, Rep K H dx x ∧ Rep K H dy y ∧ Rep K H dv v ∧ Rl K B H C ∧ r dx dy dv C Qd ∧ ∀ H' C', Stp H C H' C' → Rl K B H' C' → Qd C' → Q H'
theorem set_D (hB : B.P = X.prog ∧ B.w = X.w) (hu : X.A.units + 20 < cLine) : PSet X (lSet X.K B setR) := by
  intro pins s σ H x y v xv yv u Q I rx ry rv h
  obtain ⟨dx, dy, dv, C, Qd, r1, r2, r3, rl, ⟨p, C', ex, g, q⟩, k⟩ := h
  subst ex
  cases r1
  rcases g with ⟨xs, kk, j, hc, ey, hj, eC⟩ | g
  · subst ey eC
    cases r2
    obtain ⟨vs, hp, hr⟩ := rl.cells hc
    obtain ⟨a1, a2⟩ := rl.setL hc hp (hr.set r3 j)
    exact set_list pins s σ H _ _ v _ _ u Q I rx ry rv ⟨p, vs, kk, j, rfl, rfl, hp, by rw [← hr.length]; exact hj, k _ _ a1 a2 q⟩
  · obtain rfl : xv = Value.ref p := rx
    exact setItem_D hB hu I rl g r2 ry r3 rv fun H4 s4 I4 st4 rl4 => ⟨H4, I4, k H4 C' st4 rl4 q⟩
def dSetI (to ti tv : DE) : DS := fun D s C => tv s C fun v C1 => to s C1 fun x C2 => ti s C2 fun y C3 => setR x y v C3 fun C4 => D.nx s C4
theorem js_sset {pos' : Pos} (hB : B.P = X.prog ∧ B.w = X.w) (hu : X.A.units + 20 < cLine) (ho : JE X B o to) (hi : JE X B i ti) (hv : JE X B value tv) (hs : swapsWith value (some (.Subscript o i pos')) pos.line X.env = pure false := by rfl) :
    JS X B (.Assign [.Subscript o i pos'] value pos) (dSetI to ti tv) := ⟨fun pins s σ H D I h => by
  obtain ⟨sl, C, Dd, rs, rl, h, k⟩ := h
  refine wpAny_Assign_Subscript (thn (hv.run pins s σ H (fun x H1 => ∃ dv C1, Stp H C H1 C1 ∧ Rl X.K B H1 C1 ∧ Rep X.K H1 dv x ∧ to sl C1 fun x C2 => ti sl C2 fun y C3 => setR x y dv C3 fun C4 => Dd.nx sl C4) I ⟨sl, C, _, rs, rl, h, fun v d H' C' st rl' r q => ⟨d, C', st, rl', r, q⟩⟩) fun z s1 ⟨v, H1, I1, rv, dv, C1, st1, rl1, r1, q1⟩ => ?_) hs
  refine thn (ho.run pins s1 σ H1 (fun x H2 => ∃ dx C2, Stp H1 C1 H2 C2 ∧ Rl X.K B H2 C2 ∧ Rep X.K H2 dx x ∧ ti sl C2 fun y C3 => setR dx y dv C3 fun C4 => Dd.nx sl C4) I1 ⟨sl, C1, _, rs.mono st1.tx, rl1, q1, fun v d H' C' st rl' r q => ⟨d, C', st, rl', r, q⟩⟩) fun u s2 ⟨x, H2, I2, rx, dx, C2, st2, rl2, r2, q2⟩ => ?_
  refine thn (hi.run pins s2 σ H2 (fun y H3 => ∃ dy C3, Stp H2 C2 H3 C3 ∧ Rl X.K B H3 C3 ∧ Rep X.K H3 dy y ∧ setR dx dy dv C3 fun C4 => Dd.nx sl C4) I2 ⟨sl, C2, _, rs.mono (st1.trans st2).tx, rl2, q2, fun v d H' C' st rl' r q => ⟨d, C', st, rl', r, q⟩⟩) fun iv s3 ⟨y, H3, I3, ry, dy, C3, st3, rl3, r3, q3⟩ => ?_
  refine thn (set_D hB hu pins s3 σ H3 x y v u iv z (fun H4 => ∃ C4, Stp H3 C3 H4 C4 ∧ Rl X.K B H4 C4 ∧ Dd.nx sl C4) I3 rx ry rv ⟨dx, dy, dv, C3, _, r2.mono st3.tx, r3, r1.mono (st2.trans st3).tx, rl3, q3, fun H' C' st rl' q => ⟨C', st, rl', q⟩⟩) fun _ s4 ⟨H4, I4, C4, st4, rl4, q4⟩ => ?_
  exact ⟨σ, H4, I4, k.nx _ _ H4 C4 (((st1.trans st2).trans st3).trans st4) rl4 (rs.mono (((st1.trans st2).trans st3).trans st4).tx) q4⟩⟩
def gSubD (to ti : DE) : DG := fun d s C Q => to s C fun x C1 => ti s C1 fun y C2 => setR x y d C2 fun C3 => Q s C3
theorem jg_sub (hB : B.P = X.prog ∧ B.w = X.w) (hu : X.A.units + 20 < cLine) (ho : JE X B o to) (hi : JE X B i ti)
    (ha : ∀ v, assign (.Subscript o i pos) X.env v = (do let ov ← holding [v] (eval o X.env); let iv ← holding [v, ov] (eval i X.env); standAt pos; holding [v, ov, iv] (setItem ov iv v); release [v, ov, iv] []) := by intro _; rfl) :
    JG X B (.Subscript o i pos) (gSubD to ti) := ⟨fun pins s σ H v u Q I r h => by
  obtain ⟨d, sl, C, Qd, rd, rs, rl, h, k⟩ := h
  rw [ha]
  refine wpAny_bind (wpAny_holding (thn (ho.run pins s σ H (fun x H2 => ∃ dx C2, Stp H C H2 C2 ∧ Rl X.K B H2 C2 ∧ Rep X.K H2 dx x ∧ ti sl C2 fun y C3 => setR dx y d C3 fun C4 => Qd sl C4) I ⟨sl, C, _, rs, rl, h, fun v d H' C' st rl' r q => ⟨d, C', st, rl', r, q⟩⟩) fun ov s1 ⟨x, H1, I1, rx, dx, C1, st1, rl1, r1, q1⟩ => ?_))
  refine wpAny_bind (wpAny_holding (thn (hi.run pins s1 σ H1 (fun y H3 => ∃ dy C3, Stp H1 C1 H3 C3 ∧ Rl X.K B H3 C3 ∧ Rep X.K H3 dy y ∧ setR dx dy d C3 fun C4 => Qd sl C4) I1 ⟨sl, C1, _, rs.mono st1.tx, rl1, q1, fun v d H' C' st rl' r q => ⟨d, C', st, rl', r, q⟩⟩) fun iv s2 ⟨y, H2, I2, ry, dy, C2, st2, rl2, r2, q2⟩ => ?_))
  refine wpAny_bind (wpAny_standAt (wpAny_bind (wpAny_holding (thn (set_D hB hu pins s2 σ H2 x y v ov iv u (fun H4 => ∃ C4, Stp H2 C2 H4 C4 ∧ Rl X.K B H4 C4 ∧ Qd sl C4) I2 rx ry r ⟨dx, dy, d, C2, _, r1.mono st2.tx, r2, rd.mono (st1.trans st2).tx, rl2, q2, fun H' C' st rl' q => ⟨C', st, rl', q⟩⟩) fun _ s4 ⟨H4, I4, C4, st4, rl4, q4⟩ => ?_))))
  exact wpAny_release ⟨σ, H4, I4, k _ _ H4 C4 ((st1.trans st2).trans st4) rl4 (rs.mono ((st1.trans st2).trans st4).tx) q4⟩⟩
/-! ### a, b = x, y -/
theorem js_par {i j : Nat} {x y : Str} {px py pt : Pos} {kt k2 pt2} (hc : X.calm = true) (hN : X.N.Nodup) (ha : JA X B [a, b] tr) (hi : X.N[i]? = some x := by rfl) (hj : X.N[j]? = some y := by rfl) (hij : i ≠ j := by decide)
    (hx : X.env.scope.names.lookup x = some .local := by rfl) (hy : X.env.scope.names.lookup y = some .local := by rfl)
    (hw : swappedStores [.Tuple [.Name x px, .Name y py] kt pt] (.Tuple [a, b] k2 pt2) X.env = pure (some [x, y]) := by rfl)
    (hs : swapsWithSole [.Tuple [.Name x px, .Name y py] kt pt] (.Tuple [a, b] k2 pt2) pos.line X.env = pure false := by rfl) :
    JS X B (.Assign [.Tuple [.Name x px, .Name y py] kt pt] (.Tuple [a, b] k2 pt2) pos) (dPar i j tr) := PS.imp (ps_par hc hN hi hj hij hx hy ha hw hs) fun D σ H h => by
  obtain ⟨sl, C, Dd, rs, rl, h, k⟩ := h
  refine ⟨sl, C, _, rs, rl, h, fun vs ds H1 C1 st1 rl1 r ⟨d1, d2, e, q⟩ => ?_⟩
  subst e
  obtain ⟨v, r', rfl, h1, w, r'', rfl, h2, hn⟩ := r
  cases hn
  exact ⟨v, w, rfl, k.nx _ _ H1 C1 st1 rl1 (((rs.mono st1.tx).setD h1 i).setD h2 j) q⟩
def dPar3 (i j l : Nat) (ta : DA) : DS := fun D s C => ta s C fun ds C1 => ∃ u v w, ds = [u, v, w] ∧ D.nx (((s.set i (some u)).set j (some v)).set l (some w)) C1
theorem js_par3 {i j l : Nat} {x y z : Str} {px py pz pt : Pos} {kt k2 pt2} (hc : X.calm = true) (hN : X.N.Nodup) (ha : JA X B [a, b, c] tr) (hi : X.N[i]? = some x := by rfl) (hj : X.N[j]? = some y := by rfl) (hl : X.N[l]? = some z := by rfl) (hij : i ≠ j := by decide) (hil : i ≠ l := by decide) (hjl : j ≠ l := by decide)
    (hx : X.env.scope.names.lookup x = some .local := by rfl) (hy : X.env.scope.names.lookup y = some .local := by rfl) (hz : X.env.scope.names.lookup z = some .local := by rfl)
    (hw : swappedStores [.Tuple [.Name x px, .Name y py, .Name z pz] kt pt] (.Tuple [a, b, c] k2 pt2) X.env = pure (some [x, y, z]) := by rfl)
    (hs : swapsWithSole [.Tuple [.Name x px, .Name y py, .Name z pz] kt pt] (.Tuple [a, b, c] k2 pt2) pos.line X.env = pure false := by rfl) :
    JS X B (.Assign [.Tuple [.Name x px, .Name y py, .Name z pz] kt pt] (.Tuple [a, b, c] k2 pt2) pos) (dPar3 i j l tr) := PS.imp (ps_par3 hc hN hi hj hl hij hil hjl hx hy hz ha hw hs) fun D σ H h => by
  obtain ⟨sl, C, Dd, rs, rl, h, k⟩ := h
  refine ⟨sl, C, _, rs, rl, h, fun vs ds H1 C1 st1 rl1 r ⟨d1, d2, d3, e, q⟩ => ?_⟩
  subst e
  obtain ⟨v, r', rfl, h1, w, r'', rfl, h2, u, r3, rfl, h3, hn⟩ := r
  cases hn
  exact ⟨v, w, u, rfl, k.nx _ _ H1 C1 st1 rl1 ((((rs.mono st1.tx).setD h1 i).setD h2 j).setD h3 l) q⟩
/-! ### name += e -/
abbrev IpD (X : Cx) (B : Bs) (op : Operator) (r : D → D → Cp → DQ → Prop) : Prop := PIp X op (lR X.K B r)
def addI : D → D → Cp → DQ → Prop := fun x y C Q => ∃ i j, x = .int i ∧ y = .int j ∧ Q (.int (i + j)) C
theorem ip_addD : IpD X B .Add addI := by
  intro pins s σ H x y v u Q I rx ry h
  obtain ⟨dx, dy, C, Qd, r1, r2, rl, ⟨a, b, ex, ey, h⟩, k⟩ := h
  subst ex ey
  cases r1; cases r2
  exact ip_add pins s σ H _ _ v u Q I rx ry ⟨a, b, rfl, rfl, k _ (.int (a + b)) H C (Stp.refl _ _) rl rfl h⟩
def dAug (i : Nat) (te : DE) (r : D → D → Cp → DQ → Prop) : DS := fun D s C => ∃ x, s[i]? = some (some x) ∧ te s C fun y C1 => r x y C1 fun z C2 => D.nx (s.set i (some z)) C2
theorem js_aug {i : Nat} {x : Str} {op : Operator} {r : D → D → Cp → DQ → Prop} {pos' : Pos} (hN : X.N.Nodup) (ho : IpD X B op r) (he : JE X B e te) (hi : X.N[i]? = some x := by rfl) (hx : Loc X.env.scope x := by first | exact .inl rfl | exact .inr rfl) (hf : X.fn x = true ∨ X.env.scope.names.lookup x = some .local := by first | exact .inl rfl | exact .inr rfl | assumption) :
    JS X B (.AugAssign (.Name x pos') op e pos) (dAug i te r) := PS.imp (ps_aug hN hi hx he ho hf) fun D σ H h => by
  obtain ⟨sl, C, Dd, rs, rl, ⟨d, e1, h⟩, k⟩ := h
  obtain ⟨v, e2, rv⟩ := rs.get e1
  refine ⟨v, e2, sl, C, _, rs, rl, h, fun w dw H1 C1 st1 rl1 r1 q => ?_⟩
  exact ⟨d, dw, C1, _, rv.mono st1.tx, r1, rl1, q, fun z dz H2 C2 st2 rl2 r2 q2 => k.nx _ _ H2 C2 (st1.trans st2) rl2 ((rs.mono (st1.trans st2).tx).setD r2 i) q2⟩
/-! ### {k: v, ..} -/
def dPairs : List (DE × DE) → Sl → Cp → (List (D × D) → Cp → Prop) → Prop
  | [], _, C, Q => Q [] C
  | (tk, tv) :: r, s, C, Q => tk s C fun x C1 => tv s C1 fun y C2 => dPairs r s C2 fun ps C3 => Q ((x, y) :: ps) C3
def RepP (K : PySem.W.Frag) (H : Hp) : List (D × D) → List (V × V) → Prop := Paired fun p q => Rep K H p.1 q.1 ∧ Rep K H p.2 q.2
structure JPs (X : Cx) (B : Bs) (pos : Pos) (keys : List (Option Expr)) (values : List Expr) (trs : List (DE × DE)) : Prop where
  run : ∀ (pins : List (Addr × Obj)) (s : Shared) (σ : L2.St) (H : Hp) (sl : Sl) (C : Cp) (Qd : List (D × D) → Cp → Prop), L2.Inv X pins σ H s → RepS X.K H sl σ → Rl X.K B H C → dPairs trs sl C Qd →
    wpAny (model X.prog X.w) X.A (evalPairs (pairTrees keys values X.env pos)) (fun vs s' => ∃ ps ds H' C', L2.Inv X pins σ H' s' ∧ VV ps vs ∧ RepP X.K H' ds ps ∧ Stp H C H' C' ∧ Rl X.K B H' C' ∧ Qd ds C') X.xe s
theorem jps_nil : JPs X B pos [] [] [] := ⟨fun pins s σ H sl C Qd I rs rl h => pairTrees_nil_walk ⟨[], [], H, C, I, .nil, .nil, Stp.refl _ _, rl, h⟩⟩
theorem jps_cons {k v : Expr} {ks : List (Option Expr)} {vs : List Expr} {tk tv : DE} {trs : List (DE × DE)} (hk : JE X B k tk) (hv : JE X B v tv) (hr : JPs X B pos ks vs trs) : JPs X B pos (some k :: ks) (v :: vs) ((tk, tv) :: trs) := ⟨fun pins s σ H sl C Qd I rs rl h =>
  pairTrees_cons_walk (thn (hk.run pins s σ H (fun x H1 => ∃ d C1, Stp H C H1 C1 ∧ Rl X.K B H1 C1 ∧ Rep X.K H1 d x ∧ tv sl C1 fun y C2 => dPairs trs sl C2 fun ps C3 => Qd ((d, y) :: ps) C3) I ⟨sl, C, _, rs, rl, h, fun v d H' C' st rl' r q => ⟨d, C', st, rl', r, q⟩⟩) fun u s1 ⟨x, H1, I1, rx, dx, C1, st1, rl1, r1, q1⟩ =>
    thn (hv.run pins s1 σ H1 (fun y H2 => ∃ d C2, Stp H1 C1 H2 C2 ∧ Rl X.K B H2 C2 ∧ Rep X.K H2 d y ∧ dPairs trs sl C2 fun ps C3 => Qd ((dx, d) :: ps) C3) I1 ⟨sl, C1, _, rs.mono st1.tx, rl1, q1, fun v d H' C' st rl' r q => ⟨d, C', st, rl', r, q⟩⟩) fun w s2 ⟨y, H2, I2, ry, dy, C2, st2, rl2, r2, q2⟩ =>
      thn (hr.run pins s2 σ H2 sl C2 _ I2 (rs.mono (st1.trans st2).tx) rl2 q2) fun ws s3 ⟨ps, ds, H3, C3, I3, rel, rp, st3, rl3, q3⟩ =>
        ⟨(x, y) :: ps, (dx, dy) :: ds, H3, C3, I3, .cons ⟨rx, ry⟩ rel, .cons ⟨r1.mono (st2.trans st3).tx, r2.mono st3.tx⟩ rp, (st1.trans st2).trans st3, rl3, q3⟩)⟩
def mergeA (acc more : List (DKey × D)) : List (DKey × D) := more.foldl (fun acc kv => putA acc kv.1 kv.2) acc
theorem repK_merge {H : Hp} : ∀ {more : List (DKey × D)} {ws : List (Key × V)} {acc : List (DKey × D)} {aw : List (Key × V)}, RepK keyOf X.K H more ws → RepK keyOf X.K H acc aw → RepK keyOf X.K H (mergeA acc more) (mergeK aw ws) := by
  intro more ws acc aw q
  unfold RepK at q
  induction q generalizing acc aw with
  | nil => intro r; exact r
  | @cons p x ps xs r t ih =>
    intro r0
    have e := repK_put r0 p.1 r.2
    rw [r.1] at e
    exact ih e
theorem repP_keys {H : Hp} : ∀ {kvs : List (DKey × D)} {ps : List (V × V)}, RepP X.K H (kvs.map fun kv => (keyD kv.1, kv.2)) ps → ∃ ws : List (Key × V), ps = ws.map (fun kv => (kV kv.1, kv.2)) ∧ RepK keyOf X.K H kvs ws
  | [], _, h => by cases h; exact ⟨[], rfl, .nil⟩
  | (k, d) :: kvs, _, h => by
    cases h with
    | @cons _ q _ qs h t =>
      obtain ⟨ws, e, r⟩ := repP_keys t
      obtain ⟨q1, q2⟩ := q
      obtain ⟨h1, h2⟩ := h
      have := keyD_val h1
      dsimp only at this
      subst this
      exact ⟨(keyOf k, q2) :: ws, by rw [e]; rfl, .cons ⟨rfl, h2⟩ r⟩
def dDisp (trs : List (DE × DE)) : DE := fun s C Q => dPairs trs s C fun ps C2 => ∃ kvs : List (DKey × D), ps = kvs.map (fun kv => (keyD kv.1, kv.2)) ∧ kvs.length ≤ 15 ∧ ∀ p, C2 p = none → Q (.ptr p) (up C2 p (.dk (mergeA [] kvs)))
theorem j_disp {keys : List (Option Expr)} {values : List Expr} {trs : List (DE × DE)} (h : JPs X B pos keys values trs) (hall : keys.all (·.isSome) = true := by rfl) (hl : keys.length = values.length := by rfl) (h0 : keys ≠ [] := by exact List.cons_ne_nil _ _)
    (h15 : keys.length ≤ 15 := by decide) : JE X B (.Dict keys values pos) (dDisp trs) := by
  refine ⟨fun pins s σ H Q I q => ?_⟩
  obtain ⟨sl, C, Qd, rs, rl, q, k⟩ := q
  have hn := I.hok.fresh (Nat.le_refl s.heap.objs.size)
  have cn : C s.heap.objs.size = none := rl.fresh hn
  have I1 := I.laid (a := s.heap.objs.size) (o := .dK []) (h' := s.heap.push { cls := .type "dict", data := .dict #[] }) (t' := s.toks) (fun _ _ q => Heap.get?_push_of_some _ q) (Nat.le_refl _) (dk_empty s.heap I.big)
  have s0 : Stp H C (upd H s.heap.objs.size (.dK [])) C := stp_more hn
  refine wpAny_Dict_walk (knd := mixKind X.prog X.w) hall hl h0 h15 (thn (h.run pins _ σ _ sl C _ I1 (rs.mono s0.tx) (rl.more hn) q) fun ws s2 ⟨ps, ds, H2, C2, I2, rel, rp, st2, rl2, kvs, ed, hk15, q2⟩ => ?_)
  subst ed
  obtain ⟨e, n2⟩ := st2.hid _ _ upd_same cn
  obtain ⟨kws, ep, rk0⟩ := repP_keys rp
  subst ep
  obtain ⟨rs2, c, rk⟩ := carries_of (P := X.prog) (w := X.w) rel
  obtain ⟨z, hd, vs0, r0, dd⟩ := dk_of I2.hok e
  cases r0
  refine ⟨rs2, c, dd, fun h' dd' hs => ?_⟩
  have hz : (mergeK [] kws).length ≤ sizeLine := by
    have h1 := length_mergeK kws []
    have h2 := Paired.length rk0
    rw [List.length_nil] at h1
    rw [sizeLine_eq]; omega
  have he : ∃ q, h'.get? s.heap.objs.size = some q := let ⟨q, _, _, hq, _⟩ := dd'; ⟨q, hq⟩
  have nf : ¬ Frz (H2 s.heap.objs.size) := by rw [e]; exact id
  have s1 : Stp H C (upd H2 s.heap.objs.size (.dK (mergeK [] kws))) (up C2 s.heap.objs.size (.dk (mergeA [] kvs))) := by
    have a := stp_hid (o := .dK (mergeK [] kws)) (Stp.refl H C) hn (s0.trans st2) nf
    refine ⟨a.tx, fun p u e n => ?_⟩
    obtain ⟨a1, a2⟩ := a.hid p u e n
    exact ⟨a1, by rw [up_ne (ne_of_none e hn)]; exact a2⟩
  refine ⟨.ref s.heap.objs.size, _, d_write I2 (by rw [e]; exact True.intro) hs he (dk_new hz hd (rk.merge .nil) dd'), rfl, k _ (.ptr s.heap.objs.size) _ (up C2 s.heap.objs.size (.dk (mergeA [] kvs))) s1 ⟨rl.st.trans s1, fun p c e2 => ?_⟩ rfl (q2 _ n2)⟩
  by_cases hp : p = s.heap.objs.size
  · subst hp
    rw [up_same] at e2
    cases e2
    exact ⟨_, upd_same, (repK_merge rk0 (.nil)).mono (tx_upd nf)⟩
  · rw [up_ne hp] at e2
    exact (rl2.ok p c e2).keep (tx_upd nf) (upd_ne hp)
end
end KB

/-! KB12: choices of readings; list(..) of texts and dicts. -/
namespace KB
open PySem PySem.Spec PyProof.Rows SeqAt
open L2 hiding op_eqD op_neD
section
variable {X : Cx} {B : Bs} {pos apos tpos : Pos} {tg o i e f value a b c : Expr} {es : List Expr} {to ti te tf tv ta tb : DE} {tr : DA} {sa sb : DI} {st : Stmt} {tS uS : DS}
/-- one of two readings -/
def dAlt (t u : DE) : DE := fun s C Q => t s C Q ∨ u s C Q
theorem j_alt (h1 : JE X B e ta) (h2 : JE X B e tb) : JE X B e (dAlt ta tb) := ⟨fun pins s σ H Q I h => by
  obtain ⟨sl, C, Qd, rs, rl, h | h, k⟩ := h
  · exact h1.run pins s σ H Q I ⟨sl, C, Qd, rs, rl, h, k⟩
  · exact h2.run pins s σ H Q I ⟨sl, C, Qd, rs, rl, h, k⟩⟩
def dAltI (t u : DI) : DI := fun s C Q => t s C Q ∨ u s C Q
theorem ji_alt (h1 : JI X B tg e sa) (h2 : JI X B tg e sb) : JI X B tg e (dAltI sa sb) := ⟨fun pins s σ H Q I h => by
  obtain ⟨sl, C, Qd, rs, rl, h | h, k⟩ := h
  · exact h1.run pins s σ H Q I ⟨sl, C, Qd, rs, rl, h, k⟩
  · exact h2.run pins s σ H Q I ⟨sl, C, Qd, rs, rl, h, k⟩⟩
def dAltS (t u : DS) : DS := fun D s C => t D s C ∨ u D s C
theorem js_alt (h1 : JS X B st tS) (h2 : JS X B st uS) : JS X B st (dAltS tS uS) := ⟨fun pins s σ H D I h => by
  obtain ⟨sl, C, Qd, rs, rl, h | h, k⟩ := h
  · exact h1.run pins s σ H D I ⟨sl, C, Qd, rs, rl, h, k⟩
  · exact h2.run pins s σ H D I ⟨sl, C, Qd, rs, rl, h, k⟩⟩
def altR (r r' : List D → Cp → DQ → Prop) : List D → Cp → DQ → Prop := fun ds C Q => r ds C Q ∨ r' ds C Q
theorem call_alt {f : Value} {r r' : List D → Cp → DQ → Prop} (h1 : CallD X B f r) (h2 : CallD X B f r') : CallD X B f (altR r r') := by
  intro pins s σ H xs us Q I rx h
  obtain ⟨ds, C, Qd, rr, rl, h | h, k⟩ := h
  · exact h1 pins s σ H xs us Q I rx ⟨ds, C, Qd, rr, rl, h, k⟩
  · exact h2 pins s σ H xs us Q I rx ⟨ds, C, Qd, rr, rl, h, k⟩
def alt2R (r r' : D → D → Cp → DQ → Prop) : D → D → Cp → DQ → Prop := fun x y C Q => r x y C Q ∨ r' x y C Q
theorem op_alt {f : Value → Value → Sem Value} {r r' : D → D → Cp → DQ → Prop} (h1 : OpD X B f r) (h2 : OpD X B f r') : OpD X B f (alt2R r r') := by
  intro pins s σ H x y v u Q I rx ry h
  obtain ⟨dx, dy, C, Qd, a, b, rl, h | h, k⟩ := h
  · exact h1 pins s σ H x y v u Q I rx ry ⟨dx, dy, C, Qd, a, b, rl, h, k⟩
  · exact h2 pins s σ H x y v u Q I rx ry ⟨dx, dy, C, Qd, a, b, rl, h, k⟩
def listSR : List D → Cp → DQ → Prop := fun ds C Q => ∃ l, ds = [.str l] ∧ l.length ≤ sizeLine ∧ ∀ p, C p = none → Q (.ptr p) (up C p (.lst (l.map fun c => .str [c])))
def listKR : List D → Cp → DQ → Prop := fun ds C Q => ∃ p kvs, ds = [.ptr p] ∧ C p = some (.dk kvs) ∧ ∀ q, C q = none → Q (.ptr q) (up C q (.lst (kvs.map fun kv => keyD kv.1)))
theorem call_listKD (hc : X.calm = true) : CallD X B (.type "list") listKR := by
  intro pins s σ H xs us Q I rx h
  obtain ⟨ds, C, Qd, r, rl, ⟨p, kvs, e, hl, h⟩, k⟩ := h
  subst e
  obtain ⟨v, r2, rfl, hv, hn⟩ := r
  cases hn; cases hv
  obtain ⟨ws, e1, q⟩ := rl.ok _ _ hl
  refine L2.call_listD hc pins s σ H _ us Q I rx ⟨p, ws, rfl, .inl e1, fun l hn => ?_⟩
  have e2 := repK_keys q
  have hr : Reps X.K H (kvs.map fun kv => keyD kv.1) (ws.map fun kv => kV kv.1) := by
    have := keyDs_rep (K := X.K) (H := H) (kvs.map (·.1))
    rw [List.map_map, List.map_map] at this
    have e3 := congrArg (List.map kV) e2
    rw [List.map_map, List.map_map] at e3
    have e4 : (ws.map fun kv => kV kv.1) = (kvs.map (·.1)).map (kV ∘ keyOf) := by rw [List.map_map]; exact e3.symm
    rw [e4]
    exact this
  obtain ⟨a1, a2⟩ := rl.newL hn hr
  exact k _ _ _ _ a1 a2 (repP l) (h l (rl.fresh hn))
theorem call_listSD (hc : X.calm = true) : CallD X B (.type "list") listSR := by
  intro pins s σ H xs us Q I rx h
  obtain ⟨ds, C, Qd, r, rl, ⟨l, e, hl, h⟩, k⟩ := h
  subst e
  obtain ⟨v, r2, rfl, hv, hn⟩ := r
  cases hn; cases hv
  obtain ⟨u, rfl, ru⟩ := vals1 rx
  obtain ⟨t, rfl⟩ := ru
  refine call_list_str (I.ok.hd hc) ⟨l.toArray⟩ t (fun h' tk acc c' hk hS hi => ?_) (by simpa using hl)
  have hf : H s.heap.objs.size = none := I.hok.fresh (Nat.le_refl _)
  obtain ⟨vs, g1, g2⟩ := reps_of_at (K := X.K) (H := H) (ds := l.map fun c => D.str [c]) (us := acc.toList) (by rw [Array.length_toList, hi.1]; simp) fun j u e => by
    obtain ⟨c, t2, hc, hu⟩ := hi.2 j u (by rw [← Array.getElem?_toList]; exact e)
    refine ⟨.str [c], .str ⟨#[c]⟩, ?_, rfl, t2, hu⟩
    have hc : l.toArray[j]? = some c := hc
    simp at hc
    simp [hc]
  have hlen : vs.length ≤ sizeLine := by
    rw [← g1.length, List.length_map]
    exact hl
  obtain ⟨a1, a2⟩ := rl.newL hf g1
  exact ⟨.ref s.heap.objs.size, _, I.laid (a := s.heap.objs.size) (o := .lst vs) (t' := tk) hk (Nat.le_refl _) (show ObjOk X.prog X.w _ _ _ (.lst vs) from ⟨hlen, acc.toList, c', g2, by rw [Array.toArray_toList]; exact hS⟩), rfl, k _ _ _ _ a1 a2 (repP _) (h _ (rl.fresh hf))⟩
end
end KB

/-! KB13: room, the law's start, len of a dict. -/
namespace KB
open PySem PySem.Spec PyProof.Rows SeqAt
open L2 hiding op_eqD op_neD
theorem room20 {k : Nat} {A : Around} (r : Room k A) : A.units + 20 < cLine := by have := r.un; omega
theorem room70 {k : Nat} {A : Around} (r : Room k A) : A.units + 70 < cLine := by have := r.un; omega
theorem room80 {k : Nat} {A : Around} (r : Room k A) : A.units + 80 < cLine := by have := r.un; omega
def noLists (K : PySem.W.Frag) : Bool := K.all fun p => match p.2.cls with | .type n => n != "list" | _ => true
theorem lookup_mem {K : List (Addr × Obj)} {a : Addr} {o : Obj} (h : K.lookup a = some o) : (a, o) ∈ K := by
  induction K with
  | nil => cases h
  | cons p r ih =>
    obtain ⟨b, q⟩ := p
    rw [List.lookup_cons] at h
    split at h
    · rename_i e
      have e1 : a = b := by simpa using e
      cases h
      rw [e1]
      exact List.mem_cons_self
    · exact List.mem_cons_of_mem _ (ih h)
theorem reps_ints {K : PySem.W.Frag} {H : Hp} : ∀ ns : List Int, Reps K H (ns.map D.int) (ns.map V.int)
  | [] => rfl
  | _ :: r => .cons rfl (reps_ints r)
theorem law_start {P : Program} {w : World} {K : PySem.W.Frag} {F : DSp} {H : Hp} {a : Addr} {ns : List Int} {n : Nat} (h : ∀ (a : Addr) (ns : List Int) (c : Cell), ns.length ≤ n → (c = .lst (ns.map D.int) ∨ c = .fz (ns.map D.int)) → F [.ptr a] (up (fun _ => none) a c) (fun d _ => d = .bl true) fun _ _ => False)
    (hK : noLists K = true) (hl : ns.length ≤ n) (hS : SqL K H a (ns.map V.int)) : lSp P w K 1 F [.ref a] H (fun v _ => v = .bl true) fun _ _ _ => False := by
  have fin : ∀ c : Cell, (c = .lst (ns.map D.int) ∨ c = .fz (ns.map D.int)) → CellOk P w K H a c → lSp P w K 1 F [.ref a] H (fun v _ => v = .bl true) fun _ _ _ => False := fun c hc ok => by
    refine ⟨rfl, [.ptr a], up (fun _ => none) a c, _, .cons rfl .nil, fun p c' e => ?_, h a ns c hl hc, fun v d H' C' _ _ r q => ?_⟩
    · by_cases hp : p = a
      · subst hp
        rw [up_same] at e
        cases e
        exact ok
      · rw [up_ne hp] at e
        cases e
    · have q : d = .bl true := q
      subst q
      exact r
  rcases hS with (e | ⟨o, e⟩) | ⟨o, its, k, e, hc, _⟩
  · exact fin _ (.inl rfl) ⟨_, e, reps_ints ns⟩
  · exact fin _ (.inr rfl) ⟨_, _, e, reps_ints ns⟩
  · have := List.all_eq_true.mp hK _ (lookup_mem e)
    simp only [hc] at this
    exact absurd this (by decide)
theorem bt_list : bootBuiltins "list" = some (.type "list") := by decide +kernel
theorem bt_tuple : bootBuiltins "tuple" = some (.type "tuple") := by decide +kernel
theorem bt_int : bootBuiltins "int" = some (.type "int") := by decide +kernel
theorem bt_dict : bootBuiltins "dict" = some (.type "dict") := by decide +kernel
theorem bt_set : bootBuiltins "set" = some (.type "set") := by decide +kernel
theorem bt_str : bootBuiltins "str" = some (.type "str") := by decide +kernel
theorem bt_bool : bootBuiltins "bool" = some (.type "bool") := by decide +kernel
theorem bt_abs : bootBuiltins "abs" = some (.builtin "abs") := by decide +kernel
theorem bt_sorted : bootBuiltins "sorted" = some (.builtin "sorted") := by decide +kernel
theorem bt_isinstance : bootBuiltins "isinstance" = some (.builtin "isinstance") := by decide +kernel
theorem bt_max : bootBuiltins "max" = some (.builtin "max") := by decide +kernel
theorem bt_min : bootBuiltins "min" = some (.builtin "min") := by decide +kernel
theorem bt_any : bootBuiltins "any" = some (.builtin "any") := by decide +kernel
theorem bt_all : bootBuiltins "all" = some (.builtin "all") := by decide +kernel
theorem bt_len : bootBuiltins "len" = some (.builtin "len") := by decide +kernel
theorem bt_repr : bootBuiltins "repr" = some (.builtin "repr") := by decide +kernel
theorem bt_sum : bootBuiltins "sum" = some (.builtin "sum") := by decide +kernel
end KB

/-! KB14: readings run by hand: one step a lemma. -/
namespace KB
open PySem PySem.Spec PyProof.Rows
open L2 hiding op_eqD op_neD call_listD
section
variable {C : Cp} {Q : DQ} {p q : Addr} {i : Int} {d v y : D} {xs ys : List D}
theorem eqR_ii {n : Bool} {a b : Int} : eqR n (.int a) (.int b) C Q = Q (.bl (if n then !(a == b) else a == b)) C := by
  unfold eqR okEq npt dep eqD
  simp
theorem eqR_ss {n : Bool} {a b : List Nat} : eqR n (.str a) (.str b) C Q = Q (.bl (if n then !(a == b) else a == b)) C := by
  unfold eqR okEq npt dep eqD
  simp
theorem eqR_tt {n : Bool} {a b : List D} : eqR n (.tup a) (.tup b) C Q = (okEq (.tup a) ∧ npt (.tup b) = true ∧ Q (.bl (if n then !(eqD (.tup a) (.tup b)) else eqD (.tup a) (.tup b))) C) := rfl
theorem eqR_bb {n a b : Bool} : eqR n (.bl a) (.bl b) C Q = Q (.bl (if n then !(a == b) else a == b)) C := by
  unfold eqR okEq npt dep eqD
  simp
theorem eqR_ns {n : Bool} {b : List Nat} : eqR n .non (.str b) C Q = Q (.bl n) C := by
  unfold eqR okEq npt dep eqD
  cases n <;> simp
theorem eqR_pp {n : Bool} (h1 : isL C p xs) (h2 : isL C q ys) (ok : okEqs xs) (ok2 : npts ys = true) (k : Q (.bl (if n then !eqDs xs ys else eqDs xs ys)) C) : eqR n (.ptr p) (.ptr q) C Q := ⟨xs, ys, h1, h2, ok, ok2, k⟩
theorem ix_l (h : isL C p xs) (e : atI xs i = some d) (k : Q d C) : ixD (.ptr p) (.int i) C Q := ⟨xs, d, h, e, k⟩
theorem ix_n {j : Nat} (h : isL C p xs) (e : xs[j]? = some d) (k : Q d C) : ixD (.ptr p) (.int j) C Q := ⟨xs, d, h, atI_nat e, k⟩
theorem ix_tn {j : Nat} (e : xs[j]? = some d) (k : Q d C) : ixD (.tup xs) (.int j) C Q := ⟨d, atI_nat e, k⟩
theorem ix_sn {j : Nat} {l : List Nat} {c : Nat} (z : l.length ≤ sizeLine) (e : l[j]? = some c) (k : Q (.str [c]) C) : ixD (.str l) (.int j) C Q := ⟨z, c, atI_nat e, k⟩
theorem set_l {j : Nat} {R : Cp → Prop} (h : C p = some (.lst xs)) (e : ixN xs.length i = some j) (k : R (up C p (.lst (xs.set j v)))) : setR (.ptr p) (.int i) v C R := ⟨p, _, rfl, .inl ⟨xs, i, j, h, rfl, e, rfl⟩, k⟩
theorem len_l (h : isL C p xs) (k : Q (.int (xs.length : Int)) C) : lenR [.ptr p] C Q := ⟨.ptr p, xs.length, rfl, ⟨xs, h, rfl⟩, k⟩
theorem len_t (k : Q (.int (xs.length : Int)) C) : lenR [.tup xs] C Q := ⟨.tup xs, xs.length, rfl, rfl, k⟩
theorem len_s {l : List Nat} (z : l.length ≤ sizeLine) (k : Q (.int (l.length : Int)) C) : lenR [.str l] C Q := ⟨.str l, l.length, rfl, ⟨z, rfl⟩, k⟩
theorem abs_ii {a : Int} : absR [.int a] C Q = Q (.int (if a < 0 then -a else a)) C := by
  unfold absR
  simp
theorem max_ii {a b : Int} : max2R [.int a, .int b] C Q = Q (.int (if b > a then b else a)) C := by
  unfold max2R
  refine propext ⟨?_, fun h => ⟨a, b, rfl, h⟩⟩
  rintro ⟨i, j, e, h⟩
  cases e
  exact h
theorem min_ii {a b : Int} : min2R [.int a, .int b] C Q = Q (.int (if b < a then b else a)) C := by
  unfold min2R
  refine propext ⟨?_, fun h => ⟨a, b, rfl, h⟩⟩
  rintro ⟨i, j, e, h⟩
  cases e
  exact h
theorem app_l (h : C p = some (.lst xs)) (z : xs.length < sizeLine) (k : Q .non (up C p (.lst (xs ++ [y])))) : appendR (.ptr p) [y] C Q := ⟨p, xs, y, rfl, rfl, h, z, k⟩
theorem popAt_n {j : Nat} (h : C p = some (.lst xs)) (e : xs[j]? = some d) (z : xs.length ≤ sizeLine) (k : Q d (up C p (.lst (xs.eraseIdx j)))) : popAtR (.ptr p) [.int j] C Q := by
  have hj : j < xs.length := (List.getElem?_eq_some_iff.mp e).1
  have := line63
  refine ⟨p, xs, j, j, d, rfl, rfl, h, by omega, by omega, ?_, e, k⟩
  exact (ixN_seq (show ixN xs.length (j : Int) = some j by
    unfold ixN
    rw [if_pos (by omega), if_pos (by omega)]; simp)).1
theorem tyL (h : isL C p xs) : tyD C "list" (.ptr p) := .inl ⟨rfl, xs, h⟩
theorem list_l (h : itemsD C d xs) (k : ∀ p, C p = none → Q (.ptr p) (up C p (.lst xs))) : listR [d] C Q := ⟨d, xs, rfl, h, k⟩
theorem tuple_l (h : itemsD C d xs) (k : Q (.tup xs) C) : tupleR [d] C Q := ⟨d, xs, rfl, h, k⟩
theorem sorted_l (h : collD C d xs) (o : SortOk xs) (k : ∀ p, C p = none → Q (.ptr p) (up C p (.lst (xs.mergeSort leP)))) : sortedR [d] C Q := ⟨d, xs, rfl, h, o, k⟩
theorem ex2 {α β : Type} {a : α} {b : β} {R : α → β → Prop} : (∃ v w, (a = v ∧ b = w) ∧ R v w) = R a b := propext ⟨fun ⟨_, _, ⟨e, f⟩, h⟩ => by subst e f; exact h, fun h => ⟨a, b, ⟨rfl, rfl⟩, h⟩⟩
theorem ex3 {α β γ : Type} {a : α} {b : β} {c : γ} {R : α → β → γ → Prop} : (∃ u v w, (a = u ∧ b = v ∧ c = w) ∧ R u v w) = R a b c := propext ⟨fun ⟨_, _, _, ⟨e, f, g⟩, h⟩ => by subst e f g; exact h, fun h => ⟨a, b, c, ⟨rfl, rfl, rfl⟩, h⟩⟩
theorem addD_ii {a b : Int} : addD (.int a) (.int b) C Q = Q (.int (a + b)) C := rfl
theorem addD_ss {a b : List Nat} : addD (.str a) (.str b) C Q = (a.length + b.length ≤ sizeLine ∧ Q (.str (a ++ b)) C) := rfl
theorem addD_tt {a b : List D} : addD (.tup a) (.tup b) C Q = (a.length + b.length ≤ sizeLine ∧ Q (.tup (a ++ b)) C) := rfl
theorem subD_ii {a b : Int} : subD (.int a) (.int b) C Q = Q (.int (a - b)) C := rfl
theorem mulD_ii {a b : Int} : mulD (.int a) (.int b) C Q = (CMulW a b ∧ Q (.int (a * b)) C) := rfl
theorem modD_ii {a b : Int} : modD (.int a) (.int b) C Q = (0 < b ∧ Q (.int (a % b)) C) := rfl
theorem fdivD_ii {a b : Int} : fdivD (.int a) (.int b) C Q = (CDivW a b ∧ Q (.int (a / b)) C) := rfl
theorem powD_ii {a b : Int} : powD (.int a) (.int b) C Q = (CPow a b ∧ Q (.int (a ^ b.toNat)) C) := rfl
theorem ltD_ii {a b : Int} : ltD (.int a) (.int b) C Q = Q (.bl (decide (a < b))) C := rfl
theorem leD_ii {a b : Int} : leD (.int a) (.int b) C Q = Q (.bl (decide (a ≤ b))) C := rfl
theorem gtD_ii {a b : Int} : gtD (.int a) (.int b) C Q = Q (.bl (decide (b < a))) C := rfl
theorem geD_ii {a b : Int} : geD (.int a) (.int b) C Q = Q (.bl (decide (b ≤ a))) C := rfl
theorem ltD_ss {a b : List Nat} : ltD (.str a) (.str b) C Q = Q (.bl (decide (a < b))) C := rfl
theorem leD_ss {a b : List Nat} : leD (.str a) (.str b) C Q = Q (.bl (!decide (b < a))) C := rfl
theorem truD_b {a k : Bool} : truD C (.bl a) k = (k = a) := rfl
theorem slD_t {lo hi : Option Int} : slD (.tup xs) lo hi C Q = Q (.tup (cutL xs lo hi)) C := rfl
theorem slD_s {l : List Nat} {lo hi : Option Int} : slD (.str l) lo hi C Q = (l.length ≤ sizeLine ∧ Q (.str (cutL l lo hi)) C) := rfl
theorem sl_l {lo hi : Option Int} (h : isL C p xs) (k : ∀ q, C q = none → Q (.ptr q) (up C q (.lst (cutL xs lo hi)))) : slD (.ptr p) lo hi C Q := ⟨xs, h, k⟩
theorem pop_l (h : C p = some (.lst xs)) (e : xs[xs.length - 1]? = some d) (k : Q d (up C p (.lst xs.dropLast))) : popR (.ptr p) [] C Q := ⟨p, xs, d, rfl, rfl, h, e, k⟩
theorem inR_l {n : Bool} (h : isL C p xs) (a : npt d = true) (b : okEqs xs) (k : Q (.bl (if n then !memD xs d else memD xs d)) C) : inR n d (.ptr p) C Q := ⟨xs, h, a, b, k⟩
theorem inR_t {n : Bool} : inR n d (.tup xs) C Q = (npt d = true ∧ okEqs xs ∧ Q (.bl (if n then !memD xs d else memD xs d)) C) := by
  cases d <;> rfl
theorem listS_l {l : List Nat} (z : l.length ≤ sizeLine) (k : ∀ p, C p = none → Q (.ptr p) (up C p (.lst (l.map fun c => .str [c])))) : listSR [.str l] C Q := ⟨l, rfl, z, k⟩
theorem isL_same {c : Cell} (h : c = .lst xs ∨ c = .fz xs) : isL (up C p c) p xs := by
  rcases h with h | h
  · subst h; exact .inl up_same
  · subst h; exact .inr up_same
/-- all but some places as it was -/
def Fr (S : Addr → Prop) (C C' : Cp) : Prop := ∀ r, ¬ S r → C' r = C r
theorem Fr.refl {S : Addr → Prop} (C : Cp) : Fr S C C := fun _ _ => rfl
theorem Fr.trans {S : Addr → Prop} {C C1 C2 : Cp} (a : Fr S C C1) (b : Fr S C1 C2) : Fr S C C2 := fun r h => (b r h).trans (a r h)
theorem Fr.up {S : Addr → Prop} {C C1 : Cp} {c : Cell} (a : Fr S C C1) (h : S p) : Fr S C (up C1 p c) := fun r hr => by
  rw [up_ne (fun e : r = p => hr (by rw [e]; exact h))]
  exact a r hr
theorem Fr.mono {S T : Addr → Prop} {C C1 : Cp} (a : Fr S C C1) (h : ∀ r, S r → T r) : Fr T C C1 := fun r hr => a r fun s => hr (h r s)
theorem sub_up {c : Cell} (h : C p = none) : Sub C (up C p c) := fun r c' e => by
  rw [up_ne (fun z => by subst z; rw [h] at e; cases e)]
  exact e
theorem sub_up2 {C C1 : Cp} {c : Cell} (s : Sub C C1) (h : C1 p = none) : Sub C (up C1 p c) := s.trans (sub_up h)
/-- what a store keeps when a new place is left out of it -/
theorem sub_both {C C1 : Cp} {c : Cell} (s : Sub C C1) : Sub (up C p c) (up C1 p c) := fun r c' e => by
  by_cases h : r = p
  · subst h
    rw [up_same] at e ⊢
    exact e
  · rw [up_ne h] at e ⊢
    exact s r c' e
end
end KB
namespace KB
open PySem PySem.Spec PyProof.Rows
open L2 hiding op_eqD op_neD call_listD
section
variable {C C1 C2 : Cp} {Q : DQ} {p q r : Addr} {i : Int} {d v y : D} {xs ys : List D} {S T : Addr → Prop} {c : Cell}
/-- x[y] of a dict -/
def getX (x y : D) (C : Cp) (Q : DQ) : Prop := ∃ p d, x = .ptr p ∧ gotD C p y (some d) ∧ Q d C
theorem dGetI_eq {to ti : DE} {s : Sl} : dGetI to ti s C Q = to s C fun x C1 => ti s C1 fun y C2 => getX x y C2 Q := rfl
theorem got_k {kvs : List (DKey × D)} {a : Addr} {k : DKey} {d : D} (h : C a = some (.dk kvs)) (e : lookA kvs k = some d) (z : Q d C) : getX (.ptr a) (keyD k) C Q := ⟨a, d, rfl, .inl ⟨kvs, k, h, rfl, e.symm⟩, z⟩
theorem got_g {kvs : List (D × D)} {a : Addr} {k d : D} (h : C a = some (.dg kvs)) (g : keyG k) (e : lookG kvs k = some d) (z : Q d C) : getX (.ptr a) k C Q := ⟨a, d, rfl, .inr ⟨kvs, h, g, e.symm⟩, z⟩
/-- all there is stays, but for some places; new things may stand beside -/
def Kp (S : Addr → Prop) (C C' : Cp) : Prop := ∀ r c, ¬ S r → C r = some c → C' r = some c
theorem Kp.refl (C : Cp) : Kp S C C := fun _ _ _ h => h
theorem Kp.trans (a : Kp S C C1) (b : Kp S C1 C2) : Kp S C C2 := fun r c h e => b r c h (a r c h e)
theorem Kp.new (a : Kp S C C1) (h : C1 p = none) : Kp S C (up C1 p c) := fun r c' hr e => by
  have e1 := a r c' hr e
  rw [up_ne (fun z : r = p => by subst z; rw [h] at e1; cases e1)]
  exact e1
theorem Kp.put (a : Kp S C C1) (h : S p) : Kp S C (up C1 p c) := fun r c' hr e => by
  rw [up_ne (fun z : r = p => hr (by rw [z]; exact h))]
  exact a r c' hr e
theorem Kp.mono (a : Kp S C C1) (h : ∀ r, S r → T r) : Kp T C C1 := fun r c hr e => a r c (fun s => hr (h r s)) e
theorem Kp.isL (a : Kp S C C1) (h : ¬ S p) (e : isL C p xs) : isL C1 p xs := e.elim (fun e => .inl (a _ _ h e)) fun e => .inr (a _ _ h e)
theorem Kp.ne (a : Kp S C C1) (h : C p = some c) (n : ¬ S p) (z : C1 q = none) : q ≠ p := fun e => by
  subst e
  rw [a _ _ n h] at z
  cases z
theorem ne_fresh (h : C p = some c) (z : C q = none) : q ≠ p := fun e => by
  subst e
  rw [h] at z
  cases z
theorem Fr.kp (a : Fr S C C1) : Kp S C C1 := fun r c h e => (a r h).trans e
theorem isL_up_ne (h : isL C p xs) (n : p ≠ r) : isL (up C r c) p xs := h.elim (fun e => .inl (by rw [up_ne n]; exact e)) fun e => .inr (by rw [up_ne n]; exact e)
theorem at_ne (h : C p = some c) {c' : Cell} (n : p ≠ r) : up C r c' p = some c := by rw [up_ne n]; exact h
theorem inKD {n : Bool} {kvs : List (DKey × D)} (h : C p = some (.dk kvs)) {k : DKey} (e : Q (.bl (if n then !(lookA kvs k).isSome else (lookA kvs k).isSome)) C) : inDR n (keyD k) (.ptr p) C Q := ⟨p, lookA kvs k, rfl, .inl ⟨kvs, k, h, rfl, rfl⟩, e⟩
theorem put_k {kvs : List (DKey × D)} {R : Cp → Prop} (h : C p = some (.dk kvs)) (k : DKey) (z : kvs.length < sizeLine) (e : R (up C p (.dk (putA kvs k v)))) : setR (.ptr p) (keyD k) v C R := ⟨p, _, rfl, .inr (.inl ⟨kvs, k, h, rfl, z, rfl⟩), e⟩
theorem put_g {kvs : List (D × D)} {R : Cp → Prop} (h : C p = some (.dg kvs)) (k : keyG y) (z : kvs.length < sizeLine) (e : R (up C p (.dg (putG kvs y v)))) : setR (.ptr p) y v C R := ⟨p, _, rfl, .inr (.inr ⟨kvs, h, k, z, rfl⟩), e⟩
theorem rng_at {n i : Nat} {x : D} (e : (rngD 0 n)[i]? = some x) : i < n ∧ x = .int (i : Int) := by
  have hl : i < n := by
    have := (List.getElem?_eq_some_iff.mp e).1
    rw [rngD_len] at this
    exact this
  rw [rngD_get hl] at e
  have e := Option.some.inj e
  rw [Int.zero_add] at e
  exact ⟨hl, e.symm⟩
end
end KB

/-! KB15: facts of sorting; lists of texts. -/
namespace KB
open PySem PySem.Spec PyProof.Rows
open L2 hiding op_eqD op_neD call_listD
theorem leP_total : W.TotalLe leP := W.sortLe_total _ false _
theorem leP_anti {a b : D} (h1 : leP a b = true) (h2 : leP b a = true) : W.keyToks (toP a) = W.keyToks (toP b) := by
  have h1 : (!(PyProof.Rows.listOrd PyProof.Rows.itemOrd).blt (W.keyToks (toP b)) (W.keyToks (toP a))) = true := h1
  have h2 : (!(PyProof.Rows.listOrd PyProof.Rows.itemOrd).blt (W.keyToks (toP a)) (W.keyToks (toP b))) = true := h2
  rw [Bool.not_eq_true'] at h1 h2
  exact (PyProof.Rows.listOrd PyProof.Rows.itemOrd).total _ _ h2 h1
theorem sort_eq {xs ys : List D} (hp : xs.Perm ys) (inj : ∀ a ∈ xs, ∀ b ∈ xs, W.keyToks (toP a) = W.keyToks (toP b) → a = b) : xs.mergeSort leP = ys.mergeSort leP := by
  have tr : ∀ a b c, leP a b = true → leP b c = true → leP a c = true := leP_total.trans
  have to : ∀ a b, (leP a b || leP b a) = true := fun a b => by
    rcases leP_total.total a b with h | h <;> simp [h]
  refine List.Perm.eq_of_pairwise (le := fun a b => leP a b = true) (fun a b ha hb h1 h2 => ?_) (List.pairwise_mergeSort tr to xs) (List.pairwise_mergeSort tr to ys) ((List.mergeSort_perm xs leP).trans (hp.trans (List.mergeSort_perm ys leP).symm))
  exact inj a ((List.mergeSort_perm xs leP).mem_iff.mp ha) b (hp.mem_iff.mpr ((List.mergeSort_perm ys leP).mem_iff.mp hb)) (leP_anti h1 h2)
theorem perm_of {α : Type} : ∀ {xs ys : List α}, xs.Nodup → ys.Nodup → (∀ a, a ∈ xs ↔ a ∈ ys) → xs.Perm ys := by
  intro xs
  induction xs with
  | nil =>
    intro ys _ _ h
    cases ys with
    | nil => exact .nil
    | cons y r => exact absurd ((h y).mpr List.mem_cons_self) (by simp)
  | cons x r ih =>
    intro ys h1 h2 h
    obtain ⟨s, t, rfl⟩ := List.append_of_mem ((h x).mp List.mem_cons_self)
    have hn := List.nodup_cons.mp h1
    have h3 : (s ++ t).Nodup ∧ x ∉ s ++ t := by
      have := (List.perm_middle (a := x) (l₁ := s) (l₂ := t)).nodup_iff.mp h2
      exact ⟨(List.nodup_cons.mp this).2, (List.nodup_cons.mp this).1⟩
    refine .trans (.cons x (ih hn.2 h3.1 fun a => ?_)) List.perm_middle.symm
    constructor
    · intro ha
      have := (h a).mp (List.mem_cons_of_mem _ ha)
      rcases List.mem_append.mp this with q | q
      · exact List.mem_append_left _ q
      · rcases List.mem_cons.mp q with q | q
        · subst q; exact absurd ha hn.1
        · exact List.mem_append_right _ q
    · intro ha
      have : a ∈ x :: r := (h a).mpr (by
        rcases List.mem_append.mp ha with q | q
        · exact List.mem_append_left _ q
        · exact List.mem_append_right _ (List.mem_cons_of_mem _ q))
      rcases List.mem_cons.mp this with q | q
      · subst q; exact absurd ha h3.2
      · exact q
theorem strs_inj {xs : List (List Nat)} : ∀ a ∈ xs.map D.str, ∀ b ∈ xs.map D.str, W.keyToks (toP a) = W.keyToks (toP b) → a = b := by
  intro a ha b hb h
  obtain ⟨x, _, rfl⟩ := List.mem_map.mp ha
  obtain ⟨y, _, rfl⟩ := List.mem_map.mp hb
  simp only [toP, W.keyToks, List.cons.injEq, Sum.inr.injEq, and_true] at h
  rw [show x = y from h]
theorem nodup_len {α : Type} [DecidableEq α] : ∀ {xs ys : List α}, xs.Nodup → (∀ a ∈ xs, a ∈ ys) → xs.length ≤ ys.length := by
  intro xs
  induction xs with
  | nil => intro ys _ _; exact Nat.zero_le _
  | cons x r ih =>
    intro ys h1 h
    have hn := List.nodup_cons.mp h1
    have := ih (ys := ys.erase x) hn.2 fun a ha => (List.mem_erase_of_ne (fun e => hn.1 (by subst e; exact ha))).mpr (h a (List.mem_cons_of_mem _ ha))
    have h2 := List.length_erase_of_mem (h x List.mem_cons_self)
    have h3 : 0 < ys.length := List.length_pos_of_mem (h x List.mem_cons_self)
    rw [List.length_cons]
    omega
theorem sortOk_strs (xs : List (List Nat)) : SortOk (xs.map D.str) := by
  refine ⟨fun a ha b hb => ?_, .inr fun d hd => ?_, fun x hx => ?_⟩
  · obtain ⟨c, hc, rfl⟩ := List.mem_map.mp ha
    obtain ⟨e, he, rfl⟩ := List.mem_map.mp hb
    obtain ⟨x, _, rfl⟩ := List.mem_map.mp hc
    obtain ⟨y, _, rfl⟩ := List.mem_map.mp he
    rfl
  · obtain ⟨c, hc, rfl⟩ := List.mem_map.mp hd
    obtain ⟨x, _, rfl⟩ := List.mem_map.mp hc
    exact ⟨by simp [toP], fun xs => by simp [toP]⟩
  · obtain ⟨c, hc, rfl⟩ := List.mem_map.mp hx
    exact ⟨rfl, by unfold dep; omega⟩
theorem strs_img {xs : List D} {P : List Nat → Prop} (h : ∀ d ∈ xs, ∃ l, d = .str l ∧ P l) : ∃ ls : List (List Nat), xs = ls.map D.str ∧ ∀ l ∈ ls, P l := by
  induction xs with
  | nil => exact ⟨[], rfl, fun l h => by cases h⟩
  | cons x r ih =>
    obtain ⟨l, rfl, p⟩ := h x List.mem_cons_self
    obtain ⟨ls, rfl, q⟩ := ih fun d hd => h d (List.mem_cons_of_mem _ hd)
    refine ⟨l :: ls, rfl, fun z hz => ?_⟩
    rcases List.mem_cons.mp hz with e | e
    · subst e; exact p
    · exact q z e
theorem npts_strs (xs : List (List Nat)) : okEqs (xs.map D.str) := by
  induction xs with
  | nil => exact ⟨rfl, by decide⟩
  | cons x r ih =>
    obtain ⟨a, b⟩ := ih
    refine ⟨by rw [List.map_cons]; unfold npts npt; rw [a]; rfl, ?_⟩
    rw [List.map_cons]
    unfold deps dep
    omega
theorem memD_strs (xs : List (List Nat)) (x : List Nat) : memD (xs.map D.str) (.str x) = decide (x ∈ xs) := by
  unfold memD
  induction xs with
  | nil => simp
  | cons y r ih =>
    rw [List.map_cons, List.any_cons, ih]
    unfold eqD
    by_cases h : x = y
    · subst h; simp
    · have : (y == x) = false := by simpa using fun e : y = x => h e.symm
      rw [this]
      simp [h]
theorem any_map {α β : Type} (f : α → β) {xs : List β} {P : β → Prop} (hx : ∀ b ∈ xs, ∃ a, b = f a) : ∃ as : List α, xs = as.map f := by
  induction xs with
  | nil => exact ⟨[], rfl⟩
  | cons x r ih =>
    obtain ⟨a, rfl⟩ := hx x List.mem_cons_self
    obtain ⟨as, rfl⟩ := ih fun b hb => hx b (List.mem_cons_of_mem _ hb)
    exact ⟨a :: as, rfl⟩
/-! ### pairs of texts -/
abbrev Ed := List Nat × List Nat
def edD (e : Ed) : D := .tup [.str e.1, .str e.2]
theorem sortOk_eds (xs : List Ed) : SortOk (xs.map edD) := by
  refine ⟨fun a ha b hb => ?_, .inl fun d hd => ?_, fun x hx => ?_⟩
  · obtain ⟨c, hc, rfl⟩ := List.mem_map.mp ha
    obtain ⟨e, he, rfl⟩ := List.mem_map.mp hb
    obtain ⟨x, _, rfl⟩ := List.mem_map.mp hc
    obtain ⟨y, _, rfl⟩ := List.mem_map.mp he
    rfl
  · obtain ⟨c, hc, rfl⟩ := List.mem_map.mp hd
    obtain ⟨x, _, rfl⟩ := List.mem_map.mp hc
    exact ⟨_, _, rfl⟩
  · obtain ⟨c, hc, rfl⟩ := List.mem_map.mp hx
    exact ⟨rfl, by simp [edD, dep, deps]⟩
theorem keyG_ed (e : Ed) : keyG (edD e) := ⟨⟨_, rfl⟩, by simp [edD, nk, nks, NestedKey.depth, NestedKey.depthAll], rfl⟩
end KB

/-! KB16: from the def of the law to the head. -/
namespace KB
open PySem PySem.Spec PyProof.Rows
open L2 hiding op_eqD op_neD call_listD
theorem walk_kb {l : PySem.W.OpenLaw} {n k : Nat} {q : Program} {loose : List Str} {XP : (Str → Option Value) → Heap → Prop} {YP : World → Heap → Prop} {d : DefRec} {K : Params → PySem.W.Frag} {x : Str} {Fd : DSp}
    (hT : ∀ (a : Addr) (ns : List Int) (c : Cell), ns.length ≤ n → (c = .lst (ns.map D.int) ∨ c = .fz (ns.map D.int)) → Fd [.ptr a] (up (fun _ => none) a c) (fun d _ => d = .bl true) fun _ _ => False)
    (hn : l.most = some n) (hn2 : n ≤ sizeLine) (hdf : d.params.defaults = []) (hr : Room k callerA) (hY : ∀ (w : World) (h : Heap), YP w h → (K w.params).In h) (hK : ∀ w : World, noLists (K w.params) = true)
    (F : ∀ (w : World) (mg : Str → Option Value) (fa : Addr) (h : Heap), (K w.params).In h → h.Ns mainGlobals mg → mg d.name = some (.ref fa) →
      ∃ fd : FuncData, (∀ (s : Shared) (u : Value), BindsTo s fd ⟨[u], []⟩ [(x, u)]) ∧ ∀ base : Heap, (K w.params).In base → base.Ns mainGlobals mg → FnOk l.prog w (K w.params) mg base CX0 k fa fd [x] (lSp l.prog w (K w.params) 1 Fd)) :
    PySem.W.WalkO q loose XP YP l.row.toRowW d [] (fun f vs => PySem.call f vs) :=
  L2.walk_of (CX := fun _ => CX0) (sp := fun w => lSp l.prog w (K w.params) 1 Fd) hn hn2 hdf hr hY F (fun w H a ns hl _ hS => law_start hT (hK w) hl hS) fun _ _ _ _ _ z => z
end KB

namespace K06
open PySem PySem.Spec PyProof.Rows KB
open L2 hiding op_eqD op_neD call_listD
def topS (i : Nat) : Stmt := PySem.Challenge.pw_keptpages_k06_marks_within_marks.main.body.getD i (.Pass ⟨0, 0, 0, 0⟩)
abbrev s__law_pot : Stmt := topS 7
theorem sc__law_pot : FnScope ["_law_script"] ["_law_script"] (defScope s__law_pot) := ⟨rfl, rfl, rfl, by decide +kernel, rfl, by decide +kernel, by decide +kernel⟩
abbrev s__law_blend : Stmt := topS 6
theorem sc__law_blend : FnScope ["_law_number", "_law_turn", "_law_seed", "_law_once"] ["_law_number", "_law_turn"] (defScope s__law_blend) := ⟨rfl, rfl, rfl, by decide +kernel, rfl, by decide +kernel, by decide +kernel⟩
abbrev s__law_draw : Stmt := topS 8
theorem sc__law_draw : FnScope ["_law_pot_here", "_law_many", "_law_cell", "_law_digit"] ["_law_pot_here", "_law_many"] (defScope s__law_draw) := ⟨rfl, rfl, rfl, by decide +kernel, rfl, by decide +kernel, by decide +kernel⟩
abbrev s__law_pick : Stmt := topS 9
theorem sc__law_pick : FnScope ["_law_pot_here", "_law_some"] ["_law_pot_here", "_law_some"] (defScope s__law_pick) := ⟨rfl, rfl, rfl, by decide +kernel, rfl, by decide +kernel, by decide +kernel⟩
abbrev s__law_marks : Stmt := topS 10
theorem sc__law_marks : FnScope ["_law_pot_here", "_law_many", "_law_stem", "_law_k", "_law_signs", "_law_found", "_law_at", "_law_way", "_law_sign"] ["_law_pot_here", "_law_many"] (defScope s__law_marks) := ⟨rfl, rfl, rfl, by decide +kernel, rfl, by decide +kernel, by decide +kernel⟩
abbrev s__law_pairs : Stmt := topS 11
theorem sc__law_pairs : FnScope ["_law_pot_here", "_law_marks_here", "_law_k", "_law_way", "_law_found", "_law_turn"] ["_law_pot_here", "_law_marks_here"] (defScope s__law_pairs) := ⟨rfl, rfl, rfl, by decide +kernel, rfl, by decide +kernel, by decide +kernel⟩
abbrev s_led_to : Stmt := topS 1
theorem sc_led_to : FnScope ["begun", "links", "met", "waiting", "here", "one", "other"] ["begun", "links"] (defScope s_led_to) := ⟨rfl, rfl, rfl, by decide +kernel, rfl, by decide +kernel, by decide +kernel⟩
abbrev s_around : Stmt := topS 2
theorem sc_around : FnScope ["pairs", "mark"] ["pairs", "mark"] (defScope s_around) := ⟨rfl, rfl, rfl, by decide +kernel, rfl, by decide +kernel, by decide +kernel⟩
abbrev s_closes : Stmt := topS 4
theorem sc_closes : FnScope ["pairs", "inner", "outer"] ["pairs", "inner", "outer"] (defScope s_closes) := ⟨rfl, rfl, rfl, by decide +kernel, rfl, by decide +kernel, by decide +kernel⟩
abbrev s__law_led : Stmt := topS 12
theorem sc__law_led : FnScope ["_law_pairs_here", "_law_mark", "_law_met", "_law_many", "_law_inner", "_law_outer"] ["_law_pairs_here", "_law_mark"] (defScope s__law_led) := ⟨rfl, rfl, rfl, by decide +kernel, rfl, by decide +kernel, by decide +kernel⟩
abbrev s_inside : Stmt := topS 3
theorem sc_inside : FnScope ["pairs", "mark", "inner", "outer"] ["pairs", "mark"] (defScope s_inside) := ⟨rfl, rfl, rfl, by decide +kernel, rfl, by decide +kernel, by decide +kernel⟩
abbrev s__law_right : Stmt := topS 13
theorem sc__law_right : FnScope ["_law_pot_here", "_law_pairs_here", "_law_marks_here", "_law_back", "_law_mark", "_law_turn", "_law_rounds", "_law_within", "_law_found", "_law_inner", "_law_outer"] ["_law_pot_here", "_law_pairs_here", "_law_marks_here"] (defScope s__law_right) := ⟨rfl, rfl, rfl, by decide +kernel, rfl, by decide +kernel, by decide +kernel⟩
abbrev s_law : Stmt := topS 14
theorem sc_law : FnScope ["_law_script", "_law_pot_here", "_law_turn", "_law_marks_here", "_law_pairs_here", "_law_kept", "_law_pair"] ["_law_script"] (defScope s_law) := ⟨rfl, rfl, rfl, by decide +kernel, rfl, by decide +kernel, by decide +kernel⟩
structure Env (K : PySem.W.Frag) (mg : Str → Option Value) where
  a__law_pot : Addr
  d__law_pot : FuncData
  F__law_pot : Fun K "_law_pot" "_law_pot" s__law_pot a__law_pot d__law_pot
  b__law_pot : Binds K d__law_pot ["_law_script"] []
  m__law_pot : mg "_law_pot" = some (.ref a__law_pot)
  a__law_blend : Addr
  d__law_blend : FuncData
  F__law_blend : Fun K "_law_blend" "_law_blend" s__law_blend a__law_blend d__law_blend
  b__law_blend : Binds K d__law_blend ["_law_number", "_law_turn"] []
  m__law_blend : mg "_law_blend" = some (.ref a__law_blend)
  a__law_draw : Addr
  d__law_draw : FuncData
  F__law_draw : Fun K "_law_draw" "_law_draw" s__law_draw a__law_draw d__law_draw
  b__law_draw : Binds K d__law_draw ["_law_pot_here", "_law_many"] []
  m__law_draw : mg "_law_draw" = some (.ref a__law_draw)
  a__law_pick : Addr
  d__law_pick : FuncData
  F__law_pick : Fun K "_law_pick" "_law_pick" s__law_pick a__law_pick d__law_pick
  b__law_pick : Binds K d__law_pick ["_law_pot_here", "_law_some"] []
  m__law_pick : mg "_law_pick" = some (.ref a__law_pick)
  a__law_marks : Addr
  d__law_marks : FuncData
  F__law_marks : Fun K "_law_marks" "_law_marks" s__law_marks a__law_marks d__law_marks
  b__law_marks : Binds K d__law_marks ["_law_pot_here", "_law_many"] []
  m__law_marks : mg "_law_marks" = some (.ref a__law_marks)
  a__law_pairs : Addr
  d__law_pairs : FuncData
  F__law_pairs : Fun K "_law_pairs" "_law_pairs" s__law_pairs a__law_pairs d__law_pairs
  b__law_pairs : Binds K d__law_pairs ["_law_pot_here", "_law_marks_here"] []
  m__law_pairs : mg "_law_pairs" = some (.ref a__law_pairs)
  a_led_to : Addr
  d_led_to : FuncData
  F_led_to : Fun K "led_to" "led_to" s_led_to a_led_to d_led_to
  b_led_to : Binds K d_led_to ["begun", "links"] []
  m_led_to : mg "led_to" = some (.ref a_led_to)
  a_around : Addr
  d_around : FuncData
  F_around : Fun K "around" "around" s_around a_around d_around
  b_around : Binds K d_around ["pairs", "mark"] []
  m_around : mg "around" = some (.ref a_around)
  a_closes : Addr
  d_closes : FuncData
  F_closes : Fun K "closes" "closes" s_closes a_closes d_closes
  b_closes : Binds K d_closes ["pairs", "inner", "outer"] []
  m_closes : mg "closes" = some (.ref a_closes)
  a__law_led : Addr
  d__law_led : FuncData
  F__law_led : Fun K "_law_led" "_law_led" s__law_led a__law_led d__law_led
  b__law_led : Binds K d__law_led ["_law_pairs_here", "_law_mark"] []
  m__law_led : mg "_law_led" = some (.ref a__law_led)
  a_inside : Addr
  d_inside : FuncData
  F_inside : Fun K "inside" "inside" s_inside a_inside d_inside
  b_inside : Binds K d_inside ["pairs", "mark"] []
  m_inside : mg "inside" = some (.ref a_inside)
  a__law_right : Addr
  d__law_right : FuncData
  F__law_right : Fun K "_law_right" "_law_right" s__law_right a__law_right d__law_right
  b__law_right : Binds K d__law_right ["_law_pot_here", "_law_pairs_here", "_law_marks_here"] []
  m__law_right : mg "_law_right" = some (.ref a__law_right)
  a_law : Addr
  d_law : FuncData
  F_law : Fun K "law" "law" s_law a_law d_law
  b_law : Binds K d_law ["_law_script"] []
  m_law : mg "law" = some (.ref a_law)
  z_abs : mg "abs" = none
  z_bool : mg "bool" = none
  z_isinstance : mg "isinstance" = none
  z_len : mg "len" = none
  z_list : mg "list" = none
  z_max : mg "max" = none
  z_min : mg "min" = none
  z_range : mg "range" = none
  z_sorted : mg "sorted" = none
  z_tuple : mg "tuple" = none
section
variable {P : Program} {w : World} {K : PySem.W.Frag} {mg : Str → Option Value} {base : Heap}
def r__law_pot : DS := dRet (dLst (dCons (dCB (listR) (dCons (dVar 0) (dNil))) (dCons (dC (.int 0)) (dCons (dC (.int 3)) (dCons (dC (.int 0)) (dNil))))))
def D__law_pot : DSp := runD 1 1 r__law_pot
theorem ok__law_pot {P : Program} {w : World} {base : Heap} (E : Env K mg) (k : Nat) : FnOk P w K mg base CX0 (k + 1) E.a__law_pot E.d__law_pot ["_law_script"] (lSp P w K 1 D__law_pot) := fnok_of E.F__law_pot sc__law_pot rfl (fun cdv A outer s H Eo B hP hw hr => by
  subst hP hw
  have hB : B.P = B.P ∧ B.w = B.w := ⟨rfl, rfl⟩
  unfold r__law_pot
  exact jss_one (js_ret (j_lst (jas_cons (j_callTy (KB.call_listD) E.z_list bt_list (jas_cons (jv 0) (jas_nil))) (jas_cons (j_int) (jas_cons (j_int) (jas_cons (j_int) (jas_nil))))))))
def r__law_blend : DS := dSeq (dAsg (dOp addD (dOp addD (dOp addD (dOp modD (dVar 0) (dC (.int 2305843009213693951))) (dOp mulD (dOp mulD (dC (.int 104729)) (dVar 1)) (dVar 1))) (dOp mulD (dC (.int 17)) (dVar 1))) (dC (.int 5))) (gNm 2))
  (dSeq (dAsg (dOp modD (dOp mulD (dVar 2) (dC (.int 48271))) (dC (.int 2305843009213693921))) (gNm 3))
  (dRet (dOp modD (dOp addD (dOp mulD (dVar 3) (dOp addD (dOp modD (dVar 3) (dC (.int 1000003))) (dOp mulD (dC (.int 99991)) (dVar 1)))) (dOp fdivD (dVar 3) (dC (.int 11)))) (dC (.int 2305843009213693907)))))
def D__law_blend : DSp := runD 2 4 r__law_blend
theorem ok__law_blend {P : Program} {w : World} {base : Heap} (E : Env K mg) (k : Nat) : FnOk P w K mg base CX0 (k + 1) E.a__law_blend E.d__law_blend ["_law_number", "_law_turn"] (lSp P w K 2 D__law_blend) := fnok_of E.F__law_blend sc__law_blend rfl (fun cdv A outer s H Eo B hP hw hr => by
  subst hP hw
  have hB : B.P = B.P ∧ B.w = B.w := ⟨rfl, rfl⟩
  unfold r__law_blend
  exact jss_cons (js_set (i := 2) sc__law_blend.nd (j_op op_addD (j_op op_addD (j_op op_addD (j_op op_modD (jv 0) (j_int)) (j_op op_mulD (j_op op_mulD (j_int) (jv 1)) (jv 1))) (j_op op_mulD (j_int) (jv 1))) (j_int)))
    (jss_cons (js_set (i := 3) sc__law_blend.nd (j_op op_modD (j_op op_mulD (jv 2) (j_int)) (j_int)))
    (jss_one (js_ret (j_op op_modD (j_op op_addD (j_op op_mulD (jv 3) (j_op op_addD (j_op op_modD (jv 3) (j_int)) (j_op op_mulD (j_int) (jv 1)))) (j_op op_fdivD (jv 3) (j_int))) (j_int))))))
def r__law_draw_1 : DS := dRet (dOp modD (dOp fdivD (dCall D__law_blend [] (dCons (dOp ixD (dVar 0) (dC (.int 2))) (dCons (dOp ixD (dVar 0) (dC (.int 3))) (dNil)))) (dC (.int 7))) (dVar 1))
def r__law_draw_2 : DS := dSeq (dIf (dTest (dOp (gtD) (dOp ixD (dVar 0) (dC (.int 1))) (dC (.int 0)))) (dSeq (dAsg (dOp modD (dOp ixD (dVar 0) (dC (.int 1))) (dVar 1)) (gNm 3))
  (dSeq (dSetI (dVar 0) (dC (.int 1)) (dOp fdivD (dOp ixD (dVar 0) (dC (.int 1))) (dVar 1)))
  (dRet (dVar 3)))) (dNext))
  (r__law_draw_1)
def r__law_draw : DS := dSeq (dSetI (dVar 0) (dC (.int 3)) (dOp addD (dOp ixD (dVar 0) (dC (.int 3))) (dC (.int 1))))
  (dSeq (dIf (dAnd (dTest (dOp (eqR false) (dOp ixD (dVar 0) (dC (.int 1))) (dC (.int 0)))) (dTest (dOp (eqR true) (dOp ixD (dVar 0) (dC (.int 0))) (dLst (dNil))))) (dSeq (dAsg (dBM "list" popAtR (dOp ixD (dVar 0) (dC (.int 0))) (dCons (dC (.int 0)) (dNil))) (gNm 2))
  (dSeq (dSetI (dVar 0) (dC (.int 2)) (dCall D__law_blend [] (dCons (dOp addD (dOp ixD (dVar 0) (dC (.int 2))) (dVar 2)) (dCons (dCB (lenR) (dCons (dOp ixD (dVar 0) (dC (.int 0))) (dNil))) (dNil)))))
  (dIf (dTest (dOp (geD) (dCB absR (dCons (dVar 2) (dNil))) (dOp powD (dC (.int 10)) (dC (.int 18))))) (dSetI (dVar 0) (dC (.int 1)) (dCB absR (dCons (dVar 2) (dNil)))) (dNext)))) (dNext))
  (r__law_draw_2))
def D__law_draw : DSp := runD 2 4 r__law_draw
theorem ok__law_draw {P : Program} {w : World} {base : Heap} (E : Env K mg) (k : Nat) : FnOk P w K mg base CX0 (k + 2) E.a__law_draw E.d__law_draw ["_law_pot_here", "_law_many"] (lSp P w K 2 D__law_draw) := fnok_of E.F__law_draw sc__law_draw rfl (fun cdv A outer s H Eo B hP hw hr => by
  subst hP hw
  have hB : B.P = B.P ∧ B.w = B.w := ⟨rfl, rfl⟩
  unfold r__law_draw
  unfold r__law_draw_2
  unfold r__law_draw_1
  exact jss_cons (js_sset hB (room20 hr) (jv 0) (j_int) (j_op op_addD (j_ix (jv 0) (j_int)) (j_int)))
    (jss_cons (js_if (jt_w (jw_and (jt_cmp (op_eqD (room70 hr)) (j_ix (jv 0) (j_int)) (j_int)) (jw_and1 (jt_cmp (op_neD (room70 hr)) (j_ix (jv 0) (j_int)) (j_lst (jas_nil)))))) (jss_cons (js_set (i := 2) sc__law_draw.nd (j_bm PySem.F.plainAttrs_list PySem.F.slot_list_pop PySem.F.type_list_pop mt_popAtD (j_ix (jv 0) (j_int)) (jas_cons (j_int) (jas_nil))))
    (jss_cons (js_sset hB (room20 hr) (jv 0) (j_int) (j_call [] (ok__law_blend E k) (hr.mono (by omega)) E.m__law_blend E.F__law_blend.kp E.b__law_blend (fun _ _ _ _ q => q.1) .nil (fun _ => .nil) (jas_cons (j_op op_addD (j_ix (jv 0) (j_int)) (jv 2)) (jas_cons (j_callB (call_lenD0) E.z_len bt_len (jas_cons (j_ix (jv 0) (j_int)) (jas_nil))) (jas_nil)))))
    (jss_one (js_if (jt_cmp (op_geD) (j_callB call_absD E.z_abs bt_abs (jas_cons (jv 2) (jas_nil))) (j_op op_powD (j_int) (j_int))) (jss_one (js_sset hB (room20 hr) (jv 0) (j_int) (j_callB call_absD E.z_abs bt_abs (jas_cons (jv 2) (jas_nil))))) (jss_nil))))) (jss_nil))
    (jss_cons (js_if (jt_cmp (op_gtD) (j_ix (jv 0) (j_int)) (j_int)) (jss_cons (js_set (i := 3) sc__law_draw.nd (j_op op_modD (j_ix (jv 0) (j_int)) (jv 1)))
    (jss_cons (js_sset hB (room20 hr) (jv 0) (j_int) (j_op op_fdivD (j_ix (jv 0) (j_int)) (jv 1)))
    (jss_one (js_ret (jv 3))))) (jss_nil))
    (jss_one (js_ret (j_op op_modD (j_op op_fdivD (j_call [] (ok__law_blend E k) (hr.mono (by omega)) E.m__law_blend E.F__law_blend.kp E.b__law_blend (fun _ _ _ _ q => q.1) .nil (fun _ => .nil) (jas_cons (j_ix (jv 0) (j_int)) (jas_cons (j_ix (jv 0) (j_int)) (jas_nil)))) (j_int)) (jv 1)))))))
def r__law_pick : DS := dRet (dOp ixD (dVar 1) (dCall D__law_draw [] (dCons (dVar 0) (dCons (dCB (lenR) (dCons (dVar 1) (dNil))) (dNil)))))
def D__law_pick : DSp := runD 2 2 r__law_pick
theorem ok__law_pick {P : Program} {w : World} {base : Heap} (E : Env K mg) (k : Nat) : FnOk P w K mg base CX0 (k + 3) E.a__law_pick E.d__law_pick ["_law_pot_here", "_law_some"] (lSp P w K 2 D__law_pick) := fnok_of E.F__law_pick sc__law_pick rfl (fun cdv A outer s H Eo B hP hw hr => by
  subst hP hw
  have hB : B.P = B.P ∧ B.w = B.w := ⟨rfl, rfl⟩
  unfold r__law_pick
  exact jss_one (js_ret (j_ix (jv 1) (j_call [] (ok__law_draw E k) (hr.mono (by omega)) E.m__law_draw E.F__law_draw.kp E.b__law_draw (fun _ _ _ _ q => q.1) .nil (fun _ => .nil) (jas_cons (jv 0) (jas_cons (j_callB (call_lenD0) E.z_len bt_len (jas_cons (jv 1) (jas_nil))) (jas_nil)))))))
def l__law_marks_1 : DS := dSeq (dAsg (dBM "list" popAtR (dVar 4) (dCons (dCall D__law_draw [] (dCons (dVar 0) (dCons (dCB (lenR) (dCons (dVar 4) (dNil))) (dNil)))) (dNil))) (gNm 8))
  (dDrop (dBM "list" appendR (dVar 5) (dCons (dOp ixD (dLst (dCons (dOp addD (dOp addD (dSl (dVar 2) (dNoP) (dPart (dVar 6))) (dVar 8)) (dSl (dVar 2) (dPart (dVar 6)) (dNoP))) (dCons (dOp addD (dVar 8) (dSl (dVar 2) (dNoP) (dPart (dCall D__law_draw [] (dCons (dVar 0) (dCons (dOp addD (dCB (lenR) (dCons (dVar 2) (dNil))) (dC (.int 1))) (dNil))))))) (dNil)))) (dVar 7)) (dNil))))
def r__law_marks_1 : DS := dRet (dVar 5)
def r__law_marks : DS := dSeq (dPar 4 5 (dCons (dCB (listSR) (dCons (dC (.str [97, 98, 99, 100, 101, 102, 103, 104, 105, 106, 107, 108, 109, 110, 111, 112, 113, 114, 115, 116, 117, 118, 119, 120, 121, 122, 48, 49, 50, 51, 52, 53, 54, 55, 56, 57, 45])) (dNil))) (dCons (dLst (dNil)) (dNil))))
  (dSeq (dAsg (dBM "str" joinR (dC (.str [])) (dCons (dLc (dRng1 (dCons (dCall D__law_draw [] (dCons (dVar 0) (dCons (dC (.int 12)) (dNil)))) (dNil))) (gNm 3) (dYes) (dCall D__law_pick [] (dCons (dVar 0) (dCons (dC (.str [97, 98, 99, 45, 48, 57, 120, 121, 122])) (dNil)))) [3]) (dNil))) (gNm 2))
  (dSeq (dPar 6 7 (dCons (dCall D__law_draw [] (dCons (dVar 0) (dCons (dOp addD (dCB (lenR) (dCons (dVar 2) (dNil))) (dC (.int 1))) (dNil)))) (dCons (dCall D__law_draw [] (dCons (dVar 0) (dCons (dC (.int 2)) (dNil)))) (dNil))))
  (dSeq (dFor (dRng1 (dCons (dVar 1) (dNil))) (gNm 3) (l__law_marks_1))
  (r__law_marks_1))))
def D__law_marks : DSp := runD 2 9 r__law_marks
theorem ok__law_marks {P : Program} {w : World} {base : Heap} (E : Env K mg) (k : Nat) : FnOk P w K mg base CX0 (k + 4) E.a__law_marks E.d__law_marks ["_law_pot_here", "_law_many"] (lSp P w K 2 D__law_marks) := fnok_of E.F__law_marks sc__law_marks rfl (fun cdv A outer s H Eo B hP hw hr => by
  subst hP hw
  have hB : B.P = B.P ∧ B.w = B.w := ⟨rfl, rfl⟩
  unfold r__law_marks
  unfold r__law_marks_1
  unfold l__law_marks_1
  exact jss_cons (js_par (i := 4) (j := 5) rfl sc__law_marks.nd (jas_cons (j_callTy (call_listSD rfl) E.z_list bt_list (jas_cons (j_str [97, 98, 99, 100, 101, 102, 103, 104, 105, 106, 107, 108, 109, 110, 111, 112, 113, 114, 115, 116, 117, 118, 119, 120, 121, 122, 48, 49, 50, 51, 52, 53, 54, 55, 56, 57, 45]) (jas_nil))) (jas_cons (j_lst (jas_nil)) (jas_nil))))
    (jss_cons (js_set (i := 2) sc__law_marks.nd (j_bm PySem.F.plainAttrs_str PySem.F.slot_str_join PySem.F.type_str_join mt_joinD (j_str []) (jas_cons (j_lc [("_law_k", 3)] rfl sc__law_marks.nd (ji_range1 E.z_range (jas_cons (j_call [] (ok__law_draw E k) (hr.mono (by omega)) E.m__law_draw E.F__law_draw.kp E.b__law_draw (fun _ _ _ _ q => q.1) .nil (fun _ => .nil) (jas_cons (jv 0) (jas_cons (j_int) (jas_nil)))) (jas_nil))) (gl_name) (fun _ _ _ _ _ => pg_name (i := 3) sc__law_marks.nd rfl (.inl rfl)) (fun _ _ _ _ _ => jts_nil) (fun _ _ _ _ _ => j_call [] (ok__law_pick E k) (hr.mono (by omega)) E.m__law_pick E.F__law_pick.kp E.b__law_pick (fun _ _ _ _ q => q.1) .nil (fun _ => .nil) (jas_cons (jv 0) (jas_cons (j_str [97, 98, 99, 45, 48, 57, 120, 121, 122]) (jas_nil)))) (ok := by kernel_rfl)) (jas_nil))))
    (jss_cons (js_par (i := 6) (j := 7) rfl sc__law_marks.nd (jas_cons (j_call [] (ok__law_draw E k) (hr.mono (by omega)) E.m__law_draw E.F__law_draw.kp E.b__law_draw (fun _ _ _ _ q => q.1) .nil (fun _ => .nil) (jas_cons (jv 0) (jas_cons (j_op op_addD (j_callB (call_lenD0) E.z_len bt_len (jas_cons (jv 2) (jas_nil))) (j_int)) (jas_nil)))) (jas_cons (j_call [] (ok__law_draw E k) (hr.mono (by omega)) E.m__law_draw E.F__law_draw.kp E.b__law_draw (fun _ _ _ _ q => q.1) .nil (fun _ => .nil) (jas_cons (jv 0) (jas_cons (j_int) (jas_nil)))) (jas_nil))))
    (jss_cons (js_for PassesOwn.never rfl (ji_range1 E.z_range (jas_cons (jv 1) (jas_nil))) (jg_name (i := 3) sc__law_marks.nd) (jss_cons (js_set (i := 8) sc__law_marks.nd (j_bm PySem.F.plainAttrs_list PySem.F.slot_list_pop PySem.F.type_list_pop mt_popAtD (jv 4) (jas_cons (j_call [] (ok__law_draw E k) (hr.mono (by omega)) E.m__law_draw E.F__law_draw.kp E.b__law_draw (fun _ _ _ _ q => q.1) .nil (fun _ => .nil) (jas_cons (jv 0) (jas_cons (j_callB (call_lenD0) E.z_len bt_len (jas_cons (jv 4) (jas_nil))) (jas_nil)))) (jas_nil))))
    (jss_one (js_expr (j_bm PySem.F.plainAttrs_list PySem.F.slot_list_append PySem.F.type_list_append mt_appendD (jv 5) (jas_cons (j_ix (j_lst (jas_cons (j_op op_addD (j_op op_addD (j_slice (jv 2) (jo_none) (jo_some (jv 6))) (jv 8)) (j_slice (jv 2) (jo_some (jv 6)) (jo_none))) (jas_cons (j_op op_addD (jv 8) (j_slice (jv 2) (jo_none) (jo_some (j_call [] (ok__law_draw E k) (hr.mono (by omega)) E.m__law_draw E.F__law_draw.kp E.b__law_draw (fun _ _ _ _ q => q.1) .nil (fun _ => .nil) (jas_cons (jv 0) (jas_cons (j_op op_addD (j_callB (call_lenD0) E.z_len bt_len (jas_cons (jv 2) (jas_nil))) (j_int)) (jas_nil))))))) (jas_nil)))) (jv 7)) (jas_nil)))))))
    (jss_one (js_ret (jv 5)))))))
def l__law_pairs_1 : DS := dSetI (dVar 4) (dTup (dCons (dOp ixD (dVar 1) (dVar 2)) (dCons (dOp ixD (dVar 1) (dOp addD (dOp addD (dVar 2) (dC (.int 1))) (dCall D__law_draw [] (dCons (dVar 0) (dCons (dOp subD (dOp subD (dCB (lenR) (dCons (dVar 1) (dNil))) (dC (.int 1))) (dVar 2)) (dNil)))))) (dNil)))) (dC (.bl true))
def l__law_pairs_2 : DS := dIf (dTest (dOp (eqR false) (dVar 3) (dC (.int 0)))) (dSetI (dVar 4) (dTup (dCons (dOp ixD (dVar 1) (dVar 2)) (dCons (dOp ixD (dVar 1) (dOp addD (dVar 2) (dC (.int 1)))) (dNil)))) (dC (.bl true))) (dIf (dTest (dOp (eqR false) (dVar 3) (dC (.int 1)))) (dSetI (dVar 4) (dTup (dCons (dOp ixD (dVar 1) (dVar 2)) (dCons (dOp ixD (dVar 1) (dNeg (dC (.int 1)))) (dNil)))) (dC (.bl true))) (dFor (dRng1 (dCons (dCall D__law_draw [] (dCons (dVar 0) (dCons (dVar 3) (dNil)))) (dNil))) (gNm 5) (l__law_pairs_1)))
def r__law_pairs_1 : DS := dRet (dCB tupleR (dCons (dCB sortedR (dCons (dVar 4) (dNil))) (dNil)))
def r__law_pairs : DS := dSeq (dPar 3 4 (dCons (dCall D__law_draw [] (dCons (dVar 0) (dCons (dC (.int 4)) (dNil)))) (dCons (dEmpG) (dNil))))
  (dSeq (dFor (dRng1 (dCons (dOp subD (dCB (lenR) (dCons (dVar 1) (dNil))) (dC (.int 1))) (dNil))) (gNm 2) (l__law_pairs_2))
  (r__law_pairs_1))
def D__law_pairs : DSp := runD 2 6 r__law_pairs
theorem ok__law_pairs {P : Program} {w : World} {base : Heap} (E : Env K mg) (k : Nat) : FnOk P w K mg base CX0 (k + 3) E.a__law_pairs E.d__law_pairs ["_law_pot_here", "_law_marks_here"] (lSp P w K 2 D__law_pairs) := fnok_of E.F__law_pairs sc__law_pairs rfl (fun cdv A outer s H Eo B hP hw hr => by
  subst hP hw
  have hB : B.P = B.P ∧ B.w = B.w := ⟨rfl, rfl⟩
  unfold r__law_pairs
  unfold r__law_pairs_1
  unfold l__law_pairs_2
  unfold l__law_pairs_1
  exact jss_cons (js_par (i := 3) (j := 4) rfl sc__law_pairs.nd (jas_cons (j_call [] (ok__law_draw E k) (hr.mono (by omega)) E.m__law_draw E.F__law_draw.kp E.b__law_draw (fun _ _ _ _ q => q.1) .nil (fun _ => .nil) (jas_cons (jv 0) (jas_cons (j_int) (jas_nil)))) (jas_cons (j_empG hB) (jas_nil))))
    (jss_cons (js_for PassesOwn.never rfl (ji_range1 E.z_range (jas_cons (j_op op_subD (j_callB (call_lenD0) E.z_len bt_len (jas_cons (jv 1) (jas_nil))) (j_int)) (jas_nil))) (jg_name (i := 2) sc__law_pairs.nd) (jss_one (js_if (jt_cmp (op_eqD (room70 hr)) (jv 3) (j_int)) (jss_one (js_sset hB (room20 hr) (jv 4) (j_tup (jas_cons (j_ix (jv 1) (jv 2)) (jas_cons (j_ix (jv 1) (j_op op_addD (jv 2) (j_int))) (jas_nil)))) (j_bl))) (jss_one (js_if (jt_cmp (op_eqD (room70 hr)) (jv 3) (j_int)) (jss_one (js_sset hB (room20 hr) (jv 4) (j_tup (jas_cons (j_ix (jv 1) (jv 2)) (jas_cons (j_ix (jv 1) (j_neg (j_int))) (jas_nil)))) (j_bl))) (jss_one (js_for PassesOwn.never rfl (ji_range1 E.z_range (jas_cons (j_call [] (ok__law_draw E k) (hr.mono (by omega)) E.m__law_draw E.F__law_draw.kp E.b__law_draw (fun _ _ _ _ q => q.1) .nil (fun _ => .nil) (jas_cons (jv 0) (jas_cons (jv 3) (jas_nil)))) (jas_nil))) (jg_name (i := 5) sc__law_pairs.nd) (jss_one (js_sset hB (room20 hr) (jv 4) (j_tup (jas_cons (j_ix (jv 1) (jv 2)) (jas_cons (j_ix (jv 1) (j_op op_addD (j_op op_addD (jv 2) (j_int)) (j_call [] (ok__law_draw E k) (hr.mono (by omega)) E.m__law_draw E.F__law_draw.kp E.b__law_draw (fun _ _ _ _ q => q.1) .nil (fun _ => .nil) (jas_cons (jv 0) (jas_cons (j_op op_subD (j_op op_subD (j_callB (call_lenD0) E.z_len bt_len (jas_cons (jv 1) (jas_nil))) (j_int)) (jv 2)) (jas_nil)))))) (jas_nil)))) (j_bl))))))))))
    (jss_one (js_ret (j_callTy call_tupleD E.z_tuple bt_tuple (jas_cons (j_callB (call_sortedD hB (room70 hr) rfl) E.z_sorted bt_sorted (jas_cons (jv 4) (jas_nil))) (jas_nil)))))))
def l_led_to_1 : DS := dIf (dAnd (dTest (dOp (eqR false) (dVar 5) (dVar 4))) (dTest (dOp (inDR true) (dVar 6) (dVar 2)))) (dSeq (dSetI (dVar 2) (dVar 6) (dC (.bl true)))
  (dDrop (dBM "list" appendR (dVar 3) (dCons (dVar 6) (dNil))))) (dNext)
def l_led_to_2 : DS := dSeq (dAsg (dBM0 "list" popR (dVar 3)) (gNm 4))
  (dFor (dAltI (dOver (dVar 1)) (dOverT (dVar 1))) (gTp 2 (gCn (gNm 5) (gCn (gNm 6) (gNl)))) (l_led_to_1))
def r_led_to_1 : DS := dRet (dCB tupleR (dCons (dCB sortedR (dCons (dVar 2) (dNil))) (dNil)))
def r_led_to : DS := dSeq (dAsg (dDisp ((dVar 0, dC (.bl true)) :: ([]))) (gNm 2))
  (dSeq (dAsg (dLst (dCons (dVar 0) (dNil))) (gNm 3))
  (dSeq (dWhile (dTest (dOp (eqR true) (dVar 3) (dLst (dNil)))) (l_led_to_2))
  (r_led_to_1)))
def D_led_to : DSp := runD 2 7 r_led_to
theorem ok_led_to {P : Program} {w : World} {base : Heap} (E : Env K mg) (k : Nat) : FnOk P w K mg base CX0 (k + 1) E.a_led_to E.d_led_to ["begun", "links"] (lSp P w K 2 D_led_to) := fnok_of E.F_led_to sc_led_to rfl (fun cdv A outer s H Eo B hP hw hr => by
  subst hP hw
  have hB : B.P = B.P ∧ B.w = B.w := ⟨rfl, rfl⟩
  unfold r_led_to
  unfold r_led_to_1
  unfold l_led_to_2
  unfold l_led_to_1
  exact jss_cons (js_set (i := 2) sc_led_to.nd (j_disp (jps_cons (jv 0) (j_bl) (jps_nil))))
    (jss_cons (js_set (i := 3) sc_led_to.nd (j_lst (jas_cons (jv 0) (jas_nil))))
    (jss_cons (js_while PassesOwn.never (jt_cmp (op_neD (room70 hr)) (jv 3) (j_lst (jas_nil))) (jss_cons (js_set (i := 4) sc_led_to.nd (j_bm0 PySem.F.plainAttrs_list PySem.F.slot_list_pop PySem.F.type_list_pop mt_popD (jv 3)))
    (jss_one (js_for PassesOwn.never rfl (ji_alt (ji_list (jv 1)) (ji_tup (jv 1))) (jg_tup rfl (jgs_cons (jg_name (i := 5) sc_led_to.nd) (jgs_cons (jg_name (i := 6) sc_led_to.nd) (jgs_nil)))) (jss_one (js_if (jt_w (jw_and (jt_cmp (op_eqD (room70 hr)) (jv 5) (jv 4)) (jw_and1 (jt_cmp (op_niKD hB (room20 hr)) (jv 6) (jv 2))))) (jss_cons (js_sset hB (room20 hr) (jv 2) (jv 6) (j_bl))
    (jss_one (js_expr (j_bm PySem.F.plainAttrs_list PySem.F.slot_list_append PySem.F.type_list_append mt_appendD (jv 3) (jas_cons (jv 6) (jas_nil)))))) (jss_nil)))))))
    (jss_one (js_ret (j_callTy call_tupleD E.z_tuple bt_tuple (jas_cons (j_callB (call_sortedD hB (room70 hr) rfl) E.z_sorted bt_sorted (jas_cons (jv 2) (jas_nil))) (jas_nil))))))))
def r_around : DS := dRet (dCall D_led_to [] (dCons (dVar 1) (dCons (dVar 0) (dNil))))
def D_around : DSp := runD 2 2 r_around
theorem ok_around {P : Program} {w : World} {base : Heap} (E : Env K mg) (k : Nat) : FnOk P w K mg base CX0 (k + 2) E.a_around E.d_around ["pairs", "mark"] (lSp P w K 2 D_around) := fnok_of E.F_around sc_around rfl (fun cdv A outer s H Eo B hP hw hr => by
  subst hP hw
  have hB : B.P = B.P ∧ B.w = B.w := ⟨rfl, rfl⟩
  unfold r_around
  exact jss_one (js_ret (j_call [] (ok_led_to E k) (hr.mono (by omega)) E.m_led_to E.F_led_to.kp E.b_led_to (fun _ _ _ _ q => q.1) .nil (fun _ => .nil) (jas_cons (jv 1) (jas_cons (jv 0) (jas_nil))))))
def r_closes : DS := dRet (dOp (inR false) (dVar 1) (dCall D_around [] (dCons (dVar 0) (dCons (dVar 2) (dNil)))))
def D_closes : DSp := runD 3 3 r_closes
theorem ok_closes {P : Program} {w : World} {base : Heap} (E : Env K mg) (k : Nat) : FnOk P w K mg base CX0 (k + 3) E.a_closes E.d_closes ["pairs", "inner", "outer"] (lSp P w K 3 D_closes) := fnok_of E.F_closes sc_closes rfl (fun cdv A outer s H Eo B hP hw hr => by
  subst hP hw
  have hB : B.P = B.P ∧ B.w = B.w := ⟨rfl, rfl⟩
  unfold r_closes
  exact jss_one (js_ret (j_cmp (op_inD (room80 hr)) (jv 1) (j_call [] (ok_around E k) (hr.mono (by omega)) E.m_around E.F_around.kp E.b_around (fun _ _ _ _ q => q.1) .nil (fun _ => .nil) (jas_cons (jv 0) (jas_cons (jv 2) (jas_nil)))))))
def l__law_led_1 : DS := dIf (dAnd (dTest (dOp (inR false) (dVar 4) (dVar 2))) (dTest (dOp (inR true) (dVar 5) (dVar 2)))) (dDrop (dBM "list" appendR (dVar 2) (dCons (dVar 5) (dNil)))) (dNext)
def l__law_led_2 : DS := dSeq (dAsg (dCB (lenR) (dCons (dVar 2) (dNil))) (gNm 3))
  (dFor (dAltI (dOver (dVar 0)) (dOverT (dVar 0))) (gTp 2 (gCn (gNm 4) (gCn (gNm 5) (gNl)))) (l__law_led_1))
def r__law_led_1 : DS := dRet (dCB tupleR (dCons (dCB sortedR (dCons (dVar 2) (dNil))) (dNil)))
def r__law_led : DS := dSeq (dPar 2 3 (dCons (dLst (dCons (dVar 1) (dNil))) (dCons (dC (.int 0)) (dNil))))
  (dSeq (dWhile (dTest (dOp (ltD) (dVar 3) (dCB (lenR) (dCons (dVar 2) (dNil))))) (l__law_led_2))
  (r__law_led_1))
def D__law_led : DSp := runD 2 6 r__law_led
theorem ok__law_led {P : Program} {w : World} {base : Heap} (E : Env K mg) (k : Nat) : FnOk P w K mg base CX0 (k + 1) E.a__law_led E.d__law_led ["_law_pairs_here", "_law_mark"] (lSp P w K 2 D__law_led) := fnok_of E.F__law_led sc__law_led rfl (fun cdv A outer s H Eo B hP hw hr => by
  subst hP hw
  have hB : B.P = B.P ∧ B.w = B.w := ⟨rfl, rfl⟩
  unfold r__law_led
  unfold r__law_led_1
  unfold l__law_led_2
  unfold l__law_led_1
  exact jss_cons (js_par (i := 2) (j := 3) rfl sc__law_led.nd (jas_cons (j_lst (jas_cons (jv 1) (jas_nil))) (jas_cons (j_int) (jas_nil))))
    (jss_cons (js_while PassesOwn.never (jt_cmp (op_ltD) (jv 3) (j_callB (call_lenD0) E.z_len bt_len (jas_cons (jv 2) (jas_nil)))) (jss_cons (js_set (i := 3) sc__law_led.nd (j_callB (call_lenD0) E.z_len bt_len (jas_cons (jv 2) (jas_nil))))
    (jss_one (js_for PassesOwn.never rfl (ji_alt (ji_list (jv 0)) (ji_tup (jv 0))) (jg_tup rfl (jgs_cons (jg_name (i := 4) sc__law_led.nd) (jgs_cons (jg_name (i := 5) sc__law_led.nd) (jgs_nil)))) (jss_one (js_if (jt_w (jw_and (jt_cmp (op_inD (room80 hr)) (jv 4) (jv 2)) (jw_and1 (jt_cmp (op_niD (room80 hr)) (jv 5) (jv 2))))) (jss_one (js_expr (j_bm PySem.F.plainAttrs_list PySem.F.slot_list_append PySem.F.type_list_append mt_appendD (jv 2) (jas_cons (jv 5) (jas_nil))))) (jss_nil)))))))
    (jss_one (js_ret (j_callTy call_tupleD E.z_tuple bt_tuple (jas_cons (j_callB (call_sortedD hB (room70 hr) rfl) E.z_sorted bt_sorted (jas_cons (jv 2) (jas_nil))) (jas_nil)))))))
def r_inside : DS := dRet (dCall D_led_to [] (dCons (dVar 1) (dCons (dLc (dOverT (dVar 0)) (gTp 2 (gCn (gNm 2) (gCn (gNm 3) (gNl)))) (dYes) (dTup (dCons (dVar 3) (dCons (dVar 2) (dNil)))) [2, 3]) (dNil))))
def D_inside : DSp := runD 2 4 r_inside
theorem ok_inside {P : Program} {w : World} {base : Heap} (E : Env K mg) (k : Nat) : FnOk P w K mg base CX0 (k + 2) E.a_inside E.d_inside ["pairs", "mark"] (lSp P w K 2 D_inside) := fnok_of E.F_inside sc_inside rfl (fun cdv A outer s H Eo B hP hw hr => by
  subst hP hw
  have hB : B.P = B.P ∧ B.w = B.w := ⟨rfl, rfl⟩
  unfold r_inside
  exact jss_one (js_ret (j_call [] (ok_led_to E k) (hr.mono (by omega)) E.m_led_to E.F_led_to.kp E.b_led_to (fun _ _ _ _ q => q.1) .nil (fun _ => .nil) (jas_cons (jv 1) (jas_cons (j_lc [("inner", 2), ("outer", 3)] rfl sc_inside.nd (ji_tup (jv 0)) (gl_tup (gls_cons (gl_name) (gls_cons (gl_name) (gls_nil)))) (fun _ _ _ _ _ => pg_tup rfl (pgs_cons (pg_name (i := 2) sc_inside.nd rfl (.inl rfl)) (pgs_cons (pg_name (i := 3) sc_inside.nd rfl (.inl rfl)) (pgs_nil)))) (fun _ _ _ _ _ => jts_nil) (fun _ _ _ _ _ => j_tup (jas_cons (jv 3) (jas_cons (jv 2) (jas_nil)))) (ok := by kernel_rfl)) (jas_nil))))))
def l__law_right_1 : DS := dSeq (dAsg (dTup (dCons (dCall D__law_led [] (dCons (dVar 1) (dCons (dVar 4) (dNil)))) (dCons (dCall D__law_led [] (dCons (dVar 3) (dCons (dVar 4) (dNil)))) (dNil)))) (gTp 2 (gCn (gSubD (dVar 6) (dVar 4)) (gCn (gSubD (dVar 7) (dVar 4)) (gNl)))))
  (dIf (dOr (dTest (dOp (eqR true) (dCall D_around [] (dCons (dVar 1) (dCons (dVar 4) (dNil)))) (dGetI (dVar 6) (dVar 4)))) (dTest (dOp (eqR true) (dCall D_inside [] (dCons (dVar 1) (dCons (dVar 4) (dNil)))) (dGetI (dVar 7) (dVar 4))))) (dRet (dC (.bl false))) (dNext))
def l__law_right_2 : DS := dSeq (dPar 9 10 (dCons (dCall D__law_pick [] (dCons (dVar 0) (dCons (dVar 2) (dNil)))) (dCons (dCall D__law_pick [] (dCons (dVar 0) (dCons (dVar 2) (dNil)))) (dNil))))
  (dSeq (dAsg (dCall D_closes [] (dCons (dVar 1) (dCons (dVar 9) (dCons (dVar 10) (dNil))))) (gNm 8))
  (dIf (dOr (dNot (dTru (dCB isiR (dCons (dVar 8) (dCons (dC (.ty "bool")) dNil))))) (dTest (dOp (eqR true) (dVar 8) (dOp (inR false) (dVar 10) (dGetI (dVar 7) (dVar 9)))))) (dRet (dC (.bl false))) (dNext)))
def r__law_right_1 : DS := dRet (dOp (isBR false) (dCall D_closes [] (dCons (dVar 1) (dCons (dOp ixD (dVar 2) (dC (.int 0))) (dCons (dOp ixD (dVar 2) (dC (.int 0))) (dNil))))) (dC (.bl true)))
def r__law_right_2 : DS := dSeq (dFor (dRng1 (dCons (dC (.int 30)) (dNil))) (gNm 5) (l__law_right_2))
  (r__law_right_1)
def r__law_right : DS := dSeq (dAsg (dLc (dOverT (dVar 1)) (gTp 2 (gCn (gNm 9) (gCn (gNm 10) (gNl)))) (dYes) (dTup (dCons (dVar 10) (dCons (dVar 9) (dNil)))) [9, 10]) (gNm 3))
  (dSeq (dPar 6 7 (dCons (dEmp) (dCons (dEmp) (dNil))))
  (dSeq (dFor (dOver (dVar 2)) (gNm 4) (l__law_right_1))
  (r__law_right_2)))
def D__law_right : DSp := runD 3 11 r__law_right
theorem ok__law_right {P : Program} {w : World} {base : Heap} (E : Env K mg) (k : Nat) : FnOk P w K mg base CX0 (k + 4) E.a__law_right E.d__law_right ["_law_pot_here", "_law_pairs_here", "_law_marks_here"] (lSp P w K 3 D__law_right) := fnok_of E.F__law_right sc__law_right rfl (fun cdv A outer s H Eo B hP hw hr => by
  subst hP hw
  have hB : B.P = B.P ∧ B.w = B.w := ⟨rfl, rfl⟩
  unfold r__law_right
  unfold r__law_right_2
  unfold r__law_right_1
  unfold l__law_right_2
  unfold l__law_right_1
  exact jss_cons (js_setLc (i := 3) [("_law_inner", 9), ("_law_outer", 10)] rfl sc__law_right.nd (ji_tup (jv 1)) (gl_tup (gls_cons (gl_name) (gls_cons (gl_name) (gls_nil)))) (fun _ _ _ _ _ => pg_tup rfl (pgs_cons (pg_name (i := 9) sc__law_right.nd rfl (.inl rfl)) (pgs_cons (pg_name (i := 10) sc__law_right.nd rfl (.inl rfl)) (pgs_nil)))) (fun _ _ _ _ _ => jts_nil) (fun _ _ _ _ _ => j_tup (jas_cons (jv 10) (jas_cons (jv 9) (jas_nil)))) (ok := by kernel_rfl) (by rfl))
    (jss_cons (js_par (i := 6) (j := 7) rfl sc__law_right.nd (jas_cons (j_emp) (jas_cons (j_emp) (jas_nil))))
    (jss_cons (js_for PassesOwn.never rfl (ji_list (jv 2)) (jg_name (i := 4) sc__law_right.nd) (jss_cons (js_asg (j_tup (jas_cons (j_call [] (ok__law_led E k) (hr.mono (by omega)) E.m__law_led E.F__law_led.kp E.b__law_led (fun _ _ _ _ q => q.1) .nil (fun _ => .nil) (jas_cons (jv 1) (jas_cons (jv 4) (jas_nil)))) (jas_cons (j_call [] (ok__law_led E k) (hr.mono (by omega)) E.m__law_led E.F__law_led.kp E.b__law_led (fun _ _ _ _ q => q.1) .nil (fun _ => .nil) (jas_cons (jv 3) (jas_cons (jv 4) (jas_nil)))) (jas_nil)))) (jg_tup rfl (jgs_cons (jg_sub hB (room20 hr) (jv 6) (jv 4)) (jgs_cons (jg_sub hB (room20 hr) (jv 7) (jv 4)) (jgs_nil)))))
    (jss_one (js_if (jt_w (jw_or (jt_cmp (op_neD (room70 hr)) (j_call [] (ok_around E k) (hr.mono (by omega)) E.m_around E.F_around.kp E.b_around (fun _ _ _ _ q => q.1) .nil (fun _ => .nil) (jas_cons (jv 1) (jas_cons (jv 4) (jas_nil)))) (j_dget hB (room20 hr) (jv 6) (jv 4))) (jw_or1 (jt_cmp (op_neD (room70 hr)) (j_call [] (ok_inside E k) (hr.mono (by omega)) E.m_inside E.F_inside.kp E.b_inside (fun _ _ _ _ q => q.1) .nil (fun _ => .nil) (jas_cons (jv 1) (jas_cons (jv 4) (jas_nil)))) (j_dget hB (room20 hr) (jv 7) (jv 4)))))) (jss_one (js_ret (j_bl))) (jss_nil)))))
    (jss_cons (js_for PassesOwn.never rfl (ji_range1 E.z_range (jas_cons (j_int) (jas_nil))) (jg_name (i := 5) sc__law_right.nd) (jss_cons (js_par (i := 9) (j := 10) rfl sc__law_right.nd (jas_cons (j_call [] (ok__law_pick E k) (hr.mono (by omega)) E.m__law_pick E.F__law_pick.kp E.b__law_pick (fun _ _ _ _ q => q.1) .nil (fun _ => .nil) (jas_cons (jv 0) (jas_cons (jv 2) (jas_nil)))) (jas_cons (j_call [] (ok__law_pick E k) (hr.mono (by omega)) E.m__law_pick E.F__law_pick.kp E.b__law_pick (fun _ _ _ _ q => q.1) .nil (fun _ => .nil) (jas_cons (jv 0) (jas_cons (jv 2) (jas_nil)))) (jas_nil))))
    (jss_cons (js_set (i := 8) sc__law_right.nd (j_call [] (ok_closes E k) (hr.mono (by omega)) E.m_closes E.F_closes.kp E.b_closes (fun _ _ _ _ q => q.1) .nil (fun _ => .nil) (jas_cons (jv 1) (jas_cons (jv 9) (jas_cons (jv 10) (jas_nil))))))
    (jss_one (js_if (jt_w (jw_or (jt_not (jt_tru (j_callB call_isiD E.z_isinstance bt_isinstance (jas_cons (jv 8) (jas_cons (j_tyName "bool" E.z_bool bt_bool) jas_nil))))) (jw_or1 (jt_cmp (op_neD (room70 hr)) (jv 8) (j_cmp (op_inD (room80 hr)) (jv 10) (j_dget hB (room20 hr) (jv 7) (jv 9))))))) (jss_one (js_ret (j_bl))) (jss_nil))))))
    (jss_one (js_ret (j_cmp (op_isBD) (j_call [] (ok_closes E k) (hr.mono (by omega)) E.m_closes E.F_closes.kp E.b_closes (fun _ _ _ _ q => q.1) .nil (fun _ => .nil) (jas_cons (jv 1) (jas_cons (j_ix (jv 2) (j_int)) (jas_cons (j_ix (jv 2) (j_int)) (jas_nil))))) (j_bl))))))))
def l_law_1 : DS := dSeq (dAsg (dCall D__law_marks [] (dCons (dVar 1) (dCons (dOp addD (dC (.int 2)) (dCall D__law_draw [] (dCons (dVar 1) (dCons (dOp ixD (dLst (dCons (dC (.int 4)) (dCons (dC (.int 8)) (dCons (dC (.int 29)) (dNil))))) (dCall D__law_draw [] (dCons (dVar 1) (dCons (dC (.int 3)) (dNil))))) (dNil))))) (dNil)))) (gNm 3))
  (dSeq (dAsg (dCall D__law_pairs [] (dCons (dVar 1) (dCons (dSl (dVar 3) (dNoP) (dPart (dOp subD (dCB (lenR) (dCons (dVar 3) (dNil))) (dCall D__law_draw [] (dCons (dVar 1) (dCons (dC (.int 2)) (dNil))))))) (dNil)))) (gNm 4))
  (dSeq (dAsg (dCB tupleR (dCons (dLc (dOverT (dVar 4)) (gNm 6) (dYes) (dCB tupleR (dCons (dCB (listR) (dCons (dVar 6) (dNil))) (dNil))) [6]) (dNil))) (gNm 5))
  (dIf (dOr (dNot (dTru (dCall D__law_right [] (dCons (dVar 1) (dCons (dVar 4) (dCons (dVar 3) (dNil))))))) (dOr (dTest (dOp (eqR true) (dVar 4) (dVar 5))) (dTest (dOp (eqR true) (dCall D_around [] (dCons (dTup (dNil)) (dCons (dOp ixD (dVar 3) (dC (.int 0))) (dNil)))) (dTup (dCons (dOp ixD (dVar 3) (dC (.int 0))) (dNil))))))) (dRet (dC (.bl false))) (dNext))))
def r_law_1 : DS := dRet (dC (.bl true))
def r_law : DS := dSeq (dAsg (dCall D__law_pot [] (dCons (dVar 0) (dNil))) (gNm 1))
  (dSeq (dFor (dRng1 (dCons (dCB max2R (dCons (dC (.int 1)) (dCons (dCB min2R (dCons (dCB (lenR) (dCons (dVar 0) (dNil))) (dCons (dC (.int 5)) (dNil)))) (dNil)))) (dNil))) (gNm 2) (l_law_1))
  (r_law_1))
def D_law : DSp := runD 1 7 r_law
theorem ok_law {P : Program} {w : World} {base : Heap} (E : Env K mg) (k : Nat) : FnOk P w K mg base CX0 (k + 5) E.a_law E.d_law ["_law_script"] (lSp P w K 1 D_law) := fnok_of E.F_law sc_law rfl (fun cdv A outer s H Eo B hP hw hr => by
  subst hP hw
  have hB : B.P = B.P ∧ B.w = B.w := ⟨rfl, rfl⟩
  unfold r_law
  unfold r_law_1
  unfold l_law_1
  exact jss_cons (js_set (i := 1) sc_law.nd (j_call [] (ok__law_pot E k) (hr.mono (by omega)) E.m__law_pot E.F__law_pot.kp E.b__law_pot (fun _ _ _ _ q => q.1) .nil (fun _ => .nil) (jas_cons (jv 0) (jas_nil))))
    (jss_cons (js_for PassesOwn.never rfl (ji_range1 E.z_range (jas_cons (j_callB (call_max2D rfl) E.z_max bt_max (jas_cons (j_int) (jas_cons (j_callB (call_min2D rfl) E.z_min bt_min (jas_cons (j_callB (call_lenD0) E.z_len bt_len (jas_cons (jv 0) (jas_nil))) (jas_cons (j_int) (jas_nil)))) (jas_nil)))) (jas_nil))) (jg_name (i := 2) sc_law.nd) (jss_cons (js_set (i := 3) sc_law.nd (j_call [] (ok__law_marks E k) (hr.mono (by omega)) E.m__law_marks E.F__law_marks.kp E.b__law_marks (fun _ _ _ _ q => q.1) .nil (fun _ => .nil) (jas_cons (jv 1) (jas_cons (j_op op_addD (j_int) (j_call [] (ok__law_draw E k) (hr.mono (by omega)) E.m__law_draw E.F__law_draw.kp E.b__law_draw (fun _ _ _ _ q => q.1) .nil (fun _ => .nil) (jas_cons (jv 1) (jas_cons (j_ix (j_lst (jas_cons (j_int) (jas_cons (j_int) (jas_cons (j_int) (jas_nil))))) (j_call [] (ok__law_draw E k) (hr.mono (by omega)) E.m__law_draw E.F__law_draw.kp E.b__law_draw (fun _ _ _ _ q => q.1) .nil (fun _ => .nil) (jas_cons (jv 1) (jas_cons (j_int) (jas_nil))))) (jas_nil))))) (jas_nil)))))
    (jss_cons (js_set (i := 4) sc_law.nd (j_call [] (ok__law_pairs E k) (hr.mono (by omega)) E.m__law_pairs E.F__law_pairs.kp E.b__law_pairs (fun _ _ _ _ q => q.1) .nil (fun _ => .nil) (jas_cons (jv 1) (jas_cons (j_slice (jv 3) (jo_none) (jo_some (j_op op_subD (j_callB (call_lenD0) E.z_len bt_len (jas_cons (jv 3) (jas_nil))) (j_call [] (ok__law_draw E k) (hr.mono (by omega)) E.m__law_draw E.F__law_draw.kp E.b__law_draw (fun _ _ _ _ q => q.1) .nil (fun _ => .nil) (jas_cons (jv 1) (jas_cons (j_int) (jas_nil))))))) (jas_nil)))))
    (jss_cons (js_set (i := 5) sc_law.nd (j_callTy call_tupleD E.z_tuple bt_tuple (jas_cons (j_lc [("_law_pair", 6)] rfl sc_law.nd (ji_tup (jv 4)) (gl_name) (fun _ _ _ _ _ => pg_name (i := 6) sc_law.nd rfl (.inl rfl)) (fun _ _ _ _ _ => jts_nil) (fun _ _ _ _ _ => j_callTy call_tupleD E.z_tuple bt_tuple (jas_cons (j_callTy (KB.call_listD) E.z_list bt_list (jas_cons (jv 6) (jas_nil))) (jas_nil))) (ok := by kernel_rfl)) (jas_nil))))
    (jss_one (js_if (jt_w (jw_or (jt_not (jt_tru (j_call [] (ok__law_right E k) (hr.mono (by omega)) E.m__law_right E.F__law_right.kp E.b__law_right (fun _ _ _ _ q => q.1) .nil (fun _ => .nil) (jas_cons (jv 1) (jas_cons (jv 4) (jas_cons (jv 3) (jas_nil))))))) (jw_or (jt_cmp (op_neD (room70 hr)) (jv 4) (jv 5)) (jw_or1 (jt_cmp (op_neD (room70 hr)) (j_call [] (ok_around E k) (hr.mono (by omega)) E.m_around E.F_around.kp E.b_around (fun _ _ _ _ q => q.1) .nil (fun _ => .nil) (jas_cons (j_tup (jas_nil)) (jas_cons (j_ix (jv 3) (j_int)) (jas_nil)))) (j_tup (jas_cons (j_ix (jv 3) (j_int)) (jas_nil)))))))) (jss_one (js_ret (j_bl))) (jss_nil)))))))
    (jss_one (js_ret (j_bl)))))
end
theorem all_mk {l : PySem.W.OpenLaw} {w : World} {K : PySem.W.Frag} {h : Heap} {mg : Str → Option Value} {fa : Addr} (X : K.In h) (G : h.Ns mainGlobals mg) (hfa : mg "law" = some (.ref fa))
    {f1 f2 f3 f4 f5 f6 f7 f8 f9 f10 f11 f12 f13 : Addr} {od1 an1 od2 an2 od3 an3 od4 an4 od5 an5 od6 an6 od7 an7 od8 an8 od9 an9 od10 an10 od11 an11 od12 an12 od13 an13 : Option Addr} {sl1 sl2 sl3 sl4 sl5 sl6 sl7 sl8 sl9 sl10 sl11 sl12 sl13 : Array (Option Value)} {oc1 kV1 dc1 pm1 cd1 ct1 oc2 kV2 dc2 pm2 cd2 ct2 oc3 kV3 dc3 pm3 cd3 ct3 oc4 kV4 dc4 pm4 cd4 ct4 oc5 kV5 dc5 pm5 cd5 ct5 oc6 kV6 dc6 pm6 cd6 ct6 oc7 kV7 dc7 pm7 cd7 ct7 oc8 kV8 dc8 pm8 cd8 ct8 oc9 kV9 dc9 pm9 cd9 ct9 oc10 kV10 dc10 pm10 cd10 ct10 oc11 kV11 dc11 pm11 cd11 ct11 oc12 kV12 dc12 pm12 cd12 ct12 oc13 kV13 dc13 pm13 cd13 ct13 : Value}
    (a1 : PySem.W.nsIn K mainGlobals "_law_pot" = some (some (.ref f1))) (l1 : K.lookup f1 = some ⟨oc1, od1, .func (PySem.W.fnOf "_law_pot" "_law_pot" (defArgs s__law_pot) (defBody s__law_pot) (defScope s__law_pot) .none kV1 dc1 pm1 an1 cd1 ct1), sl1⟩) (c1 : PySem.W.codeIn K cd1 "_law_pot" = true) (k1 : PySem.W.keepIn K (.ref f1) = true)
    (a2 : PySem.W.nsIn K mainGlobals "_law_blend" = some (some (.ref f2))) (l2 : K.lookup f2 = some ⟨oc2, od2, .func (PySem.W.fnOf "_law_blend" "_law_blend" (defArgs s__law_blend) (defBody s__law_blend) (defScope s__law_blend) .none kV2 dc2 pm2 an2 cd2 ct2), sl2⟩) (c2 : PySem.W.codeIn K cd2 "_law_blend" = true) (k2 : PySem.W.keepIn K (.ref f2) = true)
    (a3 : PySem.W.nsIn K mainGlobals "_law_draw" = some (some (.ref f3))) (l3 : K.lookup f3 = some ⟨oc3, od3, .func (PySem.W.fnOf "_law_draw" "_law_draw" (defArgs s__law_draw) (defBody s__law_draw) (defScope s__law_draw) .none kV3 dc3 pm3 an3 cd3 ct3), sl3⟩) (c3 : PySem.W.codeIn K cd3 "_law_draw" = true) (k3 : PySem.W.keepIn K (.ref f3) = true)
    (a4 : PySem.W.nsIn K mainGlobals "_law_pick" = some (some (.ref f4))) (l4 : K.lookup f4 = some ⟨oc4, od4, .func (PySem.W.fnOf "_law_pick" "_law_pick" (defArgs s__law_pick) (defBody s__law_pick) (defScope s__law_pick) .none kV4 dc4 pm4 an4 cd4 ct4), sl4⟩) (c4 : PySem.W.codeIn K cd4 "_law_pick" = true) (k4 : PySem.W.keepIn K (.ref f4) = true)
    (a5 : PySem.W.nsIn K mainGlobals "_law_marks" = some (some (.ref f5))) (l5 : K.lookup f5 = some ⟨oc5, od5, .func (PySem.W.fnOf "_law_marks" "_law_marks" (defArgs s__law_marks) (defBody s__law_marks) (defScope s__law_marks) .none kV5 dc5 pm5 an5 cd5 ct5), sl5⟩) (c5 : PySem.W.codeIn K cd5 "_law_marks" = true) (k5 : PySem.W.keepIn K (.ref f5) = true)
    (a6 : PySem.W.nsIn K mainGlobals "_law_pairs" = some (some (.ref f6))) (l6 : K.lookup f6 = some ⟨oc6, od6, .func (PySem.W.fnOf "_law_pairs" "_law_pairs" (defArgs s__law_pairs) (defBody s__law_pairs) (defScope s__law_pairs) .none kV6 dc6 pm6 an6 cd6 ct6), sl6⟩) (c6 : PySem.W.codeIn K cd6 "_law_pairs" = true) (k6 : PySem.W.keepIn K (.ref f6) = true)
    (a7 : PySem.W.nsIn K mainGlobals "led_to" = some (some (.ref f7))) (l7 : K.lookup f7 = some ⟨oc7, od7, .func (PySem.W.fnOf "led_to" "led_to" (defArgs s_led_to) (defBody s_led_to) (defScope s_led_to) .none kV7 dc7 pm7 an7 cd7 ct7), sl7⟩) (c7 : PySem.W.codeIn K cd7 "led_to" = true) (k7 : PySem.W.keepIn K (.ref f7) = true)
    (a8 : PySem.W.nsIn K mainGlobals "around" = some (some (.ref f8))) (l8 : K.lookup f8 = some ⟨oc8, od8, .func (PySem.W.fnOf "around" "around" (defArgs s_around) (defBody s_around) (defScope s_around) .none kV8 dc8 pm8 an8 cd8 ct8), sl8⟩) (c8 : PySem.W.codeIn K cd8 "around" = true) (k8 : PySem.W.keepIn K (.ref f8) = true)
    (a9 : PySem.W.nsIn K mainGlobals "closes" = some (some (.ref f9))) (l9 : K.lookup f9 = some ⟨oc9, od9, .func (PySem.W.fnOf "closes" "closes" (defArgs s_closes) (defBody s_closes) (defScope s_closes) .none kV9 dc9 pm9 an9 cd9 ct9), sl9⟩) (c9 : PySem.W.codeIn K cd9 "closes" = true) (k9 : PySem.W.keepIn K (.ref f9) = true)
    (a10 : PySem.W.nsIn K mainGlobals "_law_led" = some (some (.ref f10))) (l10 : K.lookup f10 = some ⟨oc10, od10, .func (PySem.W.fnOf "_law_led" "_law_led" (defArgs s__law_led) (defBody s__law_led) (defScope s__law_led) .none kV10 dc10 pm10 an10 cd10 ct10), sl10⟩) (c10 : PySem.W.codeIn K cd10 "_law_led" = true) (k10 : PySem.W.keepIn K (.ref f10) = true)
    (a11 : PySem.W.nsIn K mainGlobals "inside" = some (some (.ref f11))) (l11 : K.lookup f11 = some ⟨oc11, od11, .func (PySem.W.fnOf "inside" "inside" (defArgs s_inside) (defBody s_inside) (defScope s_inside) .none kV11 dc11 pm11 an11 cd11 ct11), sl11⟩) (c11 : PySem.W.codeIn K cd11 "inside" = true) (k11 : PySem.W.keepIn K (.ref f11) = true)
    (a12 : PySem.W.nsIn K mainGlobals "_law_right" = some (some (.ref f12))) (l12 : K.lookup f12 = some ⟨oc12, od12, .func (PySem.W.fnOf "_law_right" "_law_right" (defArgs s__law_right) (defBody s__law_right) (defScope s__law_right) .none kV12 dc12 pm12 an12 cd12 ct12), sl12⟩) (c12 : PySem.W.codeIn K cd12 "_law_right" = true) (k12 : PySem.W.keepIn K (.ref f12) = true)
    (a13 : PySem.W.nsIn K mainGlobals "law" = some (some (.ref f13))) (l13 : K.lookup f13 = some ⟨oc13, od13, .func (PySem.W.fnOf "law" "law" (defArgs s_law) (defBody s_law) (defScope s_law) .none kV13 dc13 pm13 an13 cd13 ct13), sl13⟩) (c13 : PySem.W.codeIn K cd13 "law" = true) (k13 : PySem.W.keepIn K (.ref f13) = true)
    (z_abs : PySem.W.nsIn K mainGlobals "abs" = some none)
    (z_bool : PySem.W.nsIn K mainGlobals "bool" = some none)
    (z_isinstance : PySem.W.nsIn K mainGlobals "isinstance" = some none)
    (z_len : PySem.W.nsIn K mainGlobals "len" = some none)
    (z_list : PySem.W.nsIn K mainGlobals "list" = some none)
    (z_max : PySem.W.nsIn K mainGlobals "max" = some none)
    (z_min : PySem.W.nsIn K mainGlobals "min" = some none)
    (z_range : PySem.W.nsIn K mainGlobals "range" = some none)
    (z_sorted : PySem.W.nsIn K mainGlobals "sorted" = some none)
    (z_tuple : PySem.W.nsIn K mainGlobals "tuple" = some none)
    : ∃ fd : FuncData, (∀ (s : Shared) (v : Value), BindsTo s fd ⟨[v], []⟩ [("_law_script", v)]) ∧ ∀ base : Heap, K.In base → base.Ns mainGlobals mg → FnOk l.prog w K mg base CX0 5 fa fd ["_law_script"] (lSp l.prog w K 1 D_law) := by
  have e := hfa.symm.trans (PySem.W.mg_of X G a13)
  cases e
  have F1 := fun_mk (st := s__law_pot) l1 c1 k1
  have F2 := fun_mk (st := s__law_blend) l2 c2 k2
  have F3 := fun_mk (st := s__law_draw) l3 c3 k3
  have F4 := fun_mk (st := s__law_pick) l4 c4 k4
  have F5 := fun_mk (st := s__law_marks) l5 c5 k5
  have F6 := fun_mk (st := s__law_pairs) l6 c6 k6
  have F7 := fun_mk (st := s_led_to) l7 c7 k7
  have F8 := fun_mk (st := s_around) l8 c8 k8
  have F9 := fun_mk (st := s_closes) l9 c9 k9
  have F10 := fun_mk (st := s__law_led) l10 c10 k10
  have F11 := fun_mk (st := s_inside) l11 c11 k11
  have F12 := fun_mk (st := s__law_right) l12 c12 k12
  have F13 := fun_mk (st := s_law) l13 c13 k13
  have b1 := F1.binds (ps := ["_law_script"]) fun _ _ _ _ _ _ us hl => match us, hl with | [_], _ => rfl
  have b2 := F2.binds (ps := ["_law_number", "_law_turn"]) fun _ _ _ _ _ _ us hl => match us, hl with | [_, _], _ => rfl
  have b3 := F3.binds (ps := ["_law_pot_here", "_law_many"]) fun _ _ _ _ _ _ us hl => match us, hl with | [_, _], _ => rfl
  have b4 := F4.binds (ps := ["_law_pot_here", "_law_some"]) fun _ _ _ _ _ _ us hl => match us, hl with | [_, _], _ => rfl
  have b5 := F5.binds (ps := ["_law_pot_here", "_law_many"]) fun _ _ _ _ _ _ us hl => match us, hl with | [_, _], _ => rfl
  have b6 := F6.binds (ps := ["_law_pot_here", "_law_marks_here"]) fun _ _ _ _ _ _ us hl => match us, hl with | [_, _], _ => rfl
  have b7 := F7.binds (ps := ["begun", "links"]) fun _ _ _ _ _ _ us hl => match us, hl with | [_, _], _ => rfl
  have b8 := F8.binds (ps := ["pairs", "mark"]) fun _ _ _ _ _ _ us hl => match us, hl with | [_, _], _ => rfl
  have b9 := F9.binds (ps := ["pairs", "inner", "outer"]) fun _ _ _ _ _ _ us hl => match us, hl with | [_, _, _], _ => rfl
  have b10 := F10.binds (ps := ["_law_pairs_here", "_law_mark"]) fun _ _ _ _ _ _ us hl => match us, hl with | [_, _], _ => rfl
  have b11 := F11.binds (ps := ["pairs", "mark"]) fun _ _ _ _ _ _ us hl => match us, hl with | [_, _], _ => rfl
  have b12 := F12.binds (ps := ["_law_pot_here", "_law_pairs_here", "_law_marks_here"]) fun _ _ _ _ _ _ us hl => match us, hl with | [_, _, _], _ => rfl
  have b13 := F13.binds (ps := ["_law_script"]) fun _ _ _ _ _ _ us hl => match us, hl with | [_], _ => rfl
  refine ⟨PySem.W.fnOf "law" "law" (defArgs s_law) (defBody s_law) (defScope s_law) .none kV13 dc13 pm13 an13 cd13 ct13, fun s v => .of_eq rfl, fun base _ _ => ?_⟩
  -- the environment
  have g : FnOk l.prog w K mg base CX0 (0 + 5) _ _ ["_law_script"] (lSp l.prog w K 1 D_law) := ok_law (⟨f1, _, F1, b1, PySem.W.mg_of X G a1, f2, _, F2, b2, PySem.W.mg_of X G a2, f3, _, F3, b3, PySem.W.mg_of X G a3, f4, _, F4, b4, PySem.W.mg_of X G a4, f5, _, F5, b5, PySem.W.mg_of X G a5, f6, _, F6, b6, PySem.W.mg_of X G a6, f7, _, F7, b7, PySem.W.mg_of X G a7, f8, _, F8, b8, PySem.W.mg_of X G a8, f9, _, F9, b9, PySem.W.mg_of X G a9, f10, _, F10, b10, PySem.W.mg_of X G a10, f11, _, F11, b11, PySem.W.mg_of X G a11, f12, _, F12, b12, PySem.W.mg_of X G a12, _, _, F13, b13, PySem.W.mg_of X G a13, PySem.W.mg_none_of X G z_abs, PySem.W.mg_none_of X G z_bool, PySem.W.mg_none_of X G z_isinstance, PySem.W.mg_none_of X G z_len, PySem.W.mg_none_of X G z_list, PySem.W.mg_none_of X G z_max, PySem.W.mg_none_of X G z_min, PySem.W.mg_none_of X G z_range, PySem.W.mg_none_of X G z_sorted, PySem.W.mg_none_of X G z_tuple⟩ : Env K mg) 0
  exact g
end K06

namespace K06
open PySem PySem.Spec PyProof.Rows KB
open L2 hiding op_eqD op_neD call_listD
theorem blend {x : Int} {t : Nat} {C : Cp} {Q : DQ} {E} (ht : t < 2 ^ 20) (k : ∀ r : Int, 0 ≤ r → r < 2305843009213693907 → Q (.int r) C) : D__law_blend [.int x, .int t] C Q E := by
  unfold D__law_blend runD r__law_blend
  try simp only [dSeq, dGetI_eq, Bool.not_true, Bool.not_false, dAsg, dOp, dVar, dC, gNm, gTp, gCn, gNl, dRet, dIf, dTest, dTru, dNot, dAnd, dOr, dNext, dDrop, dCons, dNil, dTup, dLst, dEmp, dEmpG, dPar, dPar3, dSetI, dCall, dCB, dBM, dBM0, dIfE, dNeg, dSl, dPart, dNoP, dAug, addI, dBreak, dCont, dAlt, dYes, dPairs, dDisp, gSubD, dBMd, addD_ii, addD_ss, addD_tt, subD_ii, mulD_ii, modD_ii, fdivD_ii, powD_ii, ltD_ii, leD_ii, gtD_ii, geD_ii, ltD_ss, leD_ss, eqR_ii, eqR_ss, eqR_tt, eqR_bb, abs_ii, max_ii, min_ii, truD_b, slD_t, slD_s, inR_t, List.map, List.length, List.replicate, List.cons_append, List.nil_append, List.append_nil, List.getElem?_cons_succ, List.getElem?_cons_zero, Option.some.injEq, exists_eq_left', exists_eq_left, ex2, ex3, exists_eq', List.set_cons_succ, List.set_cons_zero, Nat.reduceAdd, Nat.reduceSub, true_and, and_true, D.bl.injEq, D.int.injEq, D.str.injEq, D.ptr.injEq, D.tup.injEq, decide_eq_true_eq, beq_iff_eq, Bool.false_eq_true, if_true, if_false, reduceIte, wipeD, List.foldr_cons, List.foldr_nil, Nat.reduceLeDiff, List.cons.injEq, and_self, List.length_cons, List.length_nil]
  have m1 := Int.emod_nonneg x (b := 2305843009213693951) (by decide)
  have m2 := Int.emod_lt_of_pos x (b := 2305843009213693951) (by decide)
  have tt : (104729 * (t : Int)) * t < 2 ^ 58 := by
    have h1 : (104729 * (t : Int)) * t ≤ 2 ^ 17 * 2 ^ 20 * 2 ^ 20 := by
      have : (104729 * (t : Int)) ≤ 2 ^ 17 * 2 ^ 20 := by omega
      exact Int.mul_le_mul this (by omega) (by omega) (by decide)
    omega
  have t0 : 0 ≤ (104729 * (t : Int)) * t := Int.mul_nonneg (by omega) (by omega)
  generalize hs : x % 2305843009213693951 + 104729 * ↑t * ↑t + 17 * ↑t + 5 = sd
  have s0 : 0 ≤ sd := by omega
  have s1 : sd < 2 ^ 63 := by omega
  generalize ho : sd * 48271 % 2305843009213693921 = on
  have o0 : 0 ≤ on := by rw [← ho]; exact Int.emod_nonneg _ (by decide)
  have o1 : on < 2305843009213693921 := by rw [← ho]; exact Int.emod_lt_of_pos _ (by decide)
  refine ⟨by decide, CMulW_small (by omega), CMulW_small (by omega), CMulW_small (by omega), CMulW_small (by omega), by decide, by decide, CMulW_small (by omega), CMulW_small (by omega), CDivW_small (by decide), by decide, C, Sub.refl C, ?_⟩
  exact k _ (Int.emod_nonneg _ (by decide)) (Int.emod_lt_of_pos _ (by decide))
def Pot (C : Cp) (p q : Addr) (N : Nat) : Prop := ∃ (xs : List Int) (b c : Int) (n : Nat), C p = some (.lst [.ptr q, .int b, .int c, .int n]) ∧ C q = some (.lst (xs.map D.int)) ∧ p ≠ q ∧ 0 ≤ b ∧ 0 ≤ c ∧ c < 2 ^ 62 ∧ n ≤ N ∧ xs.length ≤ 63
def S2 (p q : Addr) : Addr → Prop := fun r => r = p ∨ r = q
theorem npts_ints : ∀ xs : List Int, okEqs (xs.map D.int)
  | [] => ⟨rfl, by decide⟩
  | x :: r => by
    obtain ⟨a, b⟩ := npts_ints r
    refine ⟨by rw [List.map_cons]; unfold npts npt; rw [a]; rfl, ?_⟩
    rw [List.map_cons]
    unfold deps dep
    omega
theorem cpow_18 : CPow 10 18 := ⟨by decide, by decide, by decide⟩
theorem draw {C : Cp} {p q : Addr} {N : Nat} {m : Int} {Q : DQ} {E} (hP : Pot C p q N) (hN : N < 2 ^ 19) (hm : 0 < m) (hm2 : m < 2 ^ 64) (k : ∀ (i : Nat) C', (i : Int) < m → Pot C' p q (N + 1) → Fr (S2 p q) C C' → Q (.int i) C') : D__law_draw [.ptr p, .int m] C Q E := by
  obtain ⟨xs, b, c, n, h1, h2, hne, hb, hc0, hc, hn, hl⟩ := hP
  unfold D__law_draw runD r__law_draw
  try simp only [dSeq, dGetI_eq, Bool.not_true, Bool.not_false, dAsg, dOp, dVar, dC, gNm, gTp, gCn, gNl, dRet, dIf, dTest, dTru, dNot, dAnd, dOr, dNext, dDrop, dCons, dNil, dTup, dLst, dEmp, dEmpG, dPar, dPar3, dSetI, dCall, dCB, dBM, dBM0, dIfE, dNeg, dSl, dPart, dNoP, dAug, addI, dBreak, dCont, dAlt, dYes, dPairs, dDisp, gSubD, dBMd, addD_ii, addD_ss, addD_tt, subD_ii, mulD_ii, modD_ii, fdivD_ii, powD_ii, ltD_ii, leD_ii, gtD_ii, geD_ii, ltD_ss, leD_ss, eqR_ii, eqR_ss, eqR_tt, eqR_bb, abs_ii, max_ii, min_ii, truD_b, slD_t, slD_s, inR_t, List.map, List.length, List.replicate, List.cons_append, List.nil_append, List.append_nil, List.getElem?_cons_succ, List.getElem?_cons_zero, Option.some.injEq, exists_eq_left', exists_eq_left, ex2, ex3, exists_eq', List.set_cons_succ, List.set_cons_zero, Nat.reduceAdd, Nat.reduceSub, true_and, and_true, D.bl.injEq, D.int.injEq, D.str.injEq, D.ptr.injEq, D.tup.injEq, decide_eq_true_eq, beq_iff_eq, Bool.false_eq_true, if_true, if_false, reduceIte, wipeD, List.foldr_cons, List.foldr_nil, Nat.reduceLeDiff, List.cons.injEq, and_self, List.length_cons, List.length_nil]
  refine ix_n (j := 3) (.inl h1) rfl ?_
  try simp only [dSeq, dGetI_eq, Bool.not_true, Bool.not_false, dAsg, dOp, dVar, dC, gNm, gTp, gCn, gNl, dRet, dIf, dTest, dTru, dNot, dAnd, dOr, dNext, dDrop, dCons, dNil, dTup, dLst, dEmp, dEmpG, dPar, dPar3, dSetI, dCall, dCB, dBM, dBM0, dIfE, dNeg, dSl, dPart, dNoP, dAug, addI, dBreak, dCont, dAlt, dYes, dPairs, dDisp, gSubD, dBMd, addD_ii, addD_ss, addD_tt, subD_ii, mulD_ii, modD_ii, fdivD_ii, powD_ii, ltD_ii, leD_ii, gtD_ii, geD_ii, ltD_ss, leD_ss, eqR_ii, eqR_ss, eqR_tt, eqR_bb, abs_ii, max_ii, min_ii, truD_b, slD_t, slD_s, inR_t, List.map, List.length, List.replicate, List.cons_append, List.nil_append, List.append_nil, List.getElem?_cons_succ, List.getElem?_cons_zero, Option.some.injEq, exists_eq_left', exists_eq_left, ex2, ex3, exists_eq', List.set_cons_succ, List.set_cons_zero, Nat.reduceAdd, Nat.reduceSub, true_and, and_true, D.bl.injEq, D.int.injEq, D.str.injEq, D.ptr.injEq, D.tup.injEq, decide_eq_true_eq, beq_iff_eq, Bool.false_eq_true, if_true, if_false, reduceIte, wipeD, List.foldr_cons, List.foldr_nil, Nat.reduceLeDiff, List.cons.injEq, and_self, List.length_cons, List.length_nil]
  refine set_l h1 (j := 3) rfl ?_
  try simp only [dSeq, dGetI_eq, Bool.not_true, Bool.not_false, dAsg, dOp, dVar, dC, gNm, gTp, gCn, gNl, dRet, dIf, dTest, dTru, dNot, dAnd, dOr, dNext, dDrop, dCons, dNil, dTup, dLst, dEmp, dEmpG, dPar, dPar3, dSetI, dCall, dCB, dBM, dBM0, dIfE, dNeg, dSl, dPart, dNoP, dAug, addI, dBreak, dCont, dAlt, dYes, dPairs, dDisp, gSubD, dBMd, addD_ii, addD_ss, addD_tt, subD_ii, mulD_ii, modD_ii, fdivD_ii, powD_ii, ltD_ii, leD_ii, gtD_ii, geD_ii, ltD_ss, leD_ss, eqR_ii, eqR_ss, eqR_tt, eqR_bb, abs_ii, max_ii, min_ii, truD_b, slD_t, slD_s, inR_t, List.map, List.length, List.replicate, List.cons_append, List.nil_append, List.append_nil, List.getElem?_cons_succ, List.getElem?_cons_zero, Option.some.injEq, exists_eq_left', exists_eq_left, ex2, ex3, exists_eq', List.set_cons_succ, List.set_cons_zero, Nat.reduceAdd, Nat.reduceSub, true_and, and_true, D.bl.injEq, D.int.injEq, D.str.injEq, D.ptr.injEq, D.tup.injEq, decide_eq_true_eq, beq_iff_eq, Bool.false_eq_true, if_true, if_false, reduceIte, wipeD, List.foldr_cons, List.foldr_nil, Nat.reduceLeDiff, List.cons.injEq, and_self, List.length_cons, List.length_nil]
  have tail : ∀ (C1 C2 : Cp) (xs : List Int) (b c : Int) (x2 x3 : Option D), Sub C1 C2 → C1 p = some (.lst [.ptr q, .int b, .int c, .int ((n : Int) + 1)]) → C1 q = some (.lst (xs.map D.int)) → Fr (S2 p q) C C1 → 0 ≤ b → 0 ≤ c → c < 2 ^ 62 → xs.length ≤ 63 →
      r__law_draw_2 { nx := fun _ C' => ∃ C'', Sub C'' C' ∧ Q .non C'', rt := fun d C' => ∃ C'', Sub C'' C' ∧ Q d C'' } [some (.ptr p), some (.int m), x2, x3] C2 := by
    intro C1 C2 xs b c x2 x3 hs h1 h2 hf hb hc0 hc hl
    unfold r__law_draw_2
    try simp only [dSeq, dGetI_eq, Bool.not_true, Bool.not_false, dAsg, dOp, dVar, dC, gNm, gTp, gCn, gNl, dRet, dIf, dTest, dTru, dNot, dAnd, dOr, dNext, dDrop, dCons, dNil, dTup, dLst, dEmp, dEmpG, dPar, dPar3, dSetI, dCall, dCB, dBM, dBM0, dIfE, dNeg, dSl, dPart, dNoP, dAug, addI, dBreak, dCont, dAlt, dYes, dPairs, dDisp, gSubD, dBMd, addD_ii, addD_ss, addD_tt, subD_ii, mulD_ii, modD_ii, fdivD_ii, powD_ii, ltD_ii, leD_ii, gtD_ii, geD_ii, ltD_ss, leD_ss, eqR_ii, eqR_ss, eqR_tt, eqR_bb, abs_ii, max_ii, min_ii, truD_b, slD_t, slD_s, inR_t, List.map, List.length, List.replicate, List.cons_append, List.nil_append, List.append_nil, List.getElem?_cons_succ, List.getElem?_cons_zero, Option.some.injEq, exists_eq_left', exists_eq_left, ex2, ex3, exists_eq', List.set_cons_succ, List.set_cons_zero, Nat.reduceAdd, Nat.reduceSub, true_and, and_true, D.bl.injEq, D.int.injEq, D.str.injEq, D.ptr.injEq, D.tup.injEq, decide_eq_true_eq, beq_iff_eq, Bool.false_eq_true, if_true, if_false, reduceIte, wipeD, List.foldr_cons, List.foldr_nil, Nat.reduceLeDiff, List.cons.injEq, and_self, List.length_cons, List.length_nil]
    refine ix_n (j := 1) (.inl (hs _ _ h1)) rfl ?_
    try simp only [dSeq, dGetI_eq, Bool.not_true, Bool.not_false, dAsg, dOp, dVar, dC, gNm, gTp, gCn, gNl, dRet, dIf, dTest, dTru, dNot, dAnd, dOr, dNext, dDrop, dCons, dNil, dTup, dLst, dEmp, dEmpG, dPar, dPar3, dSetI, dCall, dCB, dBM, dBM0, dIfE, dNeg, dSl, dPart, dNoP, dAug, addI, dBreak, dCont, dAlt, dYes, dPairs, dDisp, gSubD, dBMd, addD_ii, addD_ss, addD_tt, subD_ii, mulD_ii, modD_ii, fdivD_ii, powD_ii, ltD_ii, leD_ii, gtD_ii, geD_ii, ltD_ss, leD_ss, eqR_ii, eqR_ss, eqR_tt, eqR_bb, abs_ii, max_ii, min_ii, truD_b, slD_t, slD_s, inR_t, List.map, List.length, List.replicate, List.cons_append, List.nil_append, List.append_nil, List.getElem?_cons_succ, List.getElem?_cons_zero, Option.some.injEq, exists_eq_left', exists_eq_left, ex2, ex3, exists_eq', List.set_cons_succ, List.set_cons_zero, Nat.reduceAdd, Nat.reduceSub, true_and, and_true, D.bl.injEq, D.int.injEq, D.str.injEq, D.ptr.injEq, D.tup.injEq, decide_eq_true_eq, beq_iff_eq, Bool.false_eq_true, if_true, if_false, reduceIte, wipeD, List.foldr_cons, List.foldr_nil, Nat.reduceLeDiff, List.cons.injEq, and_self, List.length_cons, List.length_nil]
    split
    · refine ix_n (j := 1) (.inl (hs _ _ h1)) rfl ?_
      try simp only [dSeq, dGetI_eq, Bool.not_true, Bool.not_false, dAsg, dOp, dVar, dC, gNm, gTp, gCn, gNl, dRet, dIf, dTest, dTru, dNot, dAnd, dOr, dNext, dDrop, dCons, dNil, dTup, dLst, dEmp, dEmpG, dPar, dPar3, dSetI, dCall, dCB, dBM, dBM0, dIfE, dNeg, dSl, dPart, dNoP, dAug, addI, dBreak, dCont, dAlt, dYes, dPairs, dDisp, gSubD, dBMd, addD_ii, addD_ss, addD_tt, subD_ii, mulD_ii, modD_ii, fdivD_ii, powD_ii, ltD_ii, leD_ii, gtD_ii, geD_ii, ltD_ss, leD_ss, eqR_ii, eqR_ss, eqR_tt, eqR_bb, abs_ii, max_ii, min_ii, truD_b, slD_t, slD_s, inR_t, List.map, List.length, List.replicate, List.cons_append, List.nil_append, List.append_nil, List.getElem?_cons_succ, List.getElem?_cons_zero, Option.some.injEq, exists_eq_left', exists_eq_left, ex2, ex3, exists_eq', List.set_cons_succ, List.set_cons_zero, Nat.reduceAdd, Nat.reduceSub, true_and, and_true, D.bl.injEq, D.int.injEq, D.str.injEq, D.ptr.injEq, D.tup.injEq, decide_eq_true_eq, beq_iff_eq, Bool.false_eq_true, if_true, if_false, reduceIte, wipeD, List.foldr_cons, List.foldr_nil, Nat.reduceLeDiff, List.cons.injEq, and_self, List.length_cons, List.length_nil]
      refine ⟨hm, ?_⟩
      refine ix_n (j := 1) (.inl (hs _ _ h1)) rfl ?_
      try simp only [dSeq, dGetI_eq, Bool.not_true, Bool.not_false, dAsg, dOp, dVar, dC, gNm, gTp, gCn, gNl, dRet, dIf, dTest, dTru, dNot, dAnd, dOr, dNext, dDrop, dCons, dNil, dTup, dLst, dEmp, dEmpG, dPar, dPar3, dSetI, dCall, dCB, dBM, dBM0, dIfE, dNeg, dSl, dPart, dNoP, dAug, addI, dBreak, dCont, dAlt, dYes, dPairs, dDisp, gSubD, dBMd, addD_ii, addD_ss, addD_tt, subD_ii, mulD_ii, modD_ii, fdivD_ii, powD_ii, ltD_ii, leD_ii, gtD_ii, geD_ii, ltD_ss, leD_ss, eqR_ii, eqR_ss, eqR_tt, eqR_bb, abs_ii, max_ii, min_ii, truD_b, slD_t, slD_s, inR_t, List.map, List.length, List.replicate, List.cons_append, List.nil_append, List.append_nil, List.getElem?_cons_succ, List.getElem?_cons_zero, Option.some.injEq, exists_eq_left', exists_eq_left, ex2, ex3, exists_eq', List.set_cons_succ, List.set_cons_zero, Nat.reduceAdd, Nat.reduceSub, true_and, and_true, D.bl.injEq, D.int.injEq, D.str.injEq, D.ptr.injEq, D.tup.injEq, decide_eq_true_eq, beq_iff_eq, Bool.false_eq_true, if_true, if_false, reduceIte, wipeD, List.foldr_cons, List.foldr_nil, Nat.reduceLeDiff, List.cons.injEq, and_self, List.length_cons, List.length_nil]
      refine ⟨CDivW_small ⟨hm, by omega⟩, ?_⟩
      refine set_l (hs _ _ h1) (j := 1) rfl ?_
      try simp only [dSeq, dGetI_eq, Bool.not_true, Bool.not_false, dAsg, dOp, dVar, dC, gNm, gTp, gCn, gNl, dRet, dIf, dTest, dTru, dNot, dAnd, dOr, dNext, dDrop, dCons, dNil, dTup, dLst, dEmp, dEmpG, dPar, dPar3, dSetI, dCall, dCB, dBM, dBM0, dIfE, dNeg, dSl, dPart, dNoP, dAug, addI, dBreak, dCont, dAlt, dYes, dPairs, dDisp, gSubD, dBMd, addD_ii, addD_ss, addD_tt, subD_ii, mulD_ii, modD_ii, fdivD_ii, powD_ii, ltD_ii, leD_ii, gtD_ii, geD_ii, ltD_ss, leD_ss, eqR_ii, eqR_ss, eqR_tt, eqR_bb, abs_ii, max_ii, min_ii, truD_b, slD_t, slD_s, inR_t, List.map, List.length, List.replicate, List.cons_append, List.nil_append, List.append_nil, List.getElem?_cons_succ, List.getElem?_cons_zero, Option.some.injEq, exists_eq_left', exists_eq_left, ex2, ex3, exists_eq', List.set_cons_succ, List.set_cons_zero, Nat.reduceAdd, Nat.reduceSub, true_and, and_true, D.bl.injEq, D.int.injEq, D.str.injEq, D.ptr.injEq, D.tup.injEq, decide_eq_true_eq, beq_iff_eq, Bool.false_eq_true, if_true, if_false, reduceIte, wipeD, List.foldr_cons, List.foldr_nil, Nat.reduceLeDiff, List.cons.injEq, and_self, List.length_cons, List.length_nil]
      refine ⟨_, sub_both hs, ?_⟩
      have e0 := Int.emod_nonneg b (b := m) (by omega)
      have e1 := Int.emod_lt_of_pos b hm
      have e2 : ((b % m).toNat : Int) = b % m := Int.toNat_of_nonneg e0
      have := k (b % m).toNat (up C1 p (.lst [.ptr q, .int (b / m), .int c, .int ((n : Int) + 1)])) (by omega) ⟨xs, b / m, c, n + 1, up_same, by rw [up_ne (Ne.symm hne)]; exact h2, hne, Int.ediv_nonneg hb (by omega), hc0, hc, by omega, hl⟩ (hf.up (.inl rfl))
      rw [e2] at this
      exact this
    · unfold r__law_draw_1
      try simp only [dSeq, dGetI_eq, Bool.not_true, Bool.not_false, dAsg, dOp, dVar, dC, gNm, gTp, gCn, gNl, dRet, dIf, dTest, dTru, dNot, dAnd, dOr, dNext, dDrop, dCons, dNil, dTup, dLst, dEmp, dEmpG, dPar, dPar3, dSetI, dCall, dCB, dBM, dBM0, dIfE, dNeg, dSl, dPart, dNoP, dAug, addI, dBreak, dCont, dAlt, dYes, dPairs, dDisp, gSubD, dBMd, addD_ii, addD_ss, addD_tt, subD_ii, mulD_ii, modD_ii, fdivD_ii, powD_ii, ltD_ii, leD_ii, gtD_ii, geD_ii, ltD_ss, leD_ss, eqR_ii, eqR_ss, eqR_tt, eqR_bb, abs_ii, max_ii, min_ii, truD_b, slD_t, slD_s, inR_t, List.map, List.length, List.replicate, List.cons_append, List.nil_append, List.append_nil, List.getElem?_cons_succ, List.getElem?_cons_zero, Option.some.injEq, exists_eq_left', exists_eq_left, ex2, ex3, exists_eq', List.set_cons_succ, List.set_cons_zero, Nat.reduceAdd, Nat.reduceSub, true_and, and_true, D.bl.injEq, D.int.injEq, D.str.injEq, D.ptr.injEq, D.tup.injEq, decide_eq_true_eq, beq_iff_eq, Bool.false_eq_true, if_true, if_false, reduceIte, wipeD, List.foldr_cons, List.foldr_nil, Nat.reduceLeDiff, List.cons.injEq, and_self, List.length_cons, List.length_nil]
      refine ix_n (j := 2) (.inl (hs _ _ h1)) rfl ?_
      try simp only [dSeq, dGetI_eq, Bool.not_true, Bool.not_false, dAsg, dOp, dVar, dC, gNm, gTp, gCn, gNl, dRet, dIf, dTest, dTru, dNot, dAnd, dOr, dNext, dDrop, dCons, dNil, dTup, dLst, dEmp, dEmpG, dPar, dPar3, dSetI, dCall, dCB, dBM, dBM0, dIfE, dNeg, dSl, dPart, dNoP, dAug, addI, dBreak, dCont, dAlt, dYes, dPairs, dDisp, gSubD, dBMd, addD_ii, addD_ss, addD_tt, subD_ii, mulD_ii, modD_ii, fdivD_ii, powD_ii, ltD_ii, leD_ii, gtD_ii, geD_ii, ltD_ss, leD_ss, eqR_ii, eqR_ss, eqR_tt, eqR_bb, abs_ii, max_ii, min_ii, truD_b, slD_t, slD_s, inR_t, List.map, List.length, List.replicate, List.cons_append, List.nil_append, List.append_nil, List.getElem?_cons_succ, List.getElem?_cons_zero, Option.some.injEq, exists_eq_left', exists_eq_left, ex2, ex3, exists_eq', List.set_cons_succ, List.set_cons_zero, Nat.reduceAdd, Nat.reduceSub, true_and, and_true, D.bl.injEq, D.int.injEq, D.str.injEq, D.ptr.injEq, D.tup.injEq, decide_eq_true_eq, beq_iff_eq, Bool.false_eq_true, if_true, if_false, reduceIte, wipeD, List.foldr_cons, List.foldr_nil, Nat.reduceLeDiff, List.cons.injEq, and_self, List.length_cons, List.length_nil]
      refine ix_n (j := 3) (.inl (hs _ _ h1)) rfl ?_
      have e3 : ((n : Int) + 1) = ((n + 1 : Nat) : Int) := by omega
      rw [e3]
      refine blend (by omega) fun r r0 r1 => ?_
      try simp only [dSeq, dGetI_eq, Bool.not_true, Bool.not_false, dAsg, dOp, dVar, dC, gNm, gTp, gCn, gNl, dRet, dIf, dTest, dTru, dNot, dAnd, dOr, dNext, dDrop, dCons, dNil, dTup, dLst, dEmp, dEmpG, dPar, dPar3, dSetI, dCall, dCB, dBM, dBM0, dIfE, dNeg, dSl, dPart, dNoP, dAug, addI, dBreak, dCont, dAlt, dYes, dPairs, dDisp, gSubD, dBMd, addD_ii, addD_ss, addD_tt, subD_ii, mulD_ii, modD_ii, fdivD_ii, powD_ii, ltD_ii, leD_ii, gtD_ii, geD_ii, ltD_ss, leD_ss, eqR_ii, eqR_ss, eqR_tt, eqR_bb, abs_ii, max_ii, min_ii, truD_b, slD_t, slD_s, inR_t, List.map, List.length, List.replicate, List.cons_append, List.nil_append, List.append_nil, List.getElem?_cons_succ, List.getElem?_cons_zero, Option.some.injEq, exists_eq_left', exists_eq_left, ex2, ex3, exists_eq', List.set_cons_succ, List.set_cons_zero, Nat.reduceAdd, Nat.reduceSub, true_and, and_true, D.bl.injEq, D.int.injEq, D.str.injEq, D.ptr.injEq, D.tup.injEq, decide_eq_true_eq, beq_iff_eq, Bool.false_eq_true, if_true, if_false, reduceIte, wipeD, List.foldr_cons, List.foldr_nil, Nat.reduceLeDiff, List.cons.injEq, and_self, List.length_cons, List.length_nil]
      refine ⟨CDivW_small (by decide), hm, C1, hs, ?_⟩
      have e0 := Int.emod_nonneg (r / 7) (b := m) (by omega)
      have e1 := Int.emod_lt_of_pos (r / 7) hm
      have e2 : ((r / 7 % m).toNat : Int) = r / 7 % m := Int.toNat_of_nonneg e0
      have := k (r / 7 % m).toNat C1 (by omega) ⟨xs, b, c, n + 1, h1, h2, hne, hb, hc0, hc, by omega, hl⟩ hf
      rw [e2] at this
      exact this
  have g1 : (up C p (.lst [.ptr q, .int b, .int c, .int ((n : Int) + 1)])) p = some (.lst [.ptr q, .int b, .int c, .int ((n : Int) + 1)]) := up_same
  have g2 : (up C p (.lst [.ptr q, .int b, .int c, .int ((n : Int) + 1)])) q = some (.lst (xs.map D.int)) := by rw [up_ne (Ne.symm hne)]; exact h2
  have gf : Fr (S2 p q) C (up C p (.lst [.ptr q, .int b, .int c, .int ((n : Int) + 1)])) := (Fr.refl C).up (.inl rfl)
  generalize up C p (.lst [.ptr q, .int b, .int c, .int ((n : Int) + 1)]) = C1 at g1 g2 gf
  refine ix_n (j := 1) (.inl g1) rfl ?_
  try simp only [dSeq, dGetI_eq, Bool.not_true, Bool.not_false, dAsg, dOp, dVar, dC, gNm, gTp, gCn, gNl, dRet, dIf, dTest, dTru, dNot, dAnd, dOr, dNext, dDrop, dCons, dNil, dTup, dLst, dEmp, dEmpG, dPar, dPar3, dSetI, dCall, dCB, dBM, dBM0, dIfE, dNeg, dSl, dPart, dNoP, dAug, addI, dBreak, dCont, dAlt, dYes, dPairs, dDisp, gSubD, dBMd, addD_ii, addD_ss, addD_tt, subD_ii, mulD_ii, modD_ii, fdivD_ii, powD_ii, ltD_ii, leD_ii, gtD_ii, geD_ii, ltD_ss, leD_ss, eqR_ii, eqR_ss, eqR_tt, eqR_bb, abs_ii, max_ii, min_ii, truD_b, slD_t, slD_s, inR_t, List.map, List.length, List.replicate, List.cons_append, List.nil_append, List.append_nil, List.getElem?_cons_succ, List.getElem?_cons_zero, Option.some.injEq, exists_eq_left', exists_eq_left, ex2, ex3, exists_eq', List.set_cons_succ, List.set_cons_zero, Nat.reduceAdd, Nat.reduceSub, true_and, and_true, D.bl.injEq, D.int.injEq, D.str.injEq, D.ptr.injEq, D.tup.injEq, decide_eq_true_eq, beq_iff_eq, Bool.false_eq_true, if_true, if_false, reduceIte, wipeD, List.foldr_cons, List.foldr_nil, Nat.reduceLeDiff, List.cons.injEq, and_self, List.length_cons, List.length_nil]
  split
  · refine ix_n (j := 0) (.inl g1) rfl ?_
    try simp only [dSeq, dGetI_eq, Bool.not_true, Bool.not_false, dAsg, dOp, dVar, dC, gNm, gTp, gCn, gNl, dRet, dIf, dTest, dTru, dNot, dAnd, dOr, dNext, dDrop, dCons, dNil, dTup, dLst, dEmp, dEmpG, dPar, dPar3, dSetI, dCall, dCB, dBM, dBM0, dIfE, dNeg, dSl, dPart, dNoP, dAug, addI, dBreak, dCont, dAlt, dYes, dPairs, dDisp, gSubD, dBMd, addD_ii, addD_ss, addD_tt, subD_ii, mulD_ii, modD_ii, fdivD_ii, powD_ii, ltD_ii, leD_ii, gtD_ii, geD_ii, ltD_ss, leD_ss, eqR_ii, eqR_ss, eqR_tt, eqR_bb, abs_ii, max_ii, min_ii, truD_b, slD_t, slD_s, inR_t, List.map, List.length, List.replicate, List.cons_append, List.nil_append, List.append_nil, List.getElem?_cons_succ, List.getElem?_cons_zero, Option.some.injEq, exists_eq_left', exists_eq_left, ex2, ex3, exists_eq', List.set_cons_succ, List.set_cons_zero, Nat.reduceAdd, Nat.reduceSub, true_and, and_true, D.bl.injEq, D.int.injEq, D.str.injEq, D.ptr.injEq, D.tup.injEq, decide_eq_true_eq, beq_iff_eq, Bool.false_eq_true, if_true, if_false, reduceIte, wipeD, List.foldr_cons, List.foldr_nil, Nat.reduceLeDiff, List.cons.injEq, and_self, List.length_cons, List.length_nil]
    intro z hz
    have zq : z ≠ q := fun e => by subst e; rw [g2] at hz; cases hz
    have zp : z ≠ p := fun e => by subst e; rw [g1] at hz; cases hz
    have u1 : (up C1 z (.lst [])) p = some (.lst [.ptr q, .int b, .int c, .int ((n : Int) + 1)]) := by rw [up_ne (Ne.symm zp)]; exact g1
    have u2 : (up C1 z (.lst [])) q = some (.lst (xs.map D.int)) := by rw [up_ne (Ne.symm zq)]; exact g2
    refine eqR_pp (.inl u2) (.inl up_same) (npts_ints xs) rfl ?_
    try simp only [dSeq, dGetI_eq, Bool.not_true, Bool.not_false, dAsg, dOp, dVar, dC, gNm, gTp, gCn, gNl, dRet, dIf, dTest, dTru, dNot, dAnd, dOr, dNext, dDrop, dCons, dNil, dTup, dLst, dEmp, dEmpG, dPar, dPar3, dSetI, dCall, dCB, dBM, dBM0, dIfE, dNeg, dSl, dPart, dNoP, dAug, addI, dBreak, dCont, dAlt, dYes, dPairs, dDisp, gSubD, dBMd, addD_ii, addD_ss, addD_tt, subD_ii, mulD_ii, modD_ii, fdivD_ii, powD_ii, ltD_ii, leD_ii, gtD_ii, geD_ii, ltD_ss, leD_ss, eqR_ii, eqR_ss, eqR_tt, eqR_bb, abs_ii, max_ii, min_ii, truD_b, slD_t, slD_s, inR_t, List.map, List.length, List.replicate, List.cons_append, List.nil_append, List.append_nil, List.getElem?_cons_succ, List.getElem?_cons_zero, Option.some.injEq, exists_eq_left', exists_eq_left, ex2, ex3, exists_eq', List.set_cons_succ, List.set_cons_zero, Nat.reduceAdd, Nat.reduceSub, true_and, and_true, D.bl.injEq, D.int.injEq, D.str.injEq, D.ptr.injEq, D.tup.injEq, decide_eq_true_eq, beq_iff_eq, Bool.false_eq_true, if_true, if_false, reduceIte, wipeD, List.foldr_cons, List.foldr_nil, Nat.reduceLeDiff, List.cons.injEq, and_self, List.length_cons, List.length_nil]
    split
    · rename_i hx
      refine ix_n (j := 0) (.inl u1) rfl ?_
      try simp only [dSeq, dGetI_eq, Bool.not_true, Bool.not_false, dAsg, dOp, dVar, dC, gNm, gTp, gCn, gNl, dRet, dIf, dTest, dTru, dNot, dAnd, dOr, dNext, dDrop, dCons, dNil, dTup, dLst, dEmp, dEmpG, dPar, dPar3, dSetI, dCall, dCB, dBM, dBM0, dIfE, dNeg, dSl, dPart, dNoP, dAug, addI, dBreak, dCont, dAlt, dYes, dPairs, dDisp, gSubD, dBMd, addD_ii, addD_ss, addD_tt, subD_ii, mulD_ii, modD_ii, fdivD_ii, powD_ii, ltD_ii, leD_ii, gtD_ii, geD_ii, ltD_ss, leD_ss, eqR_ii, eqR_ss, eqR_tt, eqR_bb, abs_ii, max_ii, min_ii, truD_b, slD_t, slD_s, inR_t, List.map, List.length, List.replicate, List.cons_append, List.nil_append, List.append_nil, List.getElem?_cons_succ, List.getElem?_cons_zero, Option.some.injEq, exists_eq_left', exists_eq_left, ex2, ex3, exists_eq', List.set_cons_succ, List.set_cons_zero, Nat.reduceAdd, Nat.reduceSub, true_and, and_true, D.bl.injEq, D.int.injEq, D.str.injEq, D.ptr.injEq, D.tup.injEq, decide_eq_true_eq, beq_iff_eq, Bool.false_eq_true, if_true, if_false, reduceIte, wipeD, List.foldr_cons, List.foldr_nil, Nat.reduceLeDiff, List.cons.injEq, and_self, List.length_cons, List.length_nil]
      refine ⟨tyL (.inl u2), ?_⟩
      cases xs with
      | nil => exact absurd hx (by decide)
      | cons x xs =>
      refine popAt_n (j := 0) u2 (d := .int x) rfl (by rw [List.length_map, sizeLine_eq]; simp at hl ⊢; omega) ?_
      simp only [List.map_cons, List.eraseIdx_cons_zero]
      generalize hC3 : up (up C1 z (.lst [])) q (.lst (xs.map D.int)) = C3
      have v1 : C3 p = some (.lst [.ptr q, .int b, .int c, .int ((n : Int) + 1)]) := by rw [← hC3, up_ne hne]; exact u1
      have v2 : C3 q = some (.lst (xs.map D.int)) := by rw [← hC3]; exact up_same
      have vs : Sub (up C1 q (.lst (xs.map D.int))) C3 := by rw [← hC3]; exact sub_both (sub_up hz)
      refine ix_n (j := 2) (.inl v1) rfl ?_
      try simp only [dSeq, dGetI_eq, Bool.not_true, Bool.not_false, dAsg, dOp, dVar, dC, gNm, gTp, gCn, gNl, dRet, dIf, dTest, dTru, dNot, dAnd, dOr, dNext, dDrop, dCons, dNil, dTup, dLst, dEmp, dEmpG, dPar, dPar3, dSetI, dCall, dCB, dBM, dBM0, dIfE, dNeg, dSl, dPart, dNoP, dAug, addI, dBreak, dCont, dAlt, dYes, dPairs, dDisp, gSubD, dBMd, addD_ii, addD_ss, addD_tt, subD_ii, mulD_ii, modD_ii, fdivD_ii, powD_ii, ltD_ii, leD_ii, gtD_ii, geD_ii, ltD_ss, leD_ss, eqR_ii, eqR_ss, eqR_tt, eqR_bb, abs_ii, max_ii, min_ii, truD_b, slD_t, slD_s, inR_t, List.map, List.length, List.replicate, List.cons_append, List.nil_append, List.append_nil, List.getElem?_cons_succ, List.getElem?_cons_zero, Option.some.injEq, exists_eq_left', exists_eq_left, ex2, ex3, exists_eq', List.set_cons_succ, List.set_cons_zero, Nat.reduceAdd, Nat.reduceSub, true_and, and_true, D.bl.injEq, D.int.injEq, D.str.injEq, D.ptr.injEq, D.tup.injEq, decide_eq_true_eq, beq_iff_eq, Bool.false_eq_true, if_true, if_false, reduceIte, wipeD, List.foldr_cons, List.foldr_nil, Nat.reduceLeDiff, List.cons.injEq, and_self, List.length_cons, List.length_nil]
      refine ix_n (j := 0) (.inl v1) rfl ?_
      try simp only [dSeq, dGetI_eq, Bool.not_true, Bool.not_false, dAsg, dOp, dVar, dC, gNm, gTp, gCn, gNl, dRet, dIf, dTest, dTru, dNot, dAnd, dOr, dNext, dDrop, dCons, dNil, dTup, dLst, dEmp, dEmpG, dPar, dPar3, dSetI, dCall, dCB, dBM, dBM0, dIfE, dNeg, dSl, dPart, dNoP, dAug, addI, dBreak, dCont, dAlt, dYes, dPairs, dDisp, gSubD, dBMd, addD_ii, addD_ss, addD_tt, subD_ii, mulD_ii, modD_ii, fdivD_ii, powD_ii, ltD_ii, leD_ii, gtD_ii, geD_ii, ltD_ss, leD_ss, eqR_ii, eqR_ss, eqR_tt, eqR_bb, abs_ii, max_ii, min_ii, truD_b, slD_t, slD_s, inR_t, List.map, List.length, List.replicate, List.cons_append, List.nil_append, List.append_nil, List.getElem?_cons_succ, List.getElem?_cons_zero, Option.some.injEq, exists_eq_left', exists_eq_left, ex2, ex3, exists_eq', List.set_cons_succ, List.set_cons_zero, Nat.reduceAdd, Nat.reduceSub, true_and, and_true, D.bl.injEq, D.int.injEq, D.str.injEq, D.ptr.injEq, D.tup.injEq, decide_eq_true_eq, beq_iff_eq, Bool.false_eq_true, if_true, if_false, reduceIte, wipeD, List.foldr_cons, List.foldr_nil, Nat.reduceLeDiff, List.cons.injEq, and_self, List.length_cons, List.length_nil]
      refine len_l (.inl v2) ?_
      refine blend (by rw [List.length_map]; simp at hl; omega) fun r r0 r1 => ?_
      try simp only [dSeq, dGetI_eq, Bool.not_true, Bool.not_false, dAsg, dOp, dVar, dC, gNm, gTp, gCn, gNl, dRet, dIf, dTest, dTru, dNot, dAnd, dOr, dNext, dDrop, dCons, dNil, dTup, dLst, dEmp, dEmpG, dPar, dPar3, dSetI, dCall, dCB, dBM, dBM0, dIfE, dNeg, dSl, dPart, dNoP, dAug, addI, dBreak, dCont, dAlt, dYes, dPairs, dDisp, gSubD, dBMd, addD_ii, addD_ss, addD_tt, subD_ii, mulD_ii, modD_ii, fdivD_ii, powD_ii, ltD_ii, leD_ii, gtD_ii, geD_ii, ltD_ss, leD_ss, eqR_ii, eqR_ss, eqR_tt, eqR_bb, abs_ii, max_ii, min_ii, truD_b, slD_t, slD_s, inR_t, List.map, List.length, List.replicate, List.cons_append, List.nil_append, List.append_nil, List.getElem?_cons_succ, List.getElem?_cons_zero, Option.some.injEq, exists_eq_left', exists_eq_left, ex2, ex3, exists_eq', List.set_cons_succ, List.set_cons_zero, Nat.reduceAdd, Nat.reduceSub, true_and, and_true, D.bl.injEq, D.int.injEq, D.str.injEq, D.ptr.injEq, D.tup.injEq, decide_eq_true_eq, beq_iff_eq, Bool.false_eq_true, if_true, if_false, reduceIte, wipeD, List.foldr_cons, List.foldr_nil, Nat.reduceLeDiff, List.cons.injEq, and_self, List.length_cons, List.length_nil]
      refine set_l v1 (j := 2) rfl ?_
      try simp only [dSeq, dGetI_eq, Bool.not_true, Bool.not_false, dAsg, dOp, dVar, dC, gNm, gTp, gCn, gNl, dRet, dIf, dTest, dTru, dNot, dAnd, dOr, dNext, dDrop, dCons, dNil, dTup, dLst, dEmp, dEmpG, dPar, dPar3, dSetI, dCall, dCB, dBM, dBM0, dIfE, dNeg, dSl, dPart, dNoP, dAug, addI, dBreak, dCont, dAlt, dYes, dPairs, dDisp, gSubD, dBMd, addD_ii, addD_ss, addD_tt, subD_ii, mulD_ii, modD_ii, fdivD_ii, powD_ii, ltD_ii, leD_ii, gtD_ii, geD_ii, ltD_ss, leD_ss, eqR_ii, eqR_ss, eqR_tt, eqR_bb, abs_ii, max_ii, min_ii, truD_b, slD_t, slD_s, inR_t, List.map, List.length, List.replicate, List.cons_append, List.nil_append, List.append_nil, List.getElem?_cons_succ, List.getElem?_cons_zero, Option.some.injEq, exists_eq_left', exists_eq_left, ex2, ex3, exists_eq', List.set_cons_succ, List.set_cons_zero, Nat.reduceAdd, Nat.reduceSub, true_and, and_true, D.bl.injEq, D.int.injEq, D.str.injEq, D.ptr.injEq, D.tup.injEq, decide_eq_true_eq, beq_iff_eq, Bool.false_eq_true, if_true, if_false, reduceIte, wipeD, List.foldr_cons, List.foldr_nil, Nat.reduceLeDiff, List.cons.injEq, and_self, List.length_cons, List.length_nil]
      refine ⟨cpow_18, ?_⟩
      generalize hx' : (if x < 0 then -x else x) = x'
      have x0 : 0 ≤ x' := by rw [← hx']; split <;> omega
      split
      · refine set_l (p := p) up_same (j := 1) rfl ?_
        try simp only [dSeq, dGetI_eq, Bool.not_true, Bool.not_false, dAsg, dOp, dVar, dC, gNm, gTp, gCn, gNl, dRet, dIf, dTest, dTru, dNot, dAnd, dOr, dNext, dDrop, dCons, dNil, dTup, dLst, dEmp, dEmpG, dPar, dPar3, dSetI, dCall, dCB, dBM, dBM0, dIfE, dNeg, dSl, dPart, dNoP, dAug, addI, dBreak, dCont, dAlt, dYes, dPairs, dDisp, gSubD, dBMd, addD_ii, addD_ss, addD_tt, subD_ii, mulD_ii, modD_ii, fdivD_ii, powD_ii, ltD_ii, leD_ii, gtD_ii, geD_ii, ltD_ss, leD_ss, eqR_ii, eqR_ss, eqR_tt, eqR_bb, abs_ii, max_ii, min_ii, truD_b, slD_t, slD_s, inR_t, List.map, List.length, List.replicate, List.cons_append, List.nil_append, List.append_nil, List.getElem?_cons_succ, List.getElem?_cons_zero, Option.some.injEq, exists_eq_left', exists_eq_left, ex2, ex3, exists_eq', List.set_cons_succ, List.set_cons_zero, Nat.reduceAdd, Nat.reduceSub, true_and, and_true, D.bl.injEq, D.int.injEq, D.str.injEq, D.ptr.injEq, D.tup.injEq, decide_eq_true_eq, beq_iff_eq, Bool.false_eq_true, if_true, if_false, reduceIte, wipeD, List.foldr_cons, List.foldr_nil, Nat.reduceLeDiff, List.cons.injEq, and_self, List.length_cons, List.length_nil]
        refine tail (up (up (up C1 q (.lst (xs.map D.int))) p (.lst [.ptr q, .int b, .int r, .int ((n : Int) + 1)])) p (.lst [.ptr q, .int x', .int r, .int ((n : Int) + 1)])) _ xs _ r _ _ (sub_both (sub_both vs)) up_same ?_ ?_ ?_ r0 (by omega) (by simp at hl; omega)
        · rw [up_ne (Ne.symm hne), up_ne (Ne.symm hne)]; exact up_same
        · exact ((gf.up (.inr rfl)).up (.inl rfl)).up (.inl rfl)
        · exact x0
      · refine tail (up (up C1 q (.lst (xs.map D.int))) p (.lst [.ptr q, .int b, .int r, .int ((n : Int) + 1)])) _ xs b r _ _ (sub_both vs) up_same ?_ ((gf.up (.inr rfl)).up (.inl rfl)) hb r0 (by omega) (by simp at hl; omega)
        rw [up_ne (Ne.symm hne)]; exact up_same
    · exact tail C1 _ xs b c _ _ (sub_up hz) g1 g2 gf hb hc0 hc hl
  · exact tail C1 _ xs b c _ _ (Sub.refl _) g1 g2 gf hb hc0 hc hl
end K06

namespace K06
open PySem PySem.Spec PyProof.Rows KB
open L2 hiding op_eqD op_neD call_listD
variable {C : Cp} {p q : Addr} {N : Nat} {Q : DQ} {E : Exn → Cp → Prop}
theorem draw' {m : Int} (hP : Pot C p q N) (hN : N < 2 ^ 19) (hm : 0 < m) (hm2 : m < 2 ^ 64) (k : ∀ (i : Nat) C', (i : Int) < m → Pot C' p q (N + 1) → Kp (S2 p q) C C' → Q (.int i) C') : D__law_draw [.ptr p, .int m] C Q E :=
  draw hP hN hm hm2 fun i C' a b c => k i C' a b c.kp
theorem pick_s {l : List Nat} (hP : Pot C p q N) (hN : N < 2 ^ 19) (hl : 0 < l.length) (hl2 : l.length ≤ 1000) (k : ∀ c C', c ∈ l → Pot C' p q (N + 1) → Kp (S2 p q) C C' → Q (.str [c]) C') : D__law_pick [.ptr p, .str l] C Q E := by
  unfold D__law_pick runD r__law_pick
  try simp only [dSeq, dGetI_eq, Bool.not_true, Bool.not_false, dAsg, dOp, dVar, dC, gNm, gTp, gCn, gNl, dRet, dIf, dTest, dTru, dNot, dAnd, dOr, dNext, dDrop, dCons, dNil, dTup, dLst, dEmp, dEmpG, dPar, dPar3, dSetI, dCall, dCB, dBM, dBM0, dIfE, dNeg, dSl, dPart, dNoP, dAug, addI, dBreak, dCont, dAlt, dYes, dPairs, dDisp, gSubD, dBMd, addD_ii, addD_ss, addD_tt, subD_ii, mulD_ii, modD_ii, fdivD_ii, powD_ii, ltD_ii, leD_ii, gtD_ii, geD_ii, ltD_ss, leD_ss, eqR_ii, eqR_ss, eqR_tt, eqR_bb, abs_ii, max_ii, min_ii, truD_b, slD_t, slD_s, inR_t, List.map, List.length, List.replicate, List.cons_append, List.nil_append, List.append_nil, List.getElem?_cons_succ, List.getElem?_cons_zero, Option.some.injEq, exists_eq_left', exists_eq_left, ex2, ex3, exists_eq', List.set_cons_succ, List.set_cons_zero, Nat.reduceAdd, Nat.reduceSub, true_and, and_true, D.bl.injEq, D.int.injEq, D.str.injEq, D.ptr.injEq, D.tup.injEq, decide_eq_true_eq, beq_iff_eq, Bool.false_eq_true, if_true, if_false, reduceIte, wipeD, List.foldr_cons, List.foldr_nil, Nat.reduceLeDiff, List.cons.injEq, and_self, List.length_cons, List.length_nil]
  have hz : l.length ≤ sizeLine := by rw [sizeLine_eq]; omega
  refine len_s hz (draw' hP hN (by omega) (by omega) fun i C' hi hP' hK => ?_)
  have hi : i < l.length := by omega
  refine ix_sn hz (List.getElem?_eq_getElem hi) ?_
  exact ⟨C', Sub.refl _, k _ C' (List.getElem_mem hi) hP' hK⟩
theorem pick_l {xs : List D} {r : Addr} (hP : Pot C p q N) (hN : N < 2 ^ 19) (hr : isL C r xs) (hn : ¬ S2 p q r) (hl : 0 < xs.length) (hl2 : xs.length ≤ 1000) (k : ∀ d C', d ∈ xs → Pot C' p q (N + 1) → Kp (S2 p q) C C' → Q d C') : D__law_pick [.ptr p, .ptr r] C Q E := by
  unfold D__law_pick runD r__law_pick
  try simp only [dSeq, dGetI_eq, Bool.not_true, Bool.not_false, dAsg, dOp, dVar, dC, gNm, gTp, gCn, gNl, dRet, dIf, dTest, dTru, dNot, dAnd, dOr, dNext, dDrop, dCons, dNil, dTup, dLst, dEmp, dEmpG, dPar, dPar3, dSetI, dCall, dCB, dBM, dBM0, dIfE, dNeg, dSl, dPart, dNoP, dAug, addI, dBreak, dCont, dAlt, dYes, dPairs, dDisp, gSubD, dBMd, addD_ii, addD_ss, addD_tt, subD_ii, mulD_ii, modD_ii, fdivD_ii, powD_ii, ltD_ii, leD_ii, gtD_ii, geD_ii, ltD_ss, leD_ss, eqR_ii, eqR_ss, eqR_tt, eqR_bb, abs_ii, max_ii, min_ii, truD_b, slD_t, slD_s, inR_t, List.map, List.length, List.replicate, List.cons_append, List.nil_append, List.append_nil, List.getElem?_cons_succ, List.getElem?_cons_zero, Option.some.injEq, exists_eq_left', exists_eq_left, ex2, ex3, exists_eq', List.set_cons_succ, List.set_cons_zero, Nat.reduceAdd, Nat.reduceSub, true_and, and_true, D.bl.injEq, D.int.injEq, D.str.injEq, D.ptr.injEq, D.tup.injEq, decide_eq_true_eq, beq_iff_eq, Bool.false_eq_true, if_true, if_false, reduceIte, wipeD, List.foldr_cons, List.foldr_nil, Nat.reduceLeDiff, List.cons.injEq, and_self, List.length_cons, List.length_nil]
  refine len_l hr (draw' hP hN (by omega) (by omega) fun i C' hi hP' hK => ?_)
  have hi : i < xs.length := by omega
  refine ix_n (hK.isL hn hr) (List.getElem?_eq_getElem hi) ?_
  exact ⟨C', Sub.refl _, k _ C' (List.getElem_mem hi) hP' hK⟩
theorem Pot.ne (h : Pot C p q N) {r : Addr} (z : C r = none) : ¬ S2 p q r := by
  obtain ⟨xs, b, c, n, h1, h2, _⟩ := h
  rintro (e | e)
  · subst e; rw [h1] at z; cases z
  · subst e; rw [h2] at z; cases z
theorem Pot.up (h : Pot C p q N) {r : Addr} {c : Cell} (z : ¬ S2 p q r) : Pot (up C r c) p q N := by
  obtain ⟨xs, b, c', n, h1, h2, h3⟩ := h
  refine ⟨xs, b, c', n, ?_, ?_, h3⟩
  · rw [up_ne (fun e => z (.inl e.symm))]; exact h1
  · rw [up_ne (fun e => z (.inr e.symm))]; exact h2
theorem Pot.mono (h : Pot C p q N) {M : Nat} (l : N ≤ M) : Pot C p q M := by
  obtain ⟨xs, b, c', n, h1, h2, h3, h4, h5, h6, h7, h8⟩ := h
  exact ⟨xs, b, c', n, h1, h2, h3, h4, h5, h6, by omega, h8⟩
def Short (m : Nat) (xs : List (List Nat)) : Prop := ∀ x ∈ xs, x.length ≤ m
theorem short_nil {m : Nat} : Short m [] := fun x hx => (by cases hx)
theorem erase_map {α β : Type} (f : α → β) : ∀ (xs : List α) (i : Nat), (xs.map f).eraseIdx i = (xs.eraseIdx i).map f
  | [], _ => rfl
  | _ :: _, 0 => rfl
  | x :: r, i + 1 => by
    rw [List.map_cons, List.eraseIdx_cons_succ, List.eraseIdx_cons_succ, List.map_cons, erase_map f r i]
theorem sum_short {m : Nat} : ∀ {xs : List (List Nat)}, Short m xs → (xs.map List.length).sum ≤ xs.length * m
  | [], _ => by simp
  | x :: r, h => by
    have h1 := h x List.mem_cons_self
    have h2 := sum_short (xs := r) fun y hy => h y (List.mem_cons_of_mem _ hy)
    rw [List.map_cons, List.sum_cons, List.length_cons, Nat.succ_mul]
    omega
theorem join_len : ∀ (ys : List (List Nat)), (joinD [] ys).length = (ys.map List.length).sum := by
  intro ys
  unfold joinD
  induction ys with
  | nil => rfl
  | cons x r ih =>
    cases r with
    | nil => simp [TL.joinL]
    | cons y r => 
      rw [List.map_cons, List.sum_cons, ← ih]
      simp [TL.joinL]
theorem cut_len {l : List Nat} {a b : Option Int} : (cutL l a b).length ≤ l.length := by
  unfold cutL
  rw [List.length_take, List.length_drop]
  omega
theorem marks {m : Nat} (hP : Pot C p q N) (hN : N + 200 < 2 ^ 19) (hm : m ≤ 36) (k : ∀ (ms : List (List Nat)) (r : Addr) C', ms.length = m → Short 100 ms → C r = none → C' r = some (.lst (ms.map .str)) → Pot C' p q (N + 200) → Kp (S2 p q) C C' → Q (.ptr r) C') : D__law_marks [.ptr p, .int m] C Q E := by
  unfold D__law_marks runD r__law_marks
  try simp only [dSeq, dGetI_eq, Bool.not_true, Bool.not_false, dAsg, dOp, dVar, dC, gNm, gTp, gCn, gNl, dRet, dIf, dTest, dTru, dNot, dAnd, dOr, dNext, dDrop, dCons, dNil, dTup, dLst, dEmp, dEmpG, dPar, dPar3, dSetI, dCall, dCB, dBM, dBM0, dIfE, dNeg, dSl, dPart, dNoP, dAug, addI, dBreak, dCont, dAlt, dYes, dPairs, dDisp, gSubD, dBMd, addD_ii, addD_ss, addD_tt, subD_ii, mulD_ii, modD_ii, fdivD_ii, powD_ii, ltD_ii, leD_ii, gtD_ii, geD_ii, ltD_ss, leD_ss, eqR_ii, eqR_ss, eqR_tt, eqR_bb, abs_ii, max_ii, min_ii, truD_b, slD_t, slD_s, inR_t, List.map, List.length, List.replicate, List.cons_append, List.nil_append, List.append_nil, List.getElem?_cons_succ, List.getElem?_cons_zero, Option.some.injEq, exists_eq_left', exists_eq_left, ex2, ex3, exists_eq', List.set_cons_succ, List.set_cons_zero, Nat.reduceAdd, Nat.reduceSub, true_and, and_true, D.bl.injEq, D.int.injEq, D.str.injEq, D.ptr.injEq, D.tup.injEq, decide_eq_true_eq, beq_iff_eq, Bool.false_eq_true, if_true, if_false, reduceIte, wipeD, List.foldr_cons, List.foldr_nil, Nat.reduceLeDiff, List.cons.injEq, and_self, List.length_cons, List.length_nil]
  refine listS_l (by decide +kernel) fun sg hsg => ?_
  try simp only [dSeq, dGetI_eq, Bool.not_true, Bool.not_false, dAsg, dOp, dVar, dC, gNm, gTp, gCn, gNl, dRet, dIf, dTest, dTru, dNot, dAnd, dOr, dNext, dDrop, dCons, dNil, dTup, dLst, dEmp, dEmpG, dPar, dPar3, dSetI, dCall, dCB, dBM, dBM0, dIfE, dNeg, dSl, dPart, dNoP, dAug, addI, dBreak, dCont, dAlt, dYes, dPairs, dDisp, gSubD, dBMd, addD_ii, addD_ss, addD_tt, subD_ii, mulD_ii, modD_ii, fdivD_ii, powD_ii, ltD_ii, leD_ii, gtD_ii, geD_ii, ltD_ss, leD_ss, eqR_ii, eqR_ss, eqR_tt, eqR_bb, abs_ii, max_ii, min_ii, truD_b, slD_t, slD_s, inR_t, List.map, List.length, List.replicate, List.cons_append, List.nil_append, List.append_nil, List.getElem?_cons_succ, List.getElem?_cons_zero, Option.some.injEq, exists_eq_left', exists_eq_left, ex2, ex3, exists_eq', List.set_cons_succ, List.set_cons_zero, Nat.reduceAdd, Nat.reduceSub, true_and, and_true, D.bl.injEq, D.int.injEq, D.str.injEq, D.ptr.injEq, D.tup.injEq, decide_eq_true_eq, beq_iff_eq, Bool.false_eq_true, if_true, if_false, reduceIte, wipeD, List.foldr_cons, List.foldr_nil, Nat.reduceLeDiff, List.cons.injEq, and_self, List.length_cons, List.length_nil]
  intro fd hfd
  try simp only [dSeq, dGetI_eq, Bool.not_true, Bool.not_false, dAsg, dOp, dVar, dC, gNm, gTp, gCn, gNl, dRet, dIf, dTest, dTru, dNot, dAnd, dOr, dNext, dDrop, dCons, dNil, dTup, dLst, dEmp, dEmpG, dPar, dPar3, dSetI, dCall, dCB, dBM, dBM0, dIfE, dNeg, dSl, dPart, dNoP, dAug, addI, dBreak, dCont, dAlt, dYes, dPairs, dDisp, gSubD, dBMd, addD_ii, addD_ss, addD_tt, subD_ii, mulD_ii, modD_ii, fdivD_ii, powD_ii, ltD_ii, leD_ii, gtD_ii, geD_ii, ltD_ss, leD_ss, eqR_ii, eqR_ss, eqR_tt, eqR_bb, abs_ii, max_ii, min_ii, truD_b, slD_t, slD_s, inR_t, List.map, List.length, List.replicate, List.cons_append, List.nil_append, List.append_nil, List.getElem?_cons_succ, List.getElem?_cons_zero, Option.some.injEq, exists_eq_left', exists_eq_left, ex2, ex3, exists_eq', List.set_cons_succ, List.set_cons_zero, Nat.reduceAdd, Nat.reduceSub, true_and, and_true, D.bl.injEq, D.int.injEq, D.str.injEq, D.ptr.injEq, D.tup.injEq, decide_eq_true_eq, beq_iff_eq, Bool.false_eq_true, if_true, if_false, reduceIte, wipeD, List.foldr_cons, List.foldr_nil, Nat.reduceLeDiff, List.cons.injEq, and_self, List.length_cons, List.length_nil]
  have n1 := hP.ne hsg
  have g1 : fd ≠ sg := ne_fresh up_same hfd
  have z1 : C fd = none := by rw [← hfd, up_ne g1]
  have n2 := hP.ne z1
  generalize hC1 : up (up C sg _) fd (.lst []) = C1
  have hP1 : Pot C1 p q N := by rw [← hC1]; exact (hP.up n1).up n2
  have c1 : ∃ ss : List (List Nat), C1 sg = some (.lst (ss.map D.str)) ∧ ss.length = 37 ∧ Short 1 ss := by
    refine ⟨("abcdefghijklmnopqrstuvwxyz0123456789-".toList.map fun c => [c.toNat]), ?_, by decide, ?_⟩
    · rw [← hC1, up_ne (Ne.symm g1), up_same]
      rfl
    · intro x hx
      obtain ⟨c, _, rfl⟩ := List.mem_map.mp hx
      exact Nat.le_refl _
  have c2 : C1 fd = some (.lst []) := by rw [← hC1]; exact up_same
  have k1 : Kp (S2 p q) C C1 := by rw [← hC1]; exact ((Kp.refl C).new hsg).new hfd
  clear hC1
  refine ⟨rfl, ?_⟩
  unfold dLc dRng1
  try simp only [dSeq, dGetI_eq, Bool.not_true, Bool.not_false, dAsg, dOp, dVar, dC, gNm, gTp, gCn, gNl, dRet, dIf, dTest, dTru, dNot, dAnd, dOr, dNext, dDrop, dCons, dNil, dTup, dLst, dEmp, dEmpG, dPar, dPar3, dSetI, dCall, dCB, dBM, dBM0, dIfE, dNeg, dSl, dPart, dNoP, dAug, addI, dBreak, dCont, dAlt, dYes, dPairs, dDisp, gSubD, dBMd, addD_ii, addD_ss, addD_tt, subD_ii, mulD_ii, modD_ii, fdivD_ii, powD_ii, ltD_ii, leD_ii, gtD_ii, geD_ii, ltD_ss, leD_ss, eqR_ii, eqR_ss, eqR_tt, eqR_bb, abs_ii, max_ii, min_ii, truD_b, slD_t, slD_s, inR_t, List.map, List.length, List.replicate, List.cons_append, List.nil_append, List.append_nil, List.getElem?_cons_succ, List.getElem?_cons_zero, Option.some.injEq, exists_eq_left', exists_eq_left, ex2, ex3, exists_eq', List.set_cons_succ, List.set_cons_zero, Nat.reduceAdd, Nat.reduceSub, true_and, and_true, D.bl.injEq, D.int.injEq, D.str.injEq, D.ptr.injEq, D.tup.injEq, decide_eq_true_eq, beq_iff_eq, Bool.false_eq_true, if_true, if_false, reduceIte, wipeD, List.foldr_cons, List.foldr_nil, Nat.reduceLeDiff, List.cons.injEq, and_self, List.length_cons, List.length_nil]
  refine draw' hP1 (by omega) (by decide) (by decide) fun j C2 hj hP2 k2 => ?_
  try simp only [dSeq, dGetI_eq, Bool.not_true, Bool.not_false, dAsg, dOp, dVar, dC, gNm, gTp, gCn, gNl, dRet, dIf, dTest, dTru, dNot, dAnd, dOr, dNext, dDrop, dCons, dNil, dTup, dLst, dEmp, dEmpG, dPar, dPar3, dSetI, dCall, dCB, dBM, dBM0, dIfE, dNeg, dSl, dPart, dNoP, dAug, addI, dBreak, dCont, dAlt, dYes, dPairs, dDisp, gSubD, dBMd, addD_ii, addD_ss, addD_tt, subD_ii, mulD_ii, modD_ii, fdivD_ii, powD_ii, ltD_ii, leD_ii, gtD_ii, geD_ii, ltD_ss, leD_ss, eqR_ii, eqR_ss, eqR_tt, eqR_bb, abs_ii, max_ii, min_ii, truD_b, slD_t, slD_s, inR_t, List.map, List.length, List.replicate, List.cons_append, List.nil_append, List.append_nil, List.getElem?_cons_succ, List.getElem?_cons_zero, Option.some.injEq, exists_eq_left', exists_eq_left, ex2, ex3, exists_eq', List.set_cons_succ, List.set_cons_zero, Nat.reduceAdd, Nat.reduceSub, true_and, and_true, D.bl.injEq, D.int.injEq, D.str.injEq, D.ptr.injEq, D.tup.injEq, decide_eq_true_eq, beq_iff_eq, Bool.false_eq_true, if_true, if_false, reduceIte, wipeD, List.foldr_cons, List.foldr_nil, Nat.reduceLeDiff, List.cons.injEq, and_self, List.length_cons, List.length_nil]
  refine ⟨by omega, by omega, ?_⟩
  have hj : j < 12 := by omega
  refine ⟨fun i acc C' => ∃ ys : List (List Nat), acc = ys.map D.str ∧ ys.length = i ∧ Short 1 ys ∧ Pot C' p q (N + 1 + i) ∧ Kp (S2 p q) C2 C', ⟨[], rfl, rfl, short_nil, hP2, Kp.refl _⟩, fun _ _ _ _ _ => trivial, fun i x acc C3 e hp hl => ?_, ?_, fun acc C3 jl hp hjl => ?_⟩
  · obtain ⟨hi, rfl⟩ := rng_at e
    obtain ⟨ys, rfl, hy, hs, hP3, k3⟩ := hp
    try simp only [dSeq, dGetI_eq, Bool.not_true, Bool.not_false, dAsg, dOp, dVar, dC, gNm, gTp, gCn, gNl, dRet, dIf, dTest, dTru, dNot, dAnd, dOr, dNext, dDrop, dCons, dNil, dTup, dLst, dEmp, dEmpG, dPar, dPar3, dSetI, dCall, dCB, dBM, dBM0, dIfE, dNeg, dSl, dPart, dNoP, dAug, addI, dBreak, dCont, dAlt, dYes, dPairs, dDisp, gSubD, dBMd, addD_ii, addD_ss, addD_tt, subD_ii, mulD_ii, modD_ii, fdivD_ii, powD_ii, ltD_ii, leD_ii, gtD_ii, geD_ii, ltD_ss, leD_ss, eqR_ii, eqR_ss, eqR_tt, eqR_bb, abs_ii, max_ii, min_ii, truD_b, slD_t, slD_s, inR_t, List.map, List.length, List.replicate, List.cons_append, List.nil_append, List.append_nil, List.getElem?_cons_succ, List.getElem?_cons_zero, Option.some.injEq, exists_eq_left', exists_eq_left, ex2, ex3, exists_eq', List.set_cons_succ, List.set_cons_zero, Nat.reduceAdd, Nat.reduceSub, true_and, and_true, D.bl.injEq, D.int.injEq, D.str.injEq, D.ptr.injEq, D.tup.injEq, decide_eq_true_eq, beq_iff_eq, Bool.false_eq_true, if_true, if_false, reduceIte, wipeD, List.foldr_cons, List.foldr_nil, Nat.reduceLeDiff, List.cons.injEq, and_self, List.length_cons, List.length_nil]
    have hi : i < j := by simpa using hi
    refine pick_s hP3 (by omega) (by decide) (by decide) fun c C4 hc hP4 k4 => ?_
    refine ⟨C4, Sub.refl _, ys ++ [[c]], by rw [List.map_append]; rfl, by rw [List.length_append, hy]; rfl, fun z hz => ?_, hP4, k3.trans k4⟩
    rcases List.mem_append.mp hz with hz | hz
    · exact hs z hz
    · rw [List.mem_singleton.mp hz]
      exact Nat.le_refl _
  · rw [rngD_len, sizeLine_eq]
    simp
    omega
  obtain ⟨ys, rfl, hy, hs, hP3, k3⟩ := hp
  rw [rngD_len] at hy hP3
  have hy : ys.length = j := by simpa using hy
  have hP3 : Pot C3 p q (N + 20) := hP3.mono (by simp; omega)
  have sm := sum_short hs
  refine ⟨[], .ptr jl, ys, rfl, rfl, .inl up_same, by simp; omega, ?_⟩
  have ml : (joinD [] ys).length ≤ 12 := by rw [join_len]; omega
  generalize joinD [] ys = st at ml
  have hz : st.length ≤ sizeLine := by rw [sizeLine_eq]; omega
  have hP4 : Pot (up C3 jl (.lst (ys.map D.str))) p q (N + 20) := hP3.up (hP3.ne hjl)
  have k4 : Kp (S2 p q) C1 (up C3 jl (.lst (ys.map D.str))) := (k2.trans k3).new hjl
  generalize up C3 jl (.lst (ys.map D.str)) = C4 at hP4 k4
  refine len_s hz ?_
  try simp only [dSeq, dGetI_eq, Bool.not_true, Bool.not_false, dAsg, dOp, dVar, dC, gNm, gTp, gCn, gNl, dRet, dIf, dTest, dTru, dNot, dAnd, dOr, dNext, dDrop, dCons, dNil, dTup, dLst, dEmp, dEmpG, dPar, dPar3, dSetI, dCall, dCB, dBM, dBM0, dIfE, dNeg, dSl, dPart, dNoP, dAug, addI, dBreak, dCont, dAlt, dYes, dPairs, dDisp, gSubD, dBMd, addD_ii, addD_ss, addD_tt, subD_ii, mulD_ii, modD_ii, fdivD_ii, powD_ii, ltD_ii, leD_ii, gtD_ii, geD_ii, ltD_ss, leD_ss, eqR_ii, eqR_ss, eqR_tt, eqR_bb, abs_ii, max_ii, min_ii, truD_b, slD_t, slD_s, inR_t, List.map, List.length, List.replicate, List.cons_append, List.nil_append, List.append_nil, List.getElem?_cons_succ, List.getElem?_cons_zero, Option.some.injEq, exists_eq_left', exists_eq_left, ex2, ex3, exists_eq', List.set_cons_succ, List.set_cons_zero, Nat.reduceAdd, Nat.reduceSub, true_and, and_true, D.bl.injEq, D.int.injEq, D.str.injEq, D.ptr.injEq, D.tup.injEq, decide_eq_true_eq, beq_iff_eq, Bool.false_eq_true, if_true, if_false, reduceIte, wipeD, List.foldr_cons, List.foldr_nil, Nat.reduceLeDiff, List.cons.injEq, and_self, List.length_cons, List.length_nil]
  refine draw' hP4 (by omega) (by omega) (by omega) fun at' C5 ha hP5 k5 => ?_
  refine draw' hP5 (by omega) (by decide) (by decide) fun way C6 hw hP6 k6 => ?_
  try simp only [dSeq, dGetI_eq, Bool.not_true, Bool.not_false, dAsg, dOp, dVar, dC, gNm, gTp, gCn, gNl, dRet, dIf, dTest, dTru, dNot, dAnd, dOr, dNext, dDrop, dCons, dNil, dTup, dLst, dEmp, dEmpG, dPar, dPar3, dSetI, dCall, dCB, dBM, dBM0, dIfE, dNeg, dSl, dPart, dNoP, dAug, addI, dBreak, dCont, dAlt, dYes, dPairs, dDisp, gSubD, dBMd, addD_ii, addD_ss, addD_tt, subD_ii, mulD_ii, modD_ii, fdivD_ii, powD_ii, ltD_ii, leD_ii, gtD_ii, geD_ii, ltD_ss, leD_ss, eqR_ii, eqR_ss, eqR_tt, eqR_bb, abs_ii, max_ii, min_ii, truD_b, slD_t, slD_s, inR_t, List.map, List.length, List.replicate, List.cons_append, List.nil_append, List.append_nil, List.getElem?_cons_succ, List.getElem?_cons_zero, Option.some.injEq, exists_eq_left', exists_eq_left, ex2, ex3, exists_eq', List.set_cons_succ, List.set_cons_zero, Nat.reduceAdd, Nat.reduceSub, true_and, and_true, D.bl.injEq, D.int.injEq, D.str.injEq, D.ptr.injEq, D.tup.injEq, decide_eq_true_eq, beq_iff_eq, Bool.false_eq_true, if_true, if_false, reduceIte, wipeD, List.foldr_cons, List.foldr_nil, Nat.reduceLeDiff, List.cons.injEq, and_self, List.length_cons, List.length_nil]
  have k16 : Kp (S2 p q) C1 C6 := (k4.trans k5).trans k6
  obtain ⟨ss, c1, ls, hss⟩ := c1
  unfold dFor
  try unfold dRng1
  try simp only [dSeq, dGetI_eq, Bool.not_true, Bool.not_false, dAsg, dOp, dVar, dC, gNm, gTp, gCn, gNl, dRet, dIf, dTest, dTru, dNot, dAnd, dOr, dNext, dDrop, dCons, dNil, dTup, dLst, dEmp, dEmpG, dPar, dPar3, dSetI, dCall, dCB, dBM, dBM0, dIfE, dNeg, dSl, dPart, dNoP, dAug, addI, dBreak, dCont, dAlt, dYes, dPairs, dDisp, gSubD, dBMd, addD_ii, addD_ss, addD_tt, subD_ii, mulD_ii, modD_ii, fdivD_ii, powD_ii, ltD_ii, leD_ii, gtD_ii, geD_ii, ltD_ss, leD_ss, eqR_ii, eqR_ss, eqR_tt, eqR_bb, abs_ii, max_ii, min_ii, truD_b, slD_t, slD_s, inR_t, List.map, List.length, List.replicate, List.cons_append, List.nil_append, List.append_nil, List.getElem?_cons_succ, List.getElem?_cons_zero, Option.some.injEq, exists_eq_left', exists_eq_left, ex2, ex3, exists_eq', List.set_cons_succ, List.set_cons_zero, Nat.reduceAdd, Nat.reduceSub, true_and, and_true, D.bl.injEq, D.int.injEq, D.str.injEq, D.ptr.injEq, D.tup.injEq, decide_eq_true_eq, beq_iff_eq, Bool.false_eq_true, if_true, if_false, reduceIte, wipeD, List.foldr_cons, List.foldr_nil, Nat.reduceLeDiff, List.cons.injEq, and_self, List.length_cons, List.length_nil]
  refine ⟨by omega, by omega, ?_⟩
  refine ⟨fun i sl C' => ∃ (x3 x8 : Option D) (gs fs : List (List Nat)), sl = [some (.ptr p), some (.int m), some (.str st), x3, some (.ptr sg), some (.ptr fd), some (.int at'), some (.int way), x8] ∧ C' sg = some (.lst (gs.map D.str)) ∧ gs.length = 37 - i ∧ Short 1 gs ∧ C' fd = some (.lst (fs.map D.str)) ∧ fs.length = i ∧ Short 100 fs ∧ Pot C' p q (N + 22 + 2 * i) ∧ Kp (fun r => S2 p q r ∨ r = sg ∨ r = fd) C6 C',
    ⟨none, none, ss, [], rfl, k16 _ _ n1 c1, ls, hss, k16 _ _ n2 c2, rfl, short_nil, hP6, Kp.refl _⟩, fun _ _ _ _ _ => trivial, fun i x sl C7 e hp => ?_, fun sl C7 hp => ?_⟩
  · obtain ⟨hi, rfl⟩ := rng_at e
    have hi : i < m := by simpa using hi
    obtain ⟨x3, x8, gs, fs, rfl, c3, lg, hg, c4, lf, hf, hP7, k7⟩ := hp
    unfold l__law_marks_1
    try simp only [dSeq, dGetI_eq, Bool.not_true, Bool.not_false, dAsg, dOp, dVar, dC, gNm, gTp, gCn, gNl, dRet, dIf, dTest, dTru, dNot, dAnd, dOr, dNext, dDrop, dCons, dNil, dTup, dLst, dEmp, dEmpG, dPar, dPar3, dSetI, dCall, dCB, dBM, dBM0, dIfE, dNeg, dSl, dPart, dNoP, dAug, addI, dBreak, dCont, dAlt, dYes, dPairs, dDisp, gSubD, dBMd, addD_ii, addD_ss, addD_tt, subD_ii, mulD_ii, modD_ii, fdivD_ii, powD_ii, ltD_ii, leD_ii, gtD_ii, geD_ii, ltD_ss, leD_ss, eqR_ii, eqR_ss, eqR_tt, eqR_bb, abs_ii, max_ii, min_ii, truD_b, slD_t, slD_s, inR_t, List.map, List.length, List.replicate, List.cons_append, List.nil_append, List.append_nil, List.getElem?_cons_succ, List.getElem?_cons_zero, Option.some.injEq, exists_eq_left', exists_eq_left, ex2, ex3, exists_eq', List.set_cons_succ, List.set_cons_zero, Nat.reduceAdd, Nat.reduceSub, true_and, and_true, D.bl.injEq, D.int.injEq, D.str.injEq, D.ptr.injEq, D.tup.injEq, decide_eq_true_eq, beq_iff_eq, Bool.false_eq_true, if_true, if_false, reduceIte, wipeD, List.foldr_cons, List.foldr_nil, Nat.reduceLeDiff, List.cons.injEq, and_self, List.length_cons, List.length_nil]
    refine ⟨tyL (.inl c3), len_l (.inl c3) ?_⟩
    refine draw' hP7 (by omega) (by rw [List.length_map]; omega) (by rw [List.length_map]; omega) fun b C8 hb hP8 k8 => ?_
    rw [List.length_map] at hb
    have hb : b < gs.length := by omega
    refine popAt_n (k8 _ _ n1 c3) (j := b) (d := .str gs[b]) (by rw [List.getElem?_map, List.getElem?_eq_getElem hb]; rfl) (by rw [List.length_map, sizeLine_eq]; omega) ?_
    try simp only [dSeq, dGetI_eq, Bool.not_true, Bool.not_false, dAsg, dOp, dVar, dC, gNm, gTp, gCn, gNl, dRet, dIf, dTest, dTru, dNot, dAnd, dOr, dNext, dDrop, dCons, dNil, dTup, dLst, dEmp, dEmpG, dPar, dPar3, dSetI, dCall, dCB, dBM, dBM0, dIfE, dNeg, dSl, dPart, dNoP, dAug, addI, dBreak, dCont, dAlt, dYes, dPairs, dDisp, gSubD, dBMd, addD_ii, addD_ss, addD_tt, subD_ii, mulD_ii, modD_ii, fdivD_ii, powD_ii, ltD_ii, leD_ii, gtD_ii, geD_ii, ltD_ss, leD_ss, eqR_ii, eqR_ss, eqR_tt, eqR_bb, abs_ii, max_ii, min_ii, truD_b, slD_t, slD_s, inR_t, List.map, List.length, List.replicate, List.cons_append, List.nil_append, List.append_nil, List.getElem?_cons_succ, List.getElem?_cons_zero, Option.some.injEq, exists_eq_left', exists_eq_left, ex2, ex3, exists_eq', List.set_cons_succ, List.set_cons_zero, Nat.reduceAdd, Nat.reduceSub, true_and, and_true, D.bl.injEq, D.int.injEq, D.str.injEq, D.ptr.injEq, D.tup.injEq, decide_eq_true_eq, beq_iff_eq, Bool.false_eq_true, if_true, if_false, reduceIte, wipeD, List.foldr_cons, List.foldr_nil, Nat.reduceLeDiff, List.cons.injEq, and_self, List.length_cons, List.length_nil]
    have k9 : Kp (fun r => S2 p q r ∨ r = sg ∨ r = fd) C6 (up C8 sg (.lst ((gs.map D.str).eraseIdx b))) := (k7.trans (k8.mono fun r h => .inl h)).put (.inr (.inl rfl))
    have hP9 : Pot (up C8 sg (.lst ((gs.map D.str).eraseIdx b))) p q (N + 22 + 2 * i + 1) := hP8.up n1
    have c5 : (up C8 sg (.lst ((gs.map D.str).eraseIdx b))) fd = some (.lst (fs.map D.str)) := by rw [up_ne g1]; exact k8 _ _ n2 c4
    have c6 : (up C8 sg (.lst ((gs.map D.str).eraseIdx b))) sg = some (.lst ((gs.eraseIdx b).map D.str)) := by rw [up_same, erase_map]
    have lb : gs[b].length ≤ 1 := hg _ (List.getElem_mem hb)
    have hg' : Short 1 (gs.eraseIdx b) := fun x hx => hg x (List.mem_of_mem_eraseIdx hx)
    generalize gs[b] = sn at lb
    generalize (up C8 sg (.lst ((gs.map D.str).eraseIdx b))) = C9 at k9 hP9 c5 c6
    refine ⟨tyL (.inl c5), ?_⟩
    try simp only [dSeq, dGetI_eq, Bool.not_true, Bool.not_false, dAsg, dOp, dVar, dC, gNm, gTp, gCn, gNl, dRet, dIf, dTest, dTru, dNot, dAnd, dOr, dNext, dDrop, dCons, dNil, dTup, dLst, dEmp, dEmpG, dPar, dPar3, dSetI, dCall, dCB, dBM, dBM0, dIfE, dNeg, dSl, dPart, dNoP, dAug, addI, dBreak, dCont, dAlt, dYes, dPairs, dDisp, gSubD, dBMd, addD_ii, addD_ss, addD_tt, subD_ii, mulD_ii, modD_ii, fdivD_ii, powD_ii, ltD_ii, leD_ii, gtD_ii, geD_ii, ltD_ss, leD_ss, eqR_ii, eqR_ss, eqR_tt, eqR_bb, abs_ii, max_ii, min_ii, truD_b, slD_t, slD_s, inR_t, List.map, List.length, List.replicate, List.cons_append, List.nil_append, List.append_nil, List.getElem?_cons_succ, List.getElem?_cons_zero, Option.some.injEq, exists_eq_left', exists_eq_left, ex2, ex3, exists_eq', List.set_cons_succ, List.set_cons_zero, Nat.reduceAdd, Nat.reduceSub, true_and, and_true, D.bl.injEq, D.int.injEq, D.str.injEq, D.ptr.injEq, D.tup.injEq, decide_eq_true_eq, beq_iff_eq, Bool.false_eq_true, if_true, if_false, reduceIte, wipeD, List.foldr_cons, List.foldr_nil, Nat.reduceLeDiff, List.cons.injEq, and_self, List.length_cons, List.length_nil]
    have cz1 : (cutL st none (some (at' : Int))).length ≤ 12 := Nat.le_trans cut_len ml
    have cz2 : (cutL st (some (at' : Int)) none).length ≤ 12 := Nat.le_trans cut_len ml
    generalize cutL st none (some (at' : Int)) = u1 at cz1
    generalize cutL st (some (at' : Int)) none = u2 at cz2
    refine ⟨hz, by rw [sizeLine_eq]; omega, hz, by rw [List.length_append, sizeLine_eq]; omega, len_s hz ?_⟩
    try simp only [dSeq, dGetI_eq, Bool.not_true, Bool.not_false, dAsg, dOp, dVar, dC, gNm, gTp, gCn, gNl, dRet, dIf, dTest, dTru, dNot, dAnd, dOr, dNext, dDrop, dCons, dNil, dTup, dLst, dEmp, dEmpG, dPar, dPar3, dSetI, dCall, dCB, dBM, dBM0, dIfE, dNeg, dSl, dPart, dNoP, dAug, addI, dBreak, dCont, dAlt, dYes, dPairs, dDisp, gSubD, dBMd, addD_ii, addD_ss, addD_tt, subD_ii, mulD_ii, modD_ii, fdivD_ii, powD_ii, ltD_ii, leD_ii, gtD_ii, geD_ii, ltD_ss, leD_ss, eqR_ii, eqR_ss, eqR_tt, eqR_bb, abs_ii, max_ii, min_ii, truD_b, slD_t, slD_s, inR_t, List.map, List.length, List.replicate, List.cons_append, List.nil_append, List.append_nil, List.getElem?_cons_succ, List.getElem?_cons_zero, Option.some.injEq, exists_eq_left', exists_eq_left, ex2, ex3, exists_eq', List.set_cons_succ, List.set_cons_zero, Nat.reduceAdd, Nat.reduceSub, true_and, and_true, D.bl.injEq, D.int.injEq, D.str.injEq, D.ptr.injEq, D.tup.injEq, decide_eq_true_eq, beq_iff_eq, Bool.false_eq_true, if_true, if_false, reduceIte, wipeD, List.foldr_cons, List.foldr_nil, Nat.reduceLeDiff, List.cons.injEq, and_self, List.length_cons, List.length_nil]
    refine draw' hP9 (by omega) (by omega) (by omega) fun e C10 he hP10 k10 => ?_
    try simp only [dSeq, dGetI_eq, Bool.not_true, Bool.not_false, dAsg, dOp, dVar, dC, gNm, gTp, gCn, gNl, dRet, dIf, dTest, dTru, dNot, dAnd, dOr, dNext, dDrop, dCons, dNil, dTup, dLst, dEmp, dEmpG, dPar, dPar3, dSetI, dCall, dCB, dBM, dBM0, dIfE, dNeg, dSl, dPart, dNoP, dAug, addI, dBreak, dCont, dAlt, dYes, dPairs, dDisp, gSubD, dBMd, addD_ii, addD_ss, addD_tt, subD_ii, mulD_ii, modD_ii, fdivD_ii, powD_ii, ltD_ii, leD_ii, gtD_ii, geD_ii, ltD_ss, leD_ss, eqR_ii, eqR_ss, eqR_tt, eqR_bb, abs_ii, max_ii, min_ii, truD_b, slD_t, slD_s, inR_t, List.map, List.length, List.replicate, List.cons_append, List.nil_append, List.append_nil, List.getElem?_cons_succ, List.getElem?_cons_zero, Option.some.injEq, exists_eq_left', exists_eq_left, ex2, ex3, exists_eq', List.set_cons_succ, List.set_cons_zero, Nat.reduceAdd, Nat.reduceSub, true_and, and_true, D.bl.injEq, D.int.injEq, D.str.injEq, D.ptr.injEq, D.tup.injEq, decide_eq_true_eq, beq_iff_eq, Bool.false_eq_true, if_true, if_false, reduceIte, wipeD, List.foldr_cons, List.foldr_nil, Nat.reduceLeDiff, List.cons.injEq, and_self, List.length_cons, List.length_nil]
    have cz3 : (cutL st none (some (e : Int))).length ≤ 12 := Nat.le_trans cut_len ml
    generalize cutL st none (some (e : Int)) = u3 at cz3
    refine ⟨hz, by rw [sizeLine_eq]; omega, fun nl hnl => ?_⟩
    have c7 := k10 _ _ n1 c6
    have c8 := k10 _ _ n2 c5
    have d1 : nl ≠ sg := ne_fresh c7 hnl
    have d2 : nl ≠ fd := ne_fresh c8 hnl
    have hP11 : ∀ c, Pot (up C10 nl c) p q (N + 22 + 2 * i + 1 + 1) := fun c => hP10.up (hP10.ne hnl)
    have k11 : ∀ c, Kp (fun r => S2 p q r ∨ r = sg ∨ r = fd) C6 (up C10 nl c) := fun c => (k9.trans (k10.mono fun r h => .inl h)).new hnl
    have fin : ∀ (w : List Nat) (ds : List D), w.length ≤ 100 → ds[way]? = some (.str w) → ixD (.ptr nl) (.int way) (up C10 nl (.lst ds)) fun x C1 => appendR (.ptr fd) [x] C1 fun x C1 => ∃ C'', Sub C'' C1 ∧ ∃ x3 x8 gs fs, (some (D.int ↑i) = x3 ∧ some (D.str sn) = x8) ∧ C'' sg = some (Cell.lst (List.map D.str gs)) ∧ gs.length = 37 - (i + 1) ∧ Short 1 gs ∧ C'' fd = some (Cell.lst (List.map D.str fs)) ∧ fs.length = i + 1 ∧ Short 100 fs ∧ Pot C'' p q (N + 22 + 2 * (i + 1)) ∧ Kp (fun r => S2 p q r ∨ r = sg ∨ r = fd) C6 C'' := by
      intro w ds hw e1
      refine ix_n (.inl up_same) e1 ?_
      refine app_l (at_ne c8 (Ne.symm d2)) (by rw [List.length_map, sizeLine_eq]; omega) ?_
      refine ⟨_, Sub.refl _, _, _, gs.eraseIdx b, fs ++ [w], ⟨rfl, rfl⟩, ?_, ?_, hg', ?_, ?_, ?_, (hP11 _).up n2, (k11 _).put (.inr (.inr rfl))⟩
      · exact at_ne (at_ne c7 (Ne.symm d1)) (Ne.symm g1)
      · rw [List.length_eraseIdx_of_lt hb, lg]; omega
      · rw [up_same, List.map_append]; rfl
      · rw [List.length_append, lf]; rfl
      · intro x hx
        rcases List.mem_append.mp hx with hx | hx
        · exact hf x hx
        · rw [List.mem_singleton.mp hx]; exact hw
    have hw : way = 0 ∨ way = 1 := by omega
    rcases hw with hw | hw
    · subst hw
      exact fin _ _ (by simp only [List.length_append]; omega) rfl
    · subst hw
      exact fin _ _ (by simp only [List.length_append]; omega) rfl
  · obtain ⟨x3, x8, gs, fs, rfl, c3, lg, hg, c4, lf, hf, hP7, k7⟩ := hp
    unfold r__law_marks_1
    try simp only [dSeq, dGetI_eq, Bool.not_true, Bool.not_false, dAsg, dOp, dVar, dC, gNm, gTp, gCn, gNl, dRet, dIf, dTest, dTru, dNot, dAnd, dOr, dNext, dDrop, dCons, dNil, dTup, dLst, dEmp, dEmpG, dPar, dPar3, dSetI, dCall, dCB, dBM, dBM0, dIfE, dNeg, dSl, dPart, dNoP, dAug, addI, dBreak, dCont, dAlt, dYes, dPairs, dDisp, gSubD, dBMd, addD_ii, addD_ss, addD_tt, subD_ii, mulD_ii, modD_ii, fdivD_ii, powD_ii, ltD_ii, leD_ii, gtD_ii, geD_ii, ltD_ss, leD_ss, eqR_ii, eqR_ss, eqR_tt, eqR_bb, abs_ii, max_ii, min_ii, truD_b, slD_t, slD_s, inR_t, List.map, List.length, List.replicate, List.cons_append, List.nil_append, List.append_nil, List.getElem?_cons_succ, List.getElem?_cons_zero, Option.some.injEq, exists_eq_left', exists_eq_left, ex2, ex3, exists_eq', List.set_cons_succ, List.set_cons_zero, Nat.reduceAdd, Nat.reduceSub, true_and, and_true, D.bl.injEq, D.int.injEq, D.str.injEq, D.ptr.injEq, D.tup.injEq, decide_eq_true_eq, beq_iff_eq, Bool.false_eq_true, if_true, if_false, reduceIte, wipeD, List.foldr_cons, List.foldr_nil, Nat.reduceLeDiff, List.cons.injEq, and_self, List.length_cons, List.length_nil]
    refine ⟨C7, Sub.refl _, k fs fd C7 (by rw [rngD_len] at lf; simpa using lf) hf z1 c4 (hP7.mono (by rw [rngD_len]; simp; omega)) fun r c hr e => ?_⟩
    have e1 := k1 _ _ hr e
    have e2 := k16 _ _ hr e1
    refine k7 _ _ ?_ e2
    rintro (h | h | h)
    · exact hr h
    · subst h
      rw [hsg] at e
      cases e
    · subst h
      rw [z1] at e
      cases e
end K06

namespace K06
open PySem PySem.Spec PyProof.Rows KB
open L2 hiding op_eqD op_neD call_listD
variable {C : Cp} {p q : Addr} {N : Nat} {Q : DQ} {E : Exn → Cp → Prop}
theorem putG_len (kvs : List (D × D)) (k v : D) : (putG kvs k v).length ≤ kvs.length + 1 := by
  unfold putG
  split
  · rw [List.length_map]; omega
  · rw [List.length_append]; exact Nat.le_refl _
theorem putG_key {P : D → Prop} {kvs : List (D × D)} {k v : D} (h : ∀ e ∈ kvs, P e.1) (hk : P k) : ∀ e ∈ putG kvs k v, P e.1 := by
  intro e he
  unfold putG at he
  split at he
  · obtain ⟨x, hx, rfl⟩ := List.mem_map.mp he
    have : (if nk x.1 = nk k then (x.1, v) else x).1 = x.1 := by split <;> rfl
    rw [this]
    exact h x hx
  · rcases List.mem_append.mp he with he | he
    · exact h e he
    · rw [List.mem_singleton.mp he]; exact hk
def IsEd (d : D) : Prop := ∃ e : Ed, d = edD e
theorem sorted_eds {xs : List D} (h : ∀ d ∈ xs, IsEd d) : ∃ es : List Ed, xs.mergeSort leP = es.map edD ∧ es.length = xs.length := by
  obtain ⟨es, e⟩ := any_map edD (P := fun _ => True) (xs := xs.mergeSort leP) fun d hd => h d ((List.mergeSort_perm xs leP).mem_iff.mp hd)
  refine ⟨es, e, ?_⟩
  have := congrArg List.length e
  rw [List.length_mergeSort, List.length_map] at this
  exact this.symm
theorem pairs {ms : List (List Nat)} {r : Addr} (hP : Pot C p q N) (hN : N + 300 < 2 ^ 19) (hr : C r = some (.lst (ms.map .str))) (hn : ¬ S2 p q r) (h1 : 0 < ms.length) (h2 : ms.length ≤ 40) (k : ∀ (es : List Ed) C', es.length ≤ 200 → Pot C' p q (N + 200) → Kp (S2 p q) C C' → Q (.tup (es.map edD)) C') : D__law_pairs [.ptr p, .ptr r] C Q E := by
  unfold D__law_pairs runD r__law_pairs
  try simp only [dSeq, dGetI_eq, Bool.not_true, Bool.not_false, dAsg, dOp, dVar, dC, gNm, gTp, gCn, gNl, dRet, dIf, dTest, dTru, dNot, dAnd, dOr, dNext, dDrop, dCons, dNil, dTup, dLst, dEmp, dEmpG, dPar, dPar3, dSetI, dCall, dCB, dBM, dBM0, dIfE, dNeg, dSl, dPart, dNoP, dAug, addI, dBreak, dCont, dAlt, dYes, dPairs, dDisp, gSubD, dBMd, addD_ii, addD_ss, addD_tt, subD_ii, mulD_ii, modD_ii, fdivD_ii, powD_ii, ltD_ii, leD_ii, gtD_ii, geD_ii, ltD_ss, leD_ss, eqR_ii, eqR_ss, eqR_tt, eqR_bb, abs_ii, max_ii, min_ii, truD_b, slD_t, slD_s, inR_t, List.map, List.length, List.replicate, List.cons_append, List.nil_append, List.append_nil, List.getElem?_cons_succ, List.getElem?_cons_zero, Option.some.injEq, exists_eq_left', exists_eq_left, ex2, ex3, exists_eq', List.set_cons_succ, List.set_cons_zero, Nat.reduceAdd, Nat.reduceSub, true_and, and_true, D.bl.injEq, D.int.injEq, D.str.injEq, D.ptr.injEq, D.tup.injEq, decide_eq_true_eq, beq_iff_eq, Bool.false_eq_true, if_true, if_false, reduceIte, wipeD, List.foldr_cons, List.foldr_nil, Nat.reduceLeDiff, List.cons.injEq, and_self, List.length_cons, List.length_nil]
  refine draw' hP (by omega) (by decide) (by decide) fun way C1 hw hP1 k1 => ?_
  intro d hd
  try simp only [dSeq, dGetI_eq, Bool.not_true, Bool.not_false, dAsg, dOp, dVar, dC, gNm, gTp, gCn, gNl, dRet, dIf, dTest, dTru, dNot, dAnd, dOr, dNext, dDrop, dCons, dNil, dTup, dLst, dEmp, dEmpG, dPar, dPar3, dSetI, dCall, dCB, dBM, dBM0, dIfE, dNeg, dSl, dPart, dNoP, dAug, addI, dBreak, dCont, dAlt, dYes, dPairs, dDisp, gSubD, dBMd, addD_ii, addD_ss, addD_tt, subD_ii, mulD_ii, modD_ii, fdivD_ii, powD_ii, ltD_ii, leD_ii, gtD_ii, geD_ii, ltD_ss, leD_ss, eqR_ii, eqR_ss, eqR_tt, eqR_bb, abs_ii, max_ii, min_ii, truD_b, slD_t, slD_s, inR_t, List.map, List.length, List.replicate, List.cons_append, List.nil_append, List.append_nil, List.getElem?_cons_succ, List.getElem?_cons_zero, Option.some.injEq, exists_eq_left', exists_eq_left, ex2, ex3, exists_eq', List.set_cons_succ, List.set_cons_zero, Nat.reduceAdd, Nat.reduceSub, true_and, and_true, D.bl.injEq, D.int.injEq, D.str.injEq, D.ptr.injEq, D.tup.injEq, decide_eq_true_eq, beq_iff_eq, Bool.false_eq_true, if_true, if_false, reduceIte, wipeD, List.foldr_cons, List.foldr_nil, Nat.reduceLeDiff, List.cons.injEq, and_self, List.length_cons, List.length_nil]
  have r1 := k1 _ _ hn hr
  have dr : d ≠ r := ne_fresh r1 hd
  have nd := hP1.ne hd
  have hP2 : Pot (up C1 d (.dg [])) p q (N + 1) := hP1.up nd
  have k2 : Kp (S2 p q) C (up C1 d (.dg [])) := k1.new hd
  have r2 : (up C1 d (.dg [])) r = some (.lst (ms.map .str)) := at_ne r1 (Ne.symm dr)
  have d2 : (up C1 d (.dg [])) d = some (.dg []) := up_same
  have zd : ∀ c, C d ≠ some c := fun c e => by rw [k1 _ _ nd e] at hd; cases hd
  generalize up C1 d (.dg []) = C2 at hP2 k2 r2 d2
  unfold dFor
  try unfold dRng1
  try simp only [dSeq, dGetI_eq, Bool.not_true, Bool.not_false, dAsg, dOp, dVar, dC, gNm, gTp, gCn, gNl, dRet, dIf, dTest, dTru, dNot, dAnd, dOr, dNext, dDrop, dCons, dNil, dTup, dLst, dEmp, dEmpG, dPar, dPar3, dSetI, dCall, dCB, dBM, dBM0, dIfE, dNeg, dSl, dPart, dNoP, dAug, addI, dBreak, dCont, dAlt, dYes, dPairs, dDisp, gSubD, dBMd, addD_ii, addD_ss, addD_tt, subD_ii, mulD_ii, modD_ii, fdivD_ii, powD_ii, ltD_ii, leD_ii, gtD_ii, geD_ii, ltD_ss, leD_ss, eqR_ii, eqR_ss, eqR_tt, eqR_bb, abs_ii, max_ii, min_ii, truD_b, slD_t, slD_s, inR_t, List.map, List.length, List.replicate, List.cons_append, List.nil_append, List.append_nil, List.getElem?_cons_succ, List.getElem?_cons_zero, Option.some.injEq, exists_eq_left', exists_eq_left, ex2, ex3, exists_eq', List.set_cons_succ, List.set_cons_zero, Nat.reduceAdd, Nat.reduceSub, true_and, and_true, D.bl.injEq, D.int.injEq, D.str.injEq, D.ptr.injEq, D.tup.injEq, decide_eq_true_eq, beq_iff_eq, Bool.false_eq_true, if_true, if_false, reduceIte, wipeD, List.foldr_cons, List.foldr_nil, Nat.reduceLeDiff, List.cons.injEq, and_self, List.length_cons, List.length_nil]
  refine len_l (.inl r2) ?_
  try simp only [dSeq, dGetI_eq, Bool.not_true, Bool.not_false, dAsg, dOp, dVar, dC, gNm, gTp, gCn, gNl, dRet, dIf, dTest, dTru, dNot, dAnd, dOr, dNext, dDrop, dCons, dNil, dTup, dLst, dEmp, dEmpG, dPar, dPar3, dSetI, dCall, dCB, dBM, dBM0, dIfE, dNeg, dSl, dPart, dNoP, dAug, addI, dBreak, dCont, dAlt, dYes, dPairs, dDisp, gSubD, dBMd, addD_ii, addD_ss, addD_tt, subD_ii, mulD_ii, modD_ii, fdivD_ii, powD_ii, ltD_ii, leD_ii, gtD_ii, geD_ii, ltD_ss, leD_ss, eqR_ii, eqR_ss, eqR_tt, eqR_bb, abs_ii, max_ii, min_ii, truD_b, slD_t, slD_s, inR_t, List.map, List.length, List.replicate, List.cons_append, List.nil_append, List.append_nil, List.getElem?_cons_succ, List.getElem?_cons_zero, Option.some.injEq, exists_eq_left', exists_eq_left, ex2, ex3, exists_eq', List.set_cons_succ, List.set_cons_zero, Nat.reduceAdd, Nat.reduceSub, true_and, and_true, D.bl.injEq, D.int.injEq, D.str.injEq, D.ptr.injEq, D.tup.injEq, decide_eq_true_eq, beq_iff_eq, Bool.false_eq_true, if_true, if_false, reduceIte, wipeD, List.foldr_cons, List.foldr_nil, Nat.reduceLeDiff, List.cons.injEq, and_self, List.length_cons, List.length_nil]
  rw [List.length_map]
  refine ⟨by omega, by omega, ?_⟩
  have et : ((ms.length : Int) - 1).toNat = ms.length - 1 := by omega
  rw [et]
  refine ⟨fun i sl C' => ∃ (x2 x5 : Option D) (kvs : List (D × D)), sl = [some (.ptr p), some (.ptr r), x2, some (.int way), some (.ptr d), x5] ∧ C' d = some (.dg kvs) ∧ (∀ e ∈ kvs, IsEd e.1) ∧ kvs.length ≤ 3 * i ∧ Pot C' p q (N + 1 + 4 * i) ∧ Kp (fun x => S2 p q x ∨ x = d) C2 C',
    ⟨none, none, [], rfl, d2, by simp, Nat.zero_le _, hP2, Kp.refl _⟩, fun _ _ _ _ _ => trivial, fun i x sl C3 e hp => ?_, fun sl C3 hp => ?_⟩
  · obtain ⟨hi, rfl⟩ := rng_at e
    obtain ⟨x2, x5, kvs, rfl, d3, hk, lk, hP3, k3⟩ := hp
    unfold l__law_pairs_2
    have nr : ¬ (S2 p q r ∨ r = d) := fun h => h.elim hn fun e => dr e.symm
    have r3 := k3 _ _ nr r2
    have g1 : ms[i]? = some ms[i] := List.getElem?_eq_getElem (by omega)
    have m1 : (ms.map D.str)[i]? = some (.str ms[i]) := by rw [List.getElem?_map, g1]; rfl
    try simp only [dSeq, dGetI_eq, Bool.not_true, Bool.not_false, dAsg, dOp, dVar, dC, gNm, gTp, gCn, gNl, dRet, dIf, dTest, dTru, dNot, dAnd, dOr, dNext, dDrop, dCons, dNil, dTup, dLst, dEmp, dEmpG, dPar, dPar3, dSetI, dCall, dCB, dBM, dBM0, dIfE, dNeg, dSl, dPart, dNoP, dAug, addI, dBreak, dCont, dAlt, dYes, dPairs, dDisp, gSubD, dBMd, addD_ii, addD_ss, addD_tt, subD_ii, mulD_ii, modD_ii, fdivD_ii, powD_ii, ltD_ii, leD_ii, gtD_ii, geD_ii, ltD_ss, leD_ss, eqR_ii, eqR_ss, eqR_tt, eqR_bb, abs_ii, max_ii, min_ii, truD_b, slD_t, slD_s, inR_t, List.map, List.length, List.replicate, List.cons_append, List.nil_append, List.append_nil, List.getElem?_cons_succ, List.getElem?_cons_zero, Option.some.injEq, exists_eq_left', exists_eq_left, ex2, ex3, exists_eq', List.set_cons_succ, List.set_cons_zero, Nat.reduceAdd, Nat.reduceSub, true_and, and_true, D.bl.injEq, D.int.injEq, D.str.injEq, D.ptr.injEq, D.tup.injEq, decide_eq_true_eq, beq_iff_eq, Bool.false_eq_true, if_true, if_false, reduceIte, wipeD, List.foldr_cons, List.foldr_nil, Nat.reduceLeDiff, List.cons.injEq, and_self, List.length_cons, List.length_nil]
    split
    · refine ix_n (.inl r3) m1 ?_
      try simp only [dSeq, dGetI_eq, Bool.not_true, Bool.not_false, dAsg, dOp, dVar, dC, gNm, gTp, gCn, gNl, dRet, dIf, dTest, dTru, dNot, dAnd, dOr, dNext, dDrop, dCons, dNil, dTup, dLst, dEmp, dEmpG, dPar, dPar3, dSetI, dCall, dCB, dBM, dBM0, dIfE, dNeg, dSl, dPart, dNoP, dAug, addI, dBreak, dCont, dAlt, dYes, dPairs, dDisp, gSubD, dBMd, addD_ii, addD_ss, addD_tt, subD_ii, mulD_ii, modD_ii, fdivD_ii, powD_ii, ltD_ii, leD_ii, gtD_ii, geD_ii, ltD_ss, leD_ss, eqR_ii, eqR_ss, eqR_tt, eqR_bb, abs_ii, max_ii, min_ii, truD_b, slD_t, slD_s, inR_t, List.map, List.length, List.replicate, List.cons_append, List.nil_append, List.append_nil, List.getElem?_cons_succ, List.getElem?_cons_zero, Option.some.injEq, exists_eq_left', exists_eq_left, ex2, ex3, exists_eq', List.set_cons_succ, List.set_cons_zero, Nat.reduceAdd, Nat.reduceSub, true_and, and_true, D.bl.injEq, D.int.injEq, D.str.injEq, D.ptr.injEq, D.tup.injEq, decide_eq_true_eq, beq_iff_eq, Bool.false_eq_true, if_true, if_false, reduceIte, wipeD, List.foldr_cons, List.foldr_nil, Nat.reduceLeDiff, List.cons.injEq, and_self, List.length_cons, List.length_nil]
      rw [show ((i : Int) + 1) = ((i + 1 : Nat) : Int) by omega]
      refine ix_n (.inl r3) (d := .str ms[i + 1]) (by rw [List.getElem?_map, List.getElem?_eq_getElem (by omega)]; rfl) ?_
      try simp only [dSeq, dGetI_eq, Bool.not_true, Bool.not_false, dAsg, dOp, dVar, dC, gNm, gTp, gCn, gNl, dRet, dIf, dTest, dTru, dNot, dAnd, dOr, dNext, dDrop, dCons, dNil, dTup, dLst, dEmp, dEmpG, dPar, dPar3, dSetI, dCall, dCB, dBM, dBM0, dIfE, dNeg, dSl, dPart, dNoP, dAug, addI, dBreak, dCont, dAlt, dYes, dPairs, dDisp, gSubD, dBMd, addD_ii, addD_ss, addD_tt, subD_ii, mulD_ii, modD_ii, fdivD_ii, powD_ii, ltD_ii, leD_ii, gtD_ii, geD_ii, ltD_ss, leD_ss, eqR_ii, eqR_ss, eqR_tt, eqR_bb, abs_ii, max_ii, min_ii, truD_b, slD_t, slD_s, inR_t, List.map, List.length, List.replicate, List.cons_append, List.nil_append, List.append_nil, List.getElem?_cons_succ, List.getElem?_cons_zero, Option.some.injEq, exists_eq_left', exists_eq_left, ex2, ex3, exists_eq', List.set_cons_succ, List.set_cons_zero, Nat.reduceAdd, Nat.reduceSub, true_and, and_true, D.bl.injEq, D.int.injEq, D.str.injEq, D.ptr.injEq, D.tup.injEq, decide_eq_true_eq, beq_iff_eq, Bool.false_eq_true, if_true, if_false, reduceIte, wipeD, List.foldr_cons, List.foldr_nil, Nat.reduceLeDiff, List.cons.injEq, and_self, List.length_cons, List.length_nil]
      refine put_g (y := edD (ms[i], ms[i + 1])) d3 (keyG_ed (ms[i], ms[i + 1])) (by rw [sizeLine_eq]; omega) ?_
      have := putG_len kvs (edD (ms[i], ms[i + 1])) (.bl true)
      exact ⟨_, Sub.refl _, _, _, _, ⟨rfl, rfl⟩, up_same, putG_key hk ⟨_, rfl⟩, by omega, (hP3.up nd).mono (by omega), k3.put (.inr rfl)⟩
    · try simp only [dSeq, dGetI_eq, Bool.not_true, Bool.not_false, dAsg, dOp, dVar, dC, gNm, gTp, gCn, gNl, dRet, dIf, dTest, dTru, dNot, dAnd, dOr, dNext, dDrop, dCons, dNil, dTup, dLst, dEmp, dEmpG, dPar, dPar3, dSetI, dCall, dCB, dBM, dBM0, dIfE, dNeg, dSl, dPart, dNoP, dAug, addI, dBreak, dCont, dAlt, dYes, dPairs, dDisp, gSubD, dBMd, addD_ii, addD_ss, addD_tt, subD_ii, mulD_ii, modD_ii, fdivD_ii, powD_ii, ltD_ii, leD_ii, gtD_ii, geD_ii, ltD_ss, leD_ss, eqR_ii, eqR_ss, eqR_tt, eqR_bb, abs_ii, max_ii, min_ii, truD_b, slD_t, slD_s, inR_t, List.map, List.length, List.replicate, List.cons_append, List.nil_append, List.append_nil, List.getElem?_cons_succ, List.getElem?_cons_zero, Option.some.injEq, exists_eq_left', exists_eq_left, ex2, ex3, exists_eq', List.set_cons_succ, List.set_cons_zero, Nat.reduceAdd, Nat.reduceSub, true_and, and_true, D.bl.injEq, D.int.injEq, D.str.injEq, D.ptr.injEq, D.tup.injEq, decide_eq_true_eq, beq_iff_eq, Bool.false_eq_true, if_true, if_false, reduceIte, wipeD, List.foldr_cons, List.foldr_nil, Nat.reduceLeDiff, List.cons.injEq, and_self, List.length_cons, List.length_nil]
      split
      · refine ix_n (.inl r3) m1 ?_
        try simp only [dSeq, dGetI_eq, Bool.not_true, Bool.not_false, dAsg, dOp, dVar, dC, gNm, gTp, gCn, gNl, dRet, dIf, dTest, dTru, dNot, dAnd, dOr, dNext, dDrop, dCons, dNil, dTup, dLst, dEmp, dEmpG, dPar, dPar3, dSetI, dCall, dCB, dBM, dBM0, dIfE, dNeg, dSl, dPart, dNoP, dAug, addI, dBreak, dCont, dAlt, dYes, dPairs, dDisp, gSubD, dBMd, addD_ii, addD_ss, addD_tt, subD_ii, mulD_ii, modD_ii, fdivD_ii, powD_ii, ltD_ii, leD_ii, gtD_ii, geD_ii, ltD_ss, leD_ss, eqR_ii, eqR_ss, eqR_tt, eqR_bb, abs_ii, max_ii, min_ii, truD_b, slD_t, slD_s, inR_t, List.map, List.length, List.replicate, List.cons_append, List.nil_append, List.append_nil, List.getElem?_cons_succ, List.getElem?_cons_zero, Option.some.injEq, exists_eq_left', exists_eq_left, ex2, ex3, exists_eq', List.set_cons_succ, List.set_cons_zero, Nat.reduceAdd, Nat.reduceSub, true_and, and_true, D.bl.injEq, D.int.injEq, D.str.injEq, D.ptr.injEq, D.tup.injEq, decide_eq_true_eq, beq_iff_eq, Bool.false_eq_true, if_true, if_false, reduceIte, wipeD, List.foldr_cons, List.foldr_nil, Nat.reduceLeDiff, List.cons.injEq, and_self, List.length_cons, List.length_nil]
        refine ix_l (.inl r3) (d := .str ms[ms.length - 1]) ?_ ?_
        · unfold atI ixN
          rw [if_neg (by decide), List.length_map, if_pos (by omega)]
          show (ms.map D.str)[(-1 + (ms.length : Int)).toNat]? = _
          rw [show (-1 + (ms.length : Int)).toNat = ms.length - 1 by omega, List.getElem?_map, List.getElem?_eq_getElem (by omega)]
          rfl
        try simp only [dSeq, dGetI_eq, Bool.not_true, Bool.not_false, dAsg, dOp, dVar, dC, gNm, gTp, gCn, gNl, dRet, dIf, dTest, dTru, dNot, dAnd, dOr, dNext, dDrop, dCons, dNil, dTup, dLst, dEmp, dEmpG, dPar, dPar3, dSetI, dCall, dCB, dBM, dBM0, dIfE, dNeg, dSl, dPart, dNoP, dAug, addI, dBreak, dCont, dAlt, dYes, dPairs, dDisp, gSubD, dBMd, addD_ii, addD_ss, addD_tt, subD_ii, mulD_ii, modD_ii, fdivD_ii, powD_ii, ltD_ii, leD_ii, gtD_ii, geD_ii, ltD_ss, leD_ss, eqR_ii, eqR_ss, eqR_tt, eqR_bb, abs_ii, max_ii, min_ii, truD_b, slD_t, slD_s, inR_t, List.map, List.length, List.replicate, List.cons_append, List.nil_append, List.append_nil, List.getElem?_cons_succ, List.getElem?_cons_zero, Option.some.injEq, exists_eq_left', exists_eq_left, ex2, ex3, exists_eq', List.set_cons_succ, List.set_cons_zero, Nat.reduceAdd, Nat.reduceSub, true_and, and_true, D.bl.injEq, D.int.injEq, D.str.injEq, D.ptr.injEq, D.tup.injEq, decide_eq_true_eq, beq_iff_eq, Bool.false_eq_true, if_true, if_false, reduceIte, wipeD, List.foldr_cons, List.foldr_nil, Nat.reduceLeDiff, List.cons.injEq, and_self, List.length_cons, List.length_nil]
        refine put_g (y := edD (ms[i], ms[ms.length - 1])) d3 (keyG_ed (ms[i], ms[ms.length - 1])) (by rw [sizeLine_eq]; omega) ?_
        have := putG_len kvs (edD (ms[i], ms[ms.length - 1])) (.bl true)
        exact ⟨_, Sub.refl _, _, _, _, ⟨rfl, rfl⟩, up_same, putG_key hk ⟨_, rfl⟩, by omega, (hP3.up nd).mono (by omega), k3.put (.inr rfl)⟩
      · unfold dFor
        try unfold dRng1
        try simp only [dSeq, dGetI_eq, Bool.not_true, Bool.not_false, dAsg, dOp, dVar, dC, gNm, gTp, gCn, gNl, dRet, dIf, dTest, dTru, dNot, dAnd, dOr, dNext, dDrop, dCons, dNil, dTup, dLst, dEmp, dEmpG, dPar, dPar3, dSetI, dCall, dCB, dBM, dBM0, dIfE, dNeg, dSl, dPart, dNoP, dAug, addI, dBreak, dCont, dAlt, dYes, dPairs, dDisp, gSubD, dBMd, addD_ii, addD_ss, addD_tt, subD_ii, mulD_ii, modD_ii, fdivD_ii, powD_ii, ltD_ii, leD_ii, gtD_ii, geD_ii, ltD_ss, leD_ss, eqR_ii, eqR_ss, eqR_tt, eqR_bb, abs_ii, max_ii, min_ii, truD_b, slD_t, slD_s, inR_t, List.map, List.length, List.replicate, List.cons_append, List.nil_append, List.append_nil, List.getElem?_cons_succ, List.getElem?_cons_zero, Option.some.injEq, exists_eq_left', exists_eq_left, ex2, ex3, exists_eq', List.set_cons_succ, List.set_cons_zero, Nat.reduceAdd, Nat.reduceSub, true_and, and_true, D.bl.injEq, D.int.injEq, D.str.injEq, D.ptr.injEq, D.tup.injEq, decide_eq_true_eq, beq_iff_eq, Bool.false_eq_true, if_true, if_false, reduceIte, wipeD, List.foldr_cons, List.foldr_nil, Nat.reduceLeDiff, List.cons.injEq, and_self, List.length_cons, List.length_nil]
        rename_i w0 w1
        have w2 : 2 ≤ way := by omega
        refine draw' hP3 (by omega) (by omega) (by omega) fun t C4 ht hP4 k4 => ?_
        try simp only [dSeq, dGetI_eq, Bool.not_true, Bool.not_false, dAsg, dOp, dVar, dC, gNm, gTp, gCn, gNl, dRet, dIf, dTest, dTru, dNot, dAnd, dOr, dNext, dDrop, dCons, dNil, dTup, dLst, dEmp, dEmpG, dPar, dPar3, dSetI, dCall, dCB, dBM, dBM0, dIfE, dNeg, dSl, dPart, dNoP, dAug, addI, dBreak, dCont, dAlt, dYes, dPairs, dDisp, gSubD, dBMd, addD_ii, addD_ss, addD_tt, subD_ii, mulD_ii, modD_ii, fdivD_ii, powD_ii, ltD_ii, leD_ii, gtD_ii, geD_ii, ltD_ss, leD_ss, eqR_ii, eqR_ss, eqR_tt, eqR_bb, abs_ii, max_ii, min_ii, truD_b, slD_t, slD_s, inR_t, List.map, List.length, List.replicate, List.cons_append, List.nil_append, List.append_nil, List.getElem?_cons_succ, List.getElem?_cons_zero, Option.some.injEq, exists_eq_left', exists_eq_left, ex2, ex3, exists_eq', List.set_cons_succ, List.set_cons_zero, Nat.reduceAdd, Nat.reduceSub, true_and, and_true, D.bl.injEq, D.int.injEq, D.str.injEq, D.ptr.injEq, D.tup.injEq, decide_eq_true_eq, beq_iff_eq, Bool.false_eq_true, if_true, if_false, reduceIte, wipeD, List.foldr_cons, List.foldr_nil, Nat.reduceLeDiff, List.cons.injEq, and_self, List.length_cons, List.length_nil]
        refine ⟨by omega, by omega, ?_⟩
        refine ⟨fun j sl C' => ∃ (x5 : Option D) (kvs' : List (D × D)), sl = [some (.ptr p), some (.ptr r), some (.int i), some (.int way), some (.ptr d), x5] ∧ C' d = some (.dg kvs') ∧ (∀ e ∈ kvs', IsEd e.1) ∧ kvs'.length ≤ 3 * i + j ∧ Pot C' p q (N + 1 + 4 * i + 1 + j) ∧ Kp (fun x => S2 p q x ∨ x = d) C2 C',
          ⟨_, kvs, rfl, k4 _ _ nd d3, hk, lk, hP4, k3.trans (k4.mono fun r h => .inl h)⟩, fun _ _ _ _ _ => trivial, fun j x sl C5 e hp => ?_, fun sl C5 hp => ?_⟩
        · obtain ⟨hj, rfl⟩ := rng_at e
          obtain ⟨y5, kvs', rfl, d5, hk5, lk5, hP5, k5⟩ := hp
          unfold l__law_pairs_1
          try simp only [dSeq, dGetI_eq, Bool.not_true, Bool.not_false, dAsg, dOp, dVar, dC, gNm, gTp, gCn, gNl, dRet, dIf, dTest, dTru, dNot, dAnd, dOr, dNext, dDrop, dCons, dNil, dTup, dLst, dEmp, dEmpG, dPar, dPar3, dSetI, dCall, dCB, dBM, dBM0, dIfE, dNeg, dSl, dPart, dNoP, dAug, addI, dBreak, dCont, dAlt, dYes, dPairs, dDisp, gSubD, dBMd, addD_ii, addD_ss, addD_tt, subD_ii, mulD_ii, modD_ii, fdivD_ii, powD_ii, ltD_ii, leD_ii, gtD_ii, geD_ii, ltD_ss, leD_ss, eqR_ii, eqR_ss, eqR_tt, eqR_bb, abs_ii, max_ii, min_ii, truD_b, slD_t, slD_s, inR_t, List.map, List.length, List.replicate, List.cons_append, List.nil_append, List.append_nil, List.getElem?_cons_succ, List.getElem?_cons_zero, Option.some.injEq, exists_eq_left', exists_eq_left, ex2, ex3, exists_eq', List.set_cons_succ, List.set_cons_zero, Nat.reduceAdd, Nat.reduceSub, true_and, and_true, D.bl.injEq, D.int.injEq, D.str.injEq, D.ptr.injEq, D.tup.injEq, decide_eq_true_eq, beq_iff_eq, Bool.false_eq_true, if_true, if_false, reduceIte, wipeD, List.foldr_cons, List.foldr_nil, Nat.reduceLeDiff, List.cons.injEq, and_self, List.length_cons, List.length_nil]
          have r5 := k5 _ _ nr r2
          refine ix_n (.inl r5) m1 ?_
          try simp only [dSeq, dGetI_eq, Bool.not_true, Bool.not_false, dAsg, dOp, dVar, dC, gNm, gTp, gCn, gNl, dRet, dIf, dTest, dTru, dNot, dAnd, dOr, dNext, dDrop, dCons, dNil, dTup, dLst, dEmp, dEmpG, dPar, dPar3, dSetI, dCall, dCB, dBM, dBM0, dIfE, dNeg, dSl, dPart, dNoP, dAug, addI, dBreak, dCont, dAlt, dYes, dPairs, dDisp, gSubD, dBMd, addD_ii, addD_ss, addD_tt, subD_ii, mulD_ii, modD_ii, fdivD_ii, powD_ii, ltD_ii, leD_ii, gtD_ii, geD_ii, ltD_ss, leD_ss, eqR_ii, eqR_ss, eqR_tt, eqR_bb, abs_ii, max_ii, min_ii, truD_b, slD_t, slD_s, inR_t, List.map, List.length, List.replicate, List.cons_append, List.nil_append, List.append_nil, List.getElem?_cons_succ, List.getElem?_cons_zero, Option.some.injEq, exists_eq_left', exists_eq_left, ex2, ex3, exists_eq', List.set_cons_succ, List.set_cons_zero, Nat.reduceAdd, Nat.reduceSub, true_and, and_true, D.bl.injEq, D.int.injEq, D.str.injEq, D.ptr.injEq, D.tup.injEq, decide_eq_true_eq, beq_iff_eq, Bool.false_eq_true, if_true, if_false, reduceIte, wipeD, List.foldr_cons, List.foldr_nil, Nat.reduceLeDiff, List.cons.injEq, and_self, List.length_cons, List.length_nil]
          refine len_l (.inl r5) ?_
          try simp only [dSeq, dGetI_eq, Bool.not_true, Bool.not_false, dAsg, dOp, dVar, dC, gNm, gTp, gCn, gNl, dRet, dIf, dTest, dTru, dNot, dAnd, dOr, dNext, dDrop, dCons, dNil, dTup, dLst, dEmp, dEmpG, dPar, dPar3, dSetI, dCall, dCB, dBM, dBM0, dIfE, dNeg, dSl, dPart, dNoP, dAug, addI, dBreak, dCont, dAlt, dYes, dPairs, dDisp, gSubD, dBMd, addD_ii, addD_ss, addD_tt, subD_ii, mulD_ii, modD_ii, fdivD_ii, powD_ii, ltD_ii, leD_ii, gtD_ii, geD_ii, ltD_ss, leD_ss, eqR_ii, eqR_ss, eqR_tt, eqR_bb, abs_ii, max_ii, min_ii, truD_b, slD_t, slD_s, inR_t, List.map, List.length, List.replicate, List.cons_append, List.nil_append, List.append_nil, List.getElem?_cons_succ, List.getElem?_cons_zero, Option.some.injEq, exists_eq_left', exists_eq_left, ex2, ex3, exists_eq', List.set_cons_succ, List.set_cons_zero, Nat.reduceAdd, Nat.reduceSub, true_and, and_true, D.bl.injEq, D.int.injEq, D.str.injEq, D.ptr.injEq, D.tup.injEq, decide_eq_true_eq, beq_iff_eq, Bool.false_eq_true, if_true, if_false, reduceIte, wipeD, List.foldr_cons, List.foldr_nil, Nat.reduceLeDiff, List.cons.injEq, and_self, List.length_cons, List.length_nil]
          rw [List.length_map]
          have hj : j < t := by simpa using hj
          refine draw' hP5 (by omega) (by omega) (by omega) fun u C6 hu hP6 k6 => ?_
          try simp only [dSeq, dGetI_eq, Bool.not_true, Bool.not_false, dAsg, dOp, dVar, dC, gNm, gTp, gCn, gNl, dRet, dIf, dTest, dTru, dNot, dAnd, dOr, dNext, dDrop, dCons, dNil, dTup, dLst, dEmp, dEmpG, dPar, dPar3, dSetI, dCall, dCB, dBM, dBM0, dIfE, dNeg, dSl, dPart, dNoP, dAug, addI, dBreak, dCont, dAlt, dYes, dPairs, dDisp, gSubD, dBMd, addD_ii, addD_ss, addD_tt, subD_ii, mulD_ii, modD_ii, fdivD_ii, powD_ii, ltD_ii, leD_ii, gtD_ii, geD_ii, ltD_ss, leD_ss, eqR_ii, eqR_ss, eqR_tt, eqR_bb, abs_ii, max_ii, min_ii, truD_b, slD_t, slD_s, inR_t, List.map, List.length, List.replicate, List.cons_append, List.nil_append, List.append_nil, List.getElem?_cons_succ, List.getElem?_cons_zero, Option.some.injEq, exists_eq_left', exists_eq_left, ex2, ex3, exists_eq', List.set_cons_succ, List.set_cons_zero, Nat.reduceAdd, Nat.reduceSub, true_and, and_true, D.bl.injEq, D.int.injEq, D.str.injEq, D.ptr.injEq, D.tup.injEq, decide_eq_true_eq, beq_iff_eq, Bool.false_eq_true, if_true, if_false, reduceIte, wipeD, List.foldr_cons, List.foldr_nil, Nat.reduceLeDiff, List.cons.injEq, and_self, List.length_cons, List.length_nil]
          rw [show ((i : Int) + 1 + u) = ((i + 1 + u : Nat) : Int) by omega]
          refine ix_n (.inl (k6 _ _ hn r5)) (d := .str ms[i + 1 + u]) (by rw [List.getElem?_map, List.getElem?_eq_getElem (by omega)]; rfl) ?_
          try simp only [dSeq, dGetI_eq, Bool.not_true, Bool.not_false, dAsg, dOp, dVar, dC, gNm, gTp, gCn, gNl, dRet, dIf, dTest, dTru, dNot, dAnd, dOr, dNext, dDrop, dCons, dNil, dTup, dLst, dEmp, dEmpG, dPar, dPar3, dSetI, dCall, dCB, dBM, dBM0, dIfE, dNeg, dSl, dPart, dNoP, dAug, addI, dBreak, dCont, dAlt, dYes, dPairs, dDisp, gSubD, dBMd, addD_ii, addD_ss, addD_tt, subD_ii, mulD_ii, modD_ii, fdivD_ii, powD_ii, ltD_ii, leD_ii, gtD_ii, geD_ii, ltD_ss, leD_ss, eqR_ii, eqR_ss, eqR_tt, eqR_bb, abs_ii, max_ii, min_ii, truD_b, slD_t, slD_s, inR_t, List.map, List.length, List.replicate, List.cons_append, List.nil_append, List.append_nil, List.getElem?_cons_succ, List.getElem?_cons_zero, Option.some.injEq, exists_eq_left', exists_eq_left, ex2, ex3, exists_eq', List.set_cons_succ, List.set_cons_zero, Nat.reduceAdd, Nat.reduceSub, true_and, and_true, D.bl.injEq, D.int.injEq, D.str.injEq, D.ptr.injEq, D.tup.injEq, decide_eq_true_eq, beq_iff_eq, Bool.false_eq_true, if_true, if_false, reduceIte, wipeD, List.foldr_cons, List.foldr_nil, Nat.reduceLeDiff, List.cons.injEq, and_self, List.length_cons, List.length_nil]
          refine put_g (y := edD (ms[i], ms[i + 1 + u])) (k6 _ _ nd d5) (keyG_ed (ms[i], ms[i + 1 + u])) (by rw [sizeLine_eq]; omega) ?_
          have := putG_len kvs' (edD (ms[i], ms[i + 1 + u])) (.bl true)
          exact ⟨_, Sub.refl _, _, _, rfl, up_same, putG_key hk5 ⟨_, rfl⟩, by omega, (hP6.up nd).mono (by omega), (k5.trans (k6.mono fun r h => .inl h)).put (.inr rfl)⟩
        · obtain ⟨y5, kvs', rfl, d5, hk5, lk5, hP5, k5⟩ := hp
          rw [rngD_len] at lk5 hP5
          have : t ≤ 2 := by omega
          simp at lk5 hP5
          exact ⟨_, Sub.refl _, _, _, _, rfl, d5, hk5, by omega, hP5.mono (by omega), k5⟩
  · obtain ⟨x2, x5, kvs, rfl, d3, hk, lk, hP3, k3⟩ := hp
    rw [rngD_len] at lk hP3
    unfold r__law_pairs_1
    try simp only [dSeq, dGetI_eq, Bool.not_true, Bool.not_false, dAsg, dOp, dVar, dC, gNm, gTp, gCn, gNl, dRet, dIf, dTest, dTru, dNot, dAnd, dOr, dNext, dDrop, dCons, dNil, dTup, dLst, dEmp, dEmpG, dPar, dPar3, dSetI, dCall, dCB, dBM, dBM0, dIfE, dNeg, dSl, dPart, dNoP, dAug, addI, dBreak, dCont, dAlt, dYes, dPairs, dDisp, gSubD, dBMd, addD_ii, addD_ss, addD_tt, subD_ii, mulD_ii, modD_ii, fdivD_ii, powD_ii, ltD_ii, leD_ii, gtD_ii, geD_ii, ltD_ss, leD_ss, eqR_ii, eqR_ss, eqR_tt, eqR_bb, abs_ii, max_ii, min_ii, truD_b, slD_t, slD_s, inR_t, List.map, List.length, List.replicate, List.cons_append, List.nil_append, List.append_nil, List.getElem?_cons_succ, List.getElem?_cons_zero, Option.some.injEq, exists_eq_left', exists_eq_left, ex2, ex3, exists_eq', List.set_cons_succ, List.set_cons_zero, Nat.reduceAdd, Nat.reduceSub, true_and, and_true, D.bl.injEq, D.int.injEq, D.str.injEq, D.ptr.injEq, D.tup.injEq, decide_eq_true_eq, beq_iff_eq, Bool.false_eq_true, if_true, if_false, reduceIte, wipeD, List.foldr_cons, List.foldr_nil, Nat.reduceLeDiff, List.cons.injEq, and_self, List.length_cons, List.length_nil]
    have hk' : ∀ d ∈ kvs.map (·.1), IsEd d := fun d hd => by
      obtain ⟨e, he, rfl⟩ := List.mem_map.mp hd
      exact hk e he
    obtain ⟨ks, ek⟩ := any_map edD (P := fun _ => True) hk'
    obtain ⟨es, e1, e2⟩ := sorted_eds hk'
    refine sorted_l (xs := kvs.map (·.1)) (.inr (.inr ⟨kvs, d3, rfl⟩)) (by rw [ek]; exact sortOk_eds ks) fun z hz => ?_
    rw [e1]
    try simp only [dSeq, dGetI_eq, Bool.not_true, Bool.not_false, dAsg, dOp, dVar, dC, gNm, gTp, gCn, gNl, dRet, dIf, dTest, dTru, dNot, dAnd, dOr, dNext, dDrop, dCons, dNil, dTup, dLst, dEmp, dEmpG, dPar, dPar3, dSetI, dCall, dCB, dBM, dBM0, dIfE, dNeg, dSl, dPart, dNoP, dAug, addI, dBreak, dCont, dAlt, dYes, dPairs, dDisp, gSubD, dBMd, addD_ii, addD_ss, addD_tt, subD_ii, mulD_ii, modD_ii, fdivD_ii, powD_ii, ltD_ii, leD_ii, gtD_ii, geD_ii, ltD_ss, leD_ss, eqR_ii, eqR_ss, eqR_tt, eqR_bb, abs_ii, max_ii, min_ii, truD_b, slD_t, slD_s, inR_t, List.map, List.length, List.replicate, List.cons_append, List.nil_append, List.append_nil, List.getElem?_cons_succ, List.getElem?_cons_zero, Option.some.injEq, exists_eq_left', exists_eq_left, ex2, ex3, exists_eq', List.set_cons_succ, List.set_cons_zero, Nat.reduceAdd, Nat.reduceSub, true_and, and_true, D.bl.injEq, D.int.injEq, D.str.injEq, D.ptr.injEq, D.tup.injEq, decide_eq_true_eq, beq_iff_eq, Bool.false_eq_true, if_true, if_false, reduceIte, wipeD, List.foldr_cons, List.foldr_nil, Nat.reduceLeDiff, List.cons.injEq, and_self, List.length_cons, List.length_nil]
    refine tuple_l (.inl up_same) ⟨_, Sub.refl _, ?_⟩
    refine k es _ (by rw [e2, List.length_map]; omega) ((hP3.up (hP3.ne hz)).mono (by omega)) fun x c hx e => ?_
    refine (k3.new hz) x c (fun h => h.elim hx fun h => ?_) (k2 _ _ hx e)
    subst h
    exact zd _ e
end K06

namespace K06
open PySem PySem.Spec PyProof.Rows KB
open L2 hiding op_eqD op_neD call_listD
variable {C : Cp} {Q : DQ} {E : Exn → Cp → Prop}
inductive Reach (es : List Ed) (b : List Nat) : List Nat → Prop where
  | base : Reach es b b
  | step {x y : List Nat} : Reach es b x → (x, y) ∈ es → Reach es b y
theorem reach_in {es : List Ed} {b : List Nat} {S : List (List Nat)} (hb : b ∈ S) (hc : ∀ x ∈ S, ∀ y, (x, y) ∈ es → y ∈ S) {x : List Nat} (h : Reach es b x) : x ∈ S := by
  induction h with
  | base => exact hb
  | step _ h ih => exact hc _ ih _ h
theorem reach_len {es : List Ed} {b : List Nat} {S : List (List Nat)} (hn : S.Nodup) (h : ∀ x ∈ S, Reach es b x) : S.length ≤ es.length + 1 := by
  have := nodup_len hn (ys := b :: es.map (·.2)) fun x hx => by
    cases h x hx with
    | base => exact List.mem_cons_self
    | step _ h => exact List.mem_cons_of_mem _ (List.mem_map.mpr ⟨_, h, rfl⟩)
  rw [List.length_cons, List.length_map] at this
  exact this
def ent (x : List Nat) : DKey × D := (.inr x, .bl true)
theorem look_ent (S : List (List Nat)) (y : List Nat) : (lookA (S.map ent) (.inr y)).isSome = decide (y ∈ S) := by
  rw [← lookA_any]
  induction S with
  | nil => simp
  | cons x r ih =>
    rw [List.map_cons, List.any_cons, ih]
    by_cases h : x = y
    · subst h; simp [ent]
    · have h' : ¬ (y = x) := fun e => h e.symm
      simp [ent, h, h']
theorem put_ent {S : List (List Nat)} {y : List Nat} (h : y ∉ S) : putA (S.map ent) (.inr y) (.bl true) = (S ++ [y]).map ent := by
  unfold putA
  rw [lookA_any, look_ent, if_neg (by simpa using h), List.map_append]
  rfl
theorem keys_ent (S : List (List Nat)) : ((S.map ent).map fun kv => keyD kv.1) = S.map D.str := by
  rw [List.map_map]
  rfl
theorem ed_at {es : List Ed} {i : Nat} {x : D} (h : (es.map edD)[i]? = some x) : ∃ a b, es[i]? = some (a, b) ∧ x = .tup [.str a, .str b] := by
  rw [List.getElem?_map] at h
  cases e : es[i]? with
  | none => rw [e] at h; cases h
  | some z =>
    rw [e] at h
    exact ⟨z.1, z.2, rfl, (Option.some.inj h).symm⟩
theorem mem_take_succ {α : Type} {xs : List α} {i : Nat} {a b : α} (e : xs[i]? = some b) (h : a ∈ xs.take (i + 1)) : a ∈ xs.take i ∨ a = b := by
  rw [List.take_add_one, e] at h
  rcases List.mem_append.mp h with h | h
  · exact .inl h
  · exact .inr (by simpa using h)
theorem eqDs_nil : ∀ xs : List D, eqDs xs [] = xs.isEmpty
  | [] => rfl
  | _ :: _ => rfl
theorem last_at {α : Type} {xs : List α} (h : xs ≠ []) : ∃ x, xs[xs.length - 1]? = some x ∧ xs = xs.dropLast ++ [x] := ⟨xs.getLast h, by rw [← List.getLast?_eq_getElem?, List.getLast?_eq_some_getLast h], (List.dropLast_concat_getLast h).symm⟩
def Src (C : Cp) (src : D) (es : List Ed) : Prop := src = .tup (es.map edD) ∨ ∃ r, src = .ptr r ∧ isL C r (es.map edD)
theorem led_to {b : List Nat} {es : List Ed} {src : D} (hs : Src C src es) (hl : es.length ≤ 200) (k : ∀ (S : List (List Nat)) C', S.Nodup → (∀ x, x ∈ S ↔ Reach es b x) → Kp (fun _ => False) C C' → Q (.tup ((S.map D.str).mergeSort leP)) C') : D_led_to [.str b, src] C Q E := by
  unfold D_led_to runD r_led_to
  try simp only [dSeq, dGetI_eq, Bool.not_true, Bool.not_false, dAsg, dOp, dVar, dC, gNm, gTp, gCn, gNl, dRet, dIf, dTest, dTru, dNot, dAnd, dOr, dNext, dDrop, dCons, dNil, dTup, dLst, dEmp, dEmpG, dPar, dPar3, dSetI, dCall, dCB, dBM, dBM0, dIfE, dNeg, dSl, dPart, dNoP, dAug, addI, dBreak, dCont, dAlt, dYes, dPairs, dDisp, gSubD, dBMd, addD_ii, addD_ss, addD_tt, subD_ii, mulD_ii, modD_ii, fdivD_ii, powD_ii, ltD_ii, leD_ii, gtD_ii, geD_ii, ltD_ss, leD_ss, eqR_ii, eqR_ss, eqR_tt, eqR_bb, abs_ii, max_ii, min_ii, truD_b, slD_t, slD_s, inR_t, List.map, List.length, List.replicate, List.cons_append, List.nil_append, List.append_nil, List.getElem?_cons_succ, List.getElem?_cons_zero, Option.some.injEq, exists_eq_left', exists_eq_left, ex2, ex3, exists_eq', List.set_cons_succ, List.set_cons_zero, Nat.reduceAdd, Nat.reduceSub, true_and, and_true, D.bl.injEq, D.int.injEq, D.str.injEq, D.ptr.injEq, D.tup.injEq, decide_eq_true_eq, beq_iff_eq, Bool.false_eq_true, if_true, if_false, reduceIte, wipeD, List.foldr_cons, List.foldr_nil, Nat.reduceLeDiff, List.cons.injEq, and_self, List.length_cons, List.length_nil]
  refine ⟨[ent b], rfl, by simp, fun d hd => ?_⟩
  intro w hw
  have wd : w ≠ d := ne_fresh up_same hw
  have zw : C w = none := by rw [← hw, up_ne wd]
  have c1 : up (up C d (.dk (mergeA [] [ent b]))) w (.lst [.str b]) d = some (.dk ([b].map ent)) := by rw [up_ne (Ne.symm wd), up_same]; rfl
  have c2 : up (up C d (.dk (mergeA [] [ent b]))) w (.lst [.str b]) w = some (.lst ([b].map D.str)) := up_same
  have k1 : Kp (fun r => r = d ∨ r = w) C (up (up C d (.dk (mergeA [] [ent b]))) w (.lst [.str b])) := ((Kp.refl C).put (.inl rfl)).put (.inr rfl)
  generalize up (up C d (.dk (mergeA [] [ent b]))) w (.lst [.str b]) = C1 at c1 c2 k1
  unfold dWhile
  refine ⟨fun m sl C' => ∃ (x4 x5 x6 : Option D) (S ws : List (List Nat)), sl = [some (.str b), some src, some (.ptr d), some (.ptr w), x4, x5, x6] ∧ C' d = some (.dk (S.map ent)) ∧ C' w = some (.lst (ws.map D.str)) ∧ S.Nodup ∧ b ∈ S ∧ (∀ x ∈ S, Reach es b x) ∧ (∀ x ∈ ws, x ∈ S) ∧ (∀ x ∈ S, x ∉ ws → ∀ y, (x, y) ∈ es → y ∈ S) ∧ m = 2 * (es.length + 1 - S.length) + ws.length ∧ m ≤ 500 ∧ Kp (fun r => r = d ∨ r = w) C C',
    ⟨_, none, none, none, [b], [b], rfl, c1, c2, by simp, by simp, by intro x hx; rw [List.mem_singleton.mp hx]; exact .base, fun x hx => hx, fun x hx hn => absurd hx hn, rfl, by simp; omega, k1⟩, fun m sl C2 hW => ?_⟩
  obtain ⟨x4, x5, x6, S, ws, rfl, d1, d2, nd, hb, hr, hsub, hcl, rfl, h500, k2⟩ := hW
  try simp only [dSeq, dGetI_eq, Bool.not_true, Bool.not_false, dAsg, dOp, dVar, dC, gNm, gTp, gCn, gNl, dRet, dIf, dTest, dTru, dNot, dAnd, dOr, dNext, dDrop, dCons, dNil, dTup, dLst, dEmp, dEmpG, dPar, dPar3, dSetI, dCall, dCB, dBM, dBM0, dIfE, dNeg, dSl, dPart, dNoP, dAug, addI, dBreak, dCont, dAlt, dYes, dPairs, dDisp, gSubD, dBMd, addD_ii, addD_ss, addD_tt, subD_ii, mulD_ii, modD_ii, fdivD_ii, powD_ii, ltD_ii, leD_ii, gtD_ii, geD_ii, ltD_ss, leD_ss, eqR_ii, eqR_ss, eqR_tt, eqR_bb, abs_ii, max_ii, min_ii, truD_b, slD_t, slD_s, inR_t, List.map, List.length, List.replicate, List.cons_append, List.nil_append, List.append_nil, List.getElem?_cons_succ, List.getElem?_cons_zero, Option.some.injEq, exists_eq_left', exists_eq_left, ex2, ex3, exists_eq', List.set_cons_succ, List.set_cons_zero, Nat.reduceAdd, Nat.reduceSub, true_and, and_true, D.bl.injEq, D.int.injEq, D.str.injEq, D.ptr.injEq, D.tup.injEq, decide_eq_true_eq, beq_iff_eq, Bool.false_eq_true, if_true, if_false, reduceIte, wipeD, List.foldr_cons, List.foldr_nil, Nat.reduceLeDiff, List.cons.injEq, and_self, List.length_cons, List.length_nil]
  intro z hz
  have zd : z ≠ d := ne_fresh d1 hz
  have zw2 : z ≠ w := ne_fresh d2 hz
  refine eqR_pp (.inl (at_ne d2 (Ne.symm zw2))) (.inl up_same) (npts_strs ws) rfl ?_
  have e1 := at_ne d1 (c' := .lst []) (Ne.symm zd)
  have e2 := at_ne d2 (c' := .lst []) (Ne.symm zw2)
  have k3 : Kp (fun r => r = d ∨ r = w) C (up C2 z (.lst [])) := k2.new hz
  generalize up C2 z (.lst []) = C3 at e1 e2 k3
  rw [eqDs_nil]
  try simp only [dSeq, dGetI_eq, Bool.not_true, Bool.not_false, dAsg, dOp, dVar, dC, gNm, gTp, gCn, gNl, dRet, dIf, dTest, dTru, dNot, dAnd, dOr, dNext, dDrop, dCons, dNil, dTup, dLst, dEmp, dEmpG, dPar, dPar3, dSetI, dCall, dCB, dBM, dBM0, dIfE, dNeg, dSl, dPart, dNoP, dAug, addI, dBreak, dCont, dAlt, dYes, dPairs, dDisp, gSubD, dBMd, addD_ii, addD_ss, addD_tt, subD_ii, mulD_ii, modD_ii, fdivD_ii, powD_ii, ltD_ii, leD_ii, gtD_ii, geD_ii, ltD_ss, leD_ss, eqR_ii, eqR_ss, eqR_tt, eqR_bb, abs_ii, max_ii, min_ii, truD_b, slD_t, slD_s, inR_t, List.map, List.length, List.replicate, List.cons_append, List.nil_append, List.append_nil, List.getElem?_cons_succ, List.getElem?_cons_zero, Option.some.injEq, exists_eq_left', exists_eq_left, ex2, ex3, exists_eq', List.set_cons_succ, List.set_cons_zero, Nat.reduceAdd, Nat.reduceSub, true_and, and_true, D.bl.injEq, D.int.injEq, D.str.injEq, D.ptr.injEq, D.tup.injEq, decide_eq_true_eq, beq_iff_eq, Bool.false_eq_true, if_true, if_false, reduceIte, wipeD, List.foldr_cons, List.foldr_nil, Nat.reduceLeDiff, List.cons.injEq, and_self, List.length_cons, List.length_nil]
  split
  · rename_i hne
    have hne : ws ≠ [] := by
      intro e
      subst e
      exact absurd hne (by decide)
    obtain ⟨h, h1, h2⟩ := last_at hne
    unfold l_led_to_2
    try simp only [dSeq, dGetI_eq, Bool.not_true, Bool.not_false, dAsg, dOp, dVar, dC, gNm, gTp, gCn, gNl, dRet, dIf, dTest, dTru, dNot, dAnd, dOr, dNext, dDrop, dCons, dNil, dTup, dLst, dEmp, dEmpG, dPar, dPar3, dSetI, dCall, dCB, dBM, dBM0, dIfE, dNeg, dSl, dPart, dNoP, dAug, addI, dBreak, dCont, dAlt, dYes, dPairs, dDisp, gSubD, dBMd, addD_ii, addD_ss, addD_tt, subD_ii, mulD_ii, modD_ii, fdivD_ii, powD_ii, ltD_ii, leD_ii, gtD_ii, geD_ii, ltD_ss, leD_ss, eqR_ii, eqR_ss, eqR_tt, eqR_bb, abs_ii, max_ii, min_ii, truD_b, slD_t, slD_s, inR_t, List.map, List.length, List.replicate, List.cons_append, List.nil_append, List.append_nil, List.getElem?_cons_succ, List.getElem?_cons_zero, Option.some.injEq, exists_eq_left', exists_eq_left, ex2, ex3, exists_eq', List.set_cons_succ, List.set_cons_zero, Nat.reduceAdd, Nat.reduceSub, true_and, and_true, D.bl.injEq, D.int.injEq, D.str.injEq, D.ptr.injEq, D.tup.injEq, decide_eq_true_eq, beq_iff_eq, Bool.false_eq_true, if_true, if_false, reduceIte, wipeD, List.foldr_cons, List.foldr_nil, Nat.reduceLeDiff, List.cons.injEq, and_self, List.length_cons, List.length_nil]
    refine ⟨tyL (.inl e2), pop_l e2 (d := .str h) ?_ ?_⟩
    · rw [List.length_map, List.getElem?_map, h1]
      rfl
    have hh : h ∈ S := hsub h (by rw [h2]; simp)
    have f1 := at_ne e1 (c' := .lst (ws.map D.str).dropLast) (Ne.symm wd)
    have f2 : up C3 w (.lst (ws.map D.str).dropLast) w = some (.lst (ws.dropLast.map D.str)) := by rw [up_same, List.map_dropLast]
    have k4 : Kp (fun r => r = d ∨ r = w) C (up C3 w (.lst (ws.map D.str).dropLast)) := k3.put (.inr rfl)
    generalize up C3 w (.lst (ws.map D.str).dropLast) = C4 at f1 f2 k4
    have lws : ws.length = ws.dropLast.length + 1 := by
      have := List.length_pos_iff.mpr hne
      rw [List.length_dropLast]
      omega
    unfold dFor dAltI
    have body : ∀ (ok : Cp → Prop), (∀ C', Kp (fun r => r = d ∨ r = w) C C' → ok C') → ∃ Pv : Nat → Sl → Cp → Prop, Pv 0 [some (.str b), some src, some (.ptr d), some (.ptr w), some (.str h), x5, x6] C4 ∧ (∀ i s C, i ≤ (es.map edD).length → Pv i s C → ok C) ∧
        (∀ i x s C, (es.map edD)[i]? = some x → Pv i s C → gTp 2 (gCn (gNm 5) (gCn (gNm 6) gNl)) x s C fun s2 C2' => l_led_to_1 { nx := fun s' C' => ∃ C'', Sub C'' C' ∧ Pv (i + 1) s' C'', rt := fun d C' => ∃ C'', Sub C'' C' ∧ Q d C'', bk := fun s' C' => ∃ m', m' < 2 * (es.length + 1 - S.length) + ws.length ∧ ∃ C'', Sub C'' C' ∧ ∃ (x4 x5 x6 : Option D) (S ws : List (List Nat)), s' = [some (.str b), some src, some (.ptr d), some (.ptr w), x4, x5, x6] ∧ C'' d = some (.dk (S.map ent)) ∧ C'' w = some (.lst (ws.map D.str)) ∧ S.Nodup ∧ b ∈ S ∧ (∀ x ∈ S, Reach es b x) ∧ (∀ x ∈ ws, x ∈ S) ∧ (∀ x ∈ S, x ∉ ws → ∀ y, (x, y) ∈ es → y ∈ S) ∧ m' = 2 * (es.length + 1 - S.length) + ws.length ∧ m' ≤ 500 ∧ Kp (fun r => r = d ∨ r = w) C C'', ct := fun s' C' => ∃ C'', Sub C'' C' ∧ Pv (i + 1) s' C'' } s2 C2') ∧
        ∀ s C', Pv (es.map edD).length s C' → ∃ m', m' < 2 * (es.length + 1 - S.length) + ws.length ∧ ∃ C'', Sub C'' C' ∧ ∃ (x4 x5 x6 : Option D) (S ws : List (List Nat)), s = [some (.str b), some src, some (.ptr d), some (.ptr w), x4, x5, x6] ∧ C'' d = some (.dk (S.map ent)) ∧ C'' w = some (.lst (ws.map D.str)) ∧ S.Nodup ∧ b ∈ S ∧ (∀ x ∈ S, Reach es b x) ∧ (∀ x ∈ ws, x ∈ S) ∧ (∀ x ∈ S, x ∉ ws → ∀ y, (x, y) ∈ es → y ∈ S) ∧ m' = 2 * (es.length + 1 - S.length) + ws.length ∧ m' ≤ 500 ∧ Kp (fun r => r = d ∨ r = w) C C'' := by
      intro ok hok
      refine ⟨fun i sl C' => ∃ (x5 x6 : Option D) (S' ws' : List (List Nat)), sl = [some (.str b), some src, some (.ptr d), some (.ptr w), some (.str h), x5, x6] ∧ C' d = some (.dk (S'.map ent)) ∧ C' w = some (.lst (ws'.map D.str)) ∧ S'.Nodup ∧ (∀ x ∈ S, x ∈ S') ∧ (∀ x ∈ S', Reach es b x) ∧ (∀ x ∈ ws', x ∈ S') ∧ (∀ x ∈ S', x ∉ ws' → x ≠ h → ∀ y, (x, y) ∈ es → y ∈ S') ∧ (∀ y, (h, y) ∈ es.take i → y ∈ S') ∧ 2 * (es.length + 1 - S'.length) + ws'.length ≤ 2 * (es.length + 1 - S.length) + ws.dropLast.length ∧ Kp (fun r => r = d ∨ r = w) C C',
        ⟨x5, x6, S, ws.dropLast, rfl, f1, f2, nd, fun x hx => hx, hr, fun x hx => hsub x (by rw [h2]; exact List.mem_append_left _ hx), fun x hx hn hne y hy => hcl x hx (fun hm => ?_) y hy, by simp, Nat.le_refl _, k4⟩, fun _ _ _ _ hp => ?_, fun i x sl C5 e hp => ?_, fun sl C5 hp => ?_⟩
      · rw [h2] at hm
        rcases List.mem_append.mp hm with hm | hm
        · exact hn hm
        · exact hne (List.mem_singleton.mp hm)
      · obtain ⟨_, _, _, _, _, _, _, _, _, _, _, _, _, _, kk⟩ := hp
        exact hok _ kk
      · obtain ⟨a, c, ee, rfl⟩ := ed_at e
        obtain ⟨y5, y6, S', ws', rfl, g1, g2, nd', hSS, hr', hsub', hcl', hdone, hm, k5⟩ := hp
        unfold l_led_to_1
        try simp only [dSeq, dGetI_eq, Bool.not_true, Bool.not_false, dAsg, dOp, dVar, dC, gNm, gTp, gCn, gNl, dRet, dIf, dTest, dTru, dNot, dAnd, dOr, dNext, dDrop, dCons, dNil, dTup, dLst, dEmp, dEmpG, dPar, dPar3, dSetI, dCall, dCB, dBM, dBM0, dIfE, dNeg, dSl, dPart, dNoP, dAug, addI, dBreak, dCont, dAlt, dYes, dPairs, dDisp, gSubD, dBMd, addD_ii, addD_ss, addD_tt, subD_ii, mulD_ii, modD_ii, fdivD_ii, powD_ii, ltD_ii, leD_ii, gtD_ii, geD_ii, ltD_ss, leD_ss, eqR_ii, eqR_ss, eqR_tt, eqR_bb, abs_ii, max_ii, min_ii, truD_b, slD_t, slD_s, inR_t, List.map, List.length, List.replicate, List.cons_append, List.nil_append, List.append_nil, List.getElem?_cons_succ, List.getElem?_cons_zero, Option.some.injEq, exists_eq_left', exists_eq_left, ex2, ex3, exists_eq', List.set_cons_succ, List.set_cons_zero, Nat.reduceAdd, Nat.reduceSub, true_and, and_true, D.bl.injEq, D.int.injEq, D.str.injEq, D.ptr.injEq, D.tup.injEq, decide_eq_true_eq, beq_iff_eq, Bool.false_eq_true, if_true, if_false, reduceIte, wipeD, List.foldr_cons, List.foldr_nil, Nat.reduceLeDiff, List.cons.injEq, and_self, List.length_cons, List.length_nil]
        have same : (a = h → c ∈ S') → ∃ C'', Sub C'' C5 ∧ ∃ (x5 x6 : Option D) (S'' ws'' : List (List Nat)), (some (D.str a) = x5 ∧ some (D.str c) = x6) ∧ C'' d = some (.dk (S''.map ent)) ∧ C'' w = some (.lst (ws''.map D.str)) ∧ S''.Nodup ∧ (∀ x ∈ S, x ∈ S'') ∧ (∀ x ∈ S'', Reach es b x) ∧ (∀ x ∈ ws'', x ∈ S'') ∧ (∀ x ∈ S'', x ∉ ws'' → x ≠ h → ∀ y, (x, y) ∈ es → y ∈ S'') ∧ (∀ y, (h, y) ∈ es.take (i + 1) → y ∈ S'') ∧ 2 * (es.length + 1 - S''.length) + ws''.length ≤ 2 * (es.length + 1 - S.length) + ws.dropLast.length ∧ Kp (fun r => r = d ∨ r = w) C C'' := fun hc =>
          ⟨C5, Sub.refl _, _, _, S', ws', ⟨rfl, rfl⟩, g1, g2, nd', hSS, hr', hsub', hcl', fun y hy => by
            rcases mem_take_succ ee hy with hy | hy
            · exact hdone y hy
            · cases hy; exact hc rfl, hm, k5⟩
        split
        · rename_i hah
          subst hah
          try simp only [dSeq, dGetI_eq, Bool.not_true, Bool.not_false, dAsg, dOp, dVar, dC, gNm, gTp, gCn, gNl, dRet, dIf, dTest, dTru, dNot, dAnd, dOr, dNext, dDrop, dCons, dNil, dTup, dLst, dEmp, dEmpG, dPar, dPar3, dSetI, dCall, dCB, dBM, dBM0, dIfE, dNeg, dSl, dPart, dNoP, dAug, addI, dBreak, dCont, dAlt, dYes, dPairs, dDisp, gSubD, dBMd, addD_ii, addD_ss, addD_tt, subD_ii, mulD_ii, modD_ii, fdivD_ii, powD_ii, ltD_ii, leD_ii, gtD_ii, geD_ii, ltD_ss, leD_ss, eqR_ii, eqR_ss, eqR_tt, eqR_bb, abs_ii, max_ii, min_ii, truD_b, slD_t, slD_s, inR_t, List.map, List.length, List.replicate, List.cons_append, List.nil_append, List.append_nil, List.getElem?_cons_succ, List.getElem?_cons_zero, Option.some.injEq, exists_eq_left', exists_eq_left, ex2, ex3, exists_eq', List.set_cons_succ, List.set_cons_zero, Nat.reduceAdd, Nat.reduceSub, true_and, and_true, D.bl.injEq, D.int.injEq, D.str.injEq, D.ptr.injEq, D.tup.injEq, decide_eq_true_eq, beq_iff_eq, Bool.false_eq_true, if_true, if_false, reduceIte, wipeD, List.foldr_cons, List.foldr_nil, Nat.reduceLeDiff, List.cons.injEq, and_self, List.length_cons, List.length_nil]
          refine inKD g1 (k := .inr c) ?_
          rw [look_ent]
          try simp only [dSeq, dGetI_eq, Bool.not_true, Bool.not_false, dAsg, dOp, dVar, dC, gNm, gTp, gCn, gNl, dRet, dIf, dTest, dTru, dNot, dAnd, dOr, dNext, dDrop, dCons, dNil, dTup, dLst, dEmp, dEmpG, dPar, dPar3, dSetI, dCall, dCB, dBM, dBM0, dIfE, dNeg, dSl, dPart, dNoP, dAug, addI, dBreak, dCont, dAlt, dYes, dPairs, dDisp, gSubD, dBMd, addD_ii, addD_ss, addD_tt, subD_ii, mulD_ii, modD_ii, fdivD_ii, powD_ii, ltD_ii, leD_ii, gtD_ii, geD_ii, ltD_ss, leD_ss, eqR_ii, eqR_ss, eqR_tt, eqR_bb, abs_ii, max_ii, min_ii, truD_b, slD_t, slD_s, inR_t, List.map, List.length, List.replicate, List.cons_append, List.nil_append, List.append_nil, List.getElem?_cons_succ, List.getElem?_cons_zero, Option.some.injEq, exists_eq_left', exists_eq_left, ex2, ex3, exists_eq', List.set_cons_succ, List.set_cons_zero, Nat.reduceAdd, Nat.reduceSub, true_and, and_true, D.bl.injEq, D.int.injEq, D.str.injEq, D.ptr.injEq, D.tup.injEq, decide_eq_true_eq, beq_iff_eq, Bool.false_eq_true, if_true, if_false, reduceIte, wipeD, List.foldr_cons, List.foldr_nil, Nat.reduceLeDiff, List.cons.injEq, and_self, List.length_cons, List.length_nil]
          split
          · rename_i hc
            have hc : c ∉ S' := by simpa using hc
            have hrc : Reach es b c := .step (hr' _ (hSS _ hh)) (List.mem_of_getElem? ee)
            have hnd : (S' ++ [c]).Nodup := by
              rw [List.nodup_append]
              refine ⟨nd', by simp, fun x hx y hy => ?_⟩
              rw [List.mem_singleton.mp hy]
              intro z; subst z; exact hc hx
            have hrr : ∀ x ∈ S' ++ [c], Reach es b x := fun x hx => by
              rcases List.mem_append.mp hx with hx | hx
              · exact hr' x hx
              · rw [List.mem_singleton.mp hx]; exact hrc
            have ln := reach_len hnd hrr
            have ln' := reach_len nd' hr'
            rw [List.length_append, List.length_singleton] at ln
            refine put_k g1 (.inr c) (by rw [List.length_map, sizeLine_eq]; omega) ?_
            rw [put_ent hc]
            refine ⟨tyL (.inl (at_ne g2 wd)), app_l (at_ne g2 wd) ?_ ?_⟩
            · rw [List.length_map, sizeLine_eq]
              have := reach_len nd hr
              have := List.length_pos_of_mem hb
              omega
            · refine ⟨_, Sub.refl _, _, _, S' ++ [c], ws' ++ [c], ⟨rfl, rfl⟩, ?_, ?_, hnd, fun x hx => List.mem_append_left _ (hSS x hx), hrr, fun x hx => ?_, fun x hx hn hne y hy => ?_, fun y hy => ?_, ?_, (k5.put (.inl rfl)).put (.inr rfl)⟩
              · rw [up_ne (Ne.symm wd), up_same]
              · rw [up_same, List.map_append]; rfl
              · rcases List.mem_append.mp hx with hx | hx
                · exact List.mem_append_left _ (hsub' x hx)
                · exact List.mem_append_right _ hx
              · rcases List.mem_append.mp hx with hx | hx
                · exact List.mem_append_left _ (hcl' x hx (fun z => hn (List.mem_append_left _ z)) hne y hy)
                · exact absurd (List.mem_append_right _ hx) hn
              · rcases mem_take_succ ee hy with hy | hy
                · exact List.mem_append_left _ (hdone y hy)
                · cases hy; exact List.mem_append_right _ List.mem_cons_self
              · simp only [List.length_append, List.length_singleton]
                omega
          · rename_i hc
            exact same fun _ => by simpa using hc
        · rename_i hah
          exact same fun z => absurd z hah
      · obtain ⟨y5, y6, S', ws', rfl, g1, g2, nd', hSS, hr', hsub', hcl', hdone, hm, k5⟩ := hp
        rw [List.length_map, List.take_length] at hdone
        refine ⟨_, by omega, C5, Sub.refl _, _, _, _, S', ws', rfl, g1, g2, nd', hSS _ hb, hr', hsub', fun x hx hn y hy => ?_, rfl, by omega, k5⟩
        by_cases hxh : x = h
        · subst hxh; exact hdone y hy
        · exact hcl' x hx hn hxh y hy
    rcases hs with hs | ⟨r, hs, hrl⟩
    · subst hs
      refine .inr ?_
      unfold dOverT
      try simp only [dSeq, dGetI_eq, Bool.not_true, Bool.not_false, dAsg, dOp, dVar, dC, gNm, gTp, gCn, gNl, dRet, dIf, dTest, dTru, dNot, dAnd, dOr, dNext, dDrop, dCons, dNil, dTup, dLst, dEmp, dEmpG, dPar, dPar3, dSetI, dCall, dCB, dBM, dBM0, dIfE, dNeg, dSl, dPart, dNoP, dAug, addI, dBreak, dCont, dAlt, dYes, dPairs, dDisp, gSubD, dBMd, addD_ii, addD_ss, addD_tt, subD_ii, mulD_ii, modD_ii, fdivD_ii, powD_ii, ltD_ii, leD_ii, gtD_ii, geD_ii, ltD_ss, leD_ss, eqR_ii, eqR_ss, eqR_tt, eqR_bb, abs_ii, max_ii, min_ii, truD_b, slD_t, slD_s, inR_t, List.map, List.length, List.replicate, List.cons_append, List.nil_append, List.append_nil, List.getElem?_cons_succ, List.getElem?_cons_zero, Option.some.injEq, exists_eq_left', exists_eq_left, ex2, ex3, exists_eq', List.set_cons_succ, List.set_cons_zero, Nat.reduceAdd, Nat.reduceSub, true_and, and_true, D.bl.injEq, D.int.injEq, D.str.injEq, D.ptr.injEq, D.tup.injEq, decide_eq_true_eq, beq_iff_eq, Bool.false_eq_true, if_true, if_false, reduceIte, wipeD, List.foldr_cons, List.foldr_nil, Nat.reduceLeDiff, List.cons.injEq, and_self, List.length_cons, List.length_nil]
      exact body (fun _ => True) fun _ _ => trivial
    · subst hs
      refine .inl ?_
      unfold dOver
      try simp only [dSeq, dGetI_eq, Bool.not_true, Bool.not_false, dAsg, dOp, dVar, dC, gNm, gTp, gCn, gNl, dRet, dIf, dTest, dTru, dNot, dAnd, dOr, dNext, dDrop, dCons, dNil, dTup, dLst, dEmp, dEmpG, dPar, dPar3, dSetI, dCall, dCB, dBM, dBM0, dIfE, dNeg, dSl, dPart, dNoP, dAug, addI, dBreak, dCont, dAlt, dYes, dPairs, dDisp, gSubD, dBMd, addD_ii, addD_ss, addD_tt, subD_ii, mulD_ii, modD_ii, fdivD_ii, powD_ii, ltD_ii, leD_ii, gtD_ii, geD_ii, ltD_ss, leD_ss, eqR_ii, eqR_ss, eqR_tt, eqR_bb, abs_ii, max_ii, min_ii, truD_b, slD_t, slD_s, inR_t, List.map, List.length, List.replicate, List.cons_append, List.nil_append, List.append_nil, List.getElem?_cons_succ, List.getElem?_cons_zero, Option.some.injEq, exists_eq_left', exists_eq_left, ex2, ex3, exists_eq', List.set_cons_succ, List.set_cons_zero, Nat.reduceAdd, Nat.reduceSub, true_and, and_true, D.bl.injEq, D.int.injEq, D.str.injEq, D.ptr.injEq, D.tup.injEq, decide_eq_true_eq, beq_iff_eq, Bool.false_eq_true, if_true, if_false, reduceIte, wipeD, List.foldr_cons, List.foldr_nil, Nat.reduceLeDiff, List.cons.injEq, and_self, List.length_cons, List.length_nil]
      have nr : ¬ (r = d ∨ r = w) := by
        rintro (e | e)
        · subst e; rcases hrl with e | e <;> (rw [hd] at e; cases e)
        · subst e; rcases hrl with e | e <;> (rw [zw] at e; cases e)
      exact ⟨_, k4.isL nr hrl, body _ fun C' kk => kk.isL nr hrl⟩
  · rename_i hne
    have hne : ws = [] := by
      cases ws with
      | nil => rfl
      | cons => exact absurd rfl hne
    subst hne
    unfold r_led_to_1
    try simp only [dSeq, dGetI_eq, Bool.not_true, Bool.not_false, dAsg, dOp, dVar, dC, gNm, gTp, gCn, gNl, dRet, dIf, dTest, dTru, dNot, dAnd, dOr, dNext, dDrop, dCons, dNil, dTup, dLst, dEmp, dEmpG, dPar, dPar3, dSetI, dCall, dCB, dBM, dBM0, dIfE, dNeg, dSl, dPart, dNoP, dAug, addI, dBreak, dCont, dAlt, dYes, dPairs, dDisp, gSubD, dBMd, addD_ii, addD_ss, addD_tt, subD_ii, mulD_ii, modD_ii, fdivD_ii, powD_ii, ltD_ii, leD_ii, gtD_ii, geD_ii, ltD_ss, leD_ss, eqR_ii, eqR_ss, eqR_tt, eqR_bb, abs_ii, max_ii, min_ii, truD_b, slD_t, slD_s, inR_t, List.map, List.length, List.replicate, List.cons_append, List.nil_append, List.append_nil, List.getElem?_cons_succ, List.getElem?_cons_zero, Option.some.injEq, exists_eq_left', exists_eq_left, ex2, ex3, exists_eq', List.set_cons_succ, List.set_cons_zero, Nat.reduceAdd, Nat.reduceSub, true_and, and_true, D.bl.injEq, D.int.injEq, D.str.injEq, D.ptr.injEq, D.tup.injEq, decide_eq_true_eq, beq_iff_eq, Bool.false_eq_true, if_true, if_false, reduceIte, wipeD, List.foldr_cons, List.foldr_nil, Nat.reduceLeDiff, List.cons.injEq, and_self, List.length_cons, List.length_nil]
    refine sorted_l (xs := S.map D.str) (.inr (.inl ⟨_, e1, (keys_ent S).symm⟩)) (sortOk_strs S) fun u hu => ?_
    refine tuple_l (.inl up_same) ⟨_, Sub.refl _, ?_⟩
    refine k S _ nd (fun x => ⟨hr x, fun h => reach_in hb (fun x hx y hy => hcl x hx (by simp) y hy) h⟩) fun r c _ e => ?_
    refine (k3.new hu) r c ?_ e
    rintro (h | h)
    · subst h; rw [hd] at e; cases e
    · subst h; rw [zw] at e; cases e
end K06

namespace K06
open PySem PySem.Spec PyProof.Rows KB
open L2 hiding op_eqD op_neD call_listD
variable {C : Cp} {Q : DQ} {E : Exn → Cp → Prop}
def IsR (es : List Ed) (b : List Nat) (t : List D) : Prop := ∃ S : List (List Nat), S.Nodup ∧ (∀ x, x ∈ S ↔ Reach es b x) ∧ t = (S.map D.str).mergeSort leP
theorem IsR.uniq {es : List Ed} {b : List Nat} {t u : List D} : IsR es b t → IsR es b u → t = u := by
  rintro ⟨S, n1, h1, rfl⟩ ⟨T, n2, h2, rfl⟩
  exact sort_eq ((perm_of n1 n2 fun x => (h1 x).trans (h2 x).symm).map _) strs_inj
theorem IsR.strs {es : List Ed} {b : List Nat} {t : List D} (h : IsR es b t) (hl : es.length ≤ 200) : ∃ ts : List (List Nat), t = ts.map D.str ∧ ts.length ≤ 201 ∧ ∀ x, x ∈ ts ↔ Reach es b x := by
  obtain ⟨S, n1, h1, rfl⟩ := h
  obtain ⟨ts, e⟩ := any_map D.str (P := fun _ => True) (xs := (S.map D.str).mergeSort leP) fun d hd => by
    obtain ⟨x, _, rfl⟩ := List.mem_map.mp ((List.mergeSort_perm _ leP).mem_iff.mp hd)
    exact ⟨x, rfl⟩
  refine ⟨ts, e, ?_, fun x => ?_⟩
  · have h2 := congrArg List.length e
    rw [List.length_mergeSort, List.length_map, List.length_map] at h2
    have := reach_len n1 fun x hx => (h1 x).mp hx
    omega
  · rw [← h1 x]
    have m1 : x ∈ ts ↔ D.str x ∈ ts.map D.str := ⟨fun h => List.mem_map.mpr ⟨x, h, rfl⟩, fun h => by
      obtain ⟨y, hy, e⟩ := List.mem_map.mp h
      cases e; exact hy⟩
    have m2 : x ∈ S ↔ D.str x ∈ S.map D.str := ⟨fun h => List.mem_map.mpr ⟨x, h, rfl⟩, fun h => by
      obtain ⟨y, hy, e⟩ := List.mem_map.mp h
      cases e; exact hy⟩
    rw [m1, m2, ← e]
    exact (List.mergeSort_perm _ leP).mem_iff
abbrev None : Addr → Prop := fun _ => False
theorem led_to' {b : List Nat} {es : List Ed} {src : D} (hs : Src C src es) (hl : es.length ≤ 200) (k : ∀ t C', IsR es b t → Kp None C C' → Q (.tup t) C') : D_led_to [.str b, src] C Q E :=
  led_to hs hl fun S C' n h kk => k _ C' ⟨S, n, h, rfl⟩ kk
theorem around {b : List Nat} {es : List Ed} {src : D} (hs : Src C src es) (hl : es.length ≤ 200) (k : ∀ t C', IsR es b t → Kp None C C' → Q (.tup t) C') : D_around [src, .str b] C Q E := by
  unfold D_around runD r_around
  try simp only [dSeq, dGetI_eq, Bool.not_true, Bool.not_false, dAsg, dOp, dVar, dC, gNm, gTp, gCn, gNl, dRet, dIf, dTest, dTru, dNot, dAnd, dOr, dNext, dDrop, dCons, dNil, dTup, dLst, dEmp, dEmpG, dPar, dPar3, dSetI, dCall, dCB, dBM, dBM0, dIfE, dNeg, dSl, dPart, dNoP, dAug, addI, dBreak, dCont, dAlt, dYes, dPairs, dDisp, gSubD, dBMd, addD_ii, addD_ss, addD_tt, subD_ii, mulD_ii, modD_ii, fdivD_ii, powD_ii, ltD_ii, leD_ii, gtD_ii, geD_ii, ltD_ss, leD_ss, eqR_ii, eqR_ss, eqR_tt, eqR_bb, abs_ii, max_ii, min_ii, truD_b, slD_t, slD_s, inR_t, List.map, List.length, List.replicate, List.cons_append, List.nil_append, List.append_nil, List.getElem?_cons_succ, List.getElem?_cons_zero, Option.some.injEq, exists_eq_left', exists_eq_left, ex2, ex3, exists_eq', List.set_cons_succ, List.set_cons_zero, Nat.reduceAdd, Nat.reduceSub, true_and, and_true, D.bl.injEq, D.int.injEq, D.str.injEq, D.ptr.injEq, D.tup.injEq, decide_eq_true_eq, beq_iff_eq, Bool.false_eq_true, if_true, if_false, reduceIte, wipeD, List.foldr_cons, List.foldr_nil, Nat.reduceLeDiff, List.cons.injEq, and_self, List.length_cons, List.length_nil]
  exact led_to' hs hl fun t C' h kk => ⟨C', Sub.refl _, k t C' h kk⟩
def sw (e : Ed) : Ed := (e.2, e.1)
theorem src_list {es : List Ed} {r : Addr} {c : Cell} (h : c = .lst (es.map edD)) : Src (up C r c) (.ptr r) es := by
  subst h
  exact .inr ⟨r, rfl, .inl up_same⟩
theorem inside {b : List Nat} {es : List Ed} (hl : es.length ≤ 200) (k : ∀ t C', IsR (es.map sw) b t → Kp None C C' → Q (.tup t) C') : D_inside [.tup (es.map edD), .str b] C Q E := by
  unfold D_inside runD r_inside
  try simp only [dSeq, dGetI_eq, Bool.not_true, Bool.not_false, dAsg, dOp, dVar, dC, gNm, gTp, gCn, gNl, dRet, dIf, dTest, dTru, dNot, dAnd, dOr, dNext, dDrop, dCons, dNil, dTup, dLst, dEmp, dEmpG, dPar, dPar3, dSetI, dCall, dCB, dBM, dBM0, dIfE, dNeg, dSl, dPart, dNoP, dAug, addI, dBreak, dCont, dAlt, dYes, dPairs, dDisp, gSubD, dBMd, addD_ii, addD_ss, addD_tt, subD_ii, mulD_ii, modD_ii, fdivD_ii, powD_ii, ltD_ii, leD_ii, gtD_ii, geD_ii, ltD_ss, leD_ss, eqR_ii, eqR_ss, eqR_tt, eqR_bb, abs_ii, max_ii, min_ii, truD_b, slD_t, slD_s, inR_t, List.map, List.length, List.replicate, List.cons_append, List.nil_append, List.append_nil, List.getElem?_cons_succ, List.getElem?_cons_zero, Option.some.injEq, exists_eq_left', exists_eq_left, ex2, ex3, exists_eq', List.set_cons_succ, List.set_cons_zero, Nat.reduceAdd, Nat.reduceSub, true_and, and_true, D.bl.injEq, D.int.injEq, D.str.injEq, D.ptr.injEq, D.tup.injEq, decide_eq_true_eq, beq_iff_eq, Bool.false_eq_true, if_true, if_false, reduceIte, wipeD, List.foldr_cons, List.foldr_nil, Nat.reduceLeDiff, List.cons.injEq, and_self, List.length_cons, List.length_nil]
  unfold dLc
  try unfold dOverT
  try simp only [dSeq, dGetI_eq, Bool.not_true, Bool.not_false, dAsg, dOp, dVar, dC, gNm, gTp, gCn, gNl, dRet, dIf, dTest, dTru, dNot, dAnd, dOr, dNext, dDrop, dCons, dNil, dTup, dLst, dEmp, dEmpG, dPar, dPar3, dSetI, dCall, dCB, dBM, dBM0, dIfE, dNeg, dSl, dPart, dNoP, dAug, addI, dBreak, dCont, dAlt, dYes, dPairs, dDisp, gSubD, dBMd, addD_ii, addD_ss, addD_tt, subD_ii, mulD_ii, modD_ii, fdivD_ii, powD_ii, ltD_ii, leD_ii, gtD_ii, geD_ii, ltD_ss, leD_ss, eqR_ii, eqR_ss, eqR_tt, eqR_bb, abs_ii, max_ii, min_ii, truD_b, slD_t, slD_s, inR_t, List.map, List.length, List.replicate, List.cons_append, List.nil_append, List.append_nil, List.getElem?_cons_succ, List.getElem?_cons_zero, Option.some.injEq, exists_eq_left', exists_eq_left, ex2, ex3, exists_eq', List.set_cons_succ, List.set_cons_zero, Nat.reduceAdd, Nat.reduceSub, true_and, and_true, D.bl.injEq, D.int.injEq, D.str.injEq, D.ptr.injEq, D.tup.injEq, decide_eq_true_eq, beq_iff_eq, Bool.false_eq_true, if_true, if_false, reduceIte, wipeD, List.foldr_cons, List.foldr_nil, Nat.reduceLeDiff, List.cons.injEq, and_self, List.length_cons, List.length_nil]
  refine ⟨fun i acc C' => acc = ((es.map sw).take i).map edD ∧ C' = C, ⟨by simp, rfl⟩, fun _ _ _ _ _ => trivial, fun i x acc C' e hp hi => ?_, by rw [List.length_map, sizeLine_eq]; omega, fun acc C' p hp hn => ?_⟩
  · obtain ⟨rfl, rfl⟩ := hp
    obtain ⟨a, c, ee, rfl⟩ := ed_at e
    try simp only [dSeq, dGetI_eq, Bool.not_true, Bool.not_false, dAsg, dOp, dVar, dC, gNm, gTp, gCn, gNl, dRet, dIf, dTest, dTru, dNot, dAnd, dOr, dNext, dDrop, dCons, dNil, dTup, dLst, dEmp, dEmpG, dPar, dPar3, dSetI, dCall, dCB, dBM, dBM0, dIfE, dNeg, dSl, dPart, dNoP, dAug, addI, dBreak, dCont, dAlt, dYes, dPairs, dDisp, gSubD, dBMd, addD_ii, addD_ss, addD_tt, subD_ii, mulD_ii, modD_ii, fdivD_ii, powD_ii, ltD_ii, leD_ii, gtD_ii, geD_ii, ltD_ss, leD_ss, eqR_ii, eqR_ss, eqR_tt, eqR_bb, abs_ii, max_ii, min_ii, truD_b, slD_t, slD_s, inR_t, List.map, List.length, List.replicate, List.cons_append, List.nil_append, List.append_nil, List.getElem?_cons_succ, List.getElem?_cons_zero, Option.some.injEq, exists_eq_left', exists_eq_left, ex2, ex3, exists_eq', List.set_cons_succ, List.set_cons_zero, Nat.reduceAdd, Nat.reduceSub, true_and, and_true, D.bl.injEq, D.int.injEq, D.str.injEq, D.ptr.injEq, D.tup.injEq, decide_eq_true_eq, beq_iff_eq, Bool.false_eq_true, if_true, if_false, reduceIte, wipeD, List.foldr_cons, List.foldr_nil, Nat.reduceLeDiff, List.cons.injEq, and_self, List.length_cons, List.length_nil]
    refine ⟨C', Sub.refl _, ?_, rfl⟩
    rw [List.take_add_one, List.getElem?_map, ee, List.map_append]
    rfl
  · obtain ⟨rfl, rfl⟩ := hp
    refine led_to' (src_list (by rw [List.length_map, List.take_of_length_le (by rw [List.length_map]; exact Nat.le_refl _)])) (by rw [List.length_map]; exact hl) fun t C2 h kk => ⟨C2, Sub.refl _, k t C2 h (((Kp.refl _).new hn).trans kk)⟩
theorem closes {i o : List Nat} {es : List Ed} (hl : es.length ≤ 200) (k : ∀ v C', (v = true ↔ Reach es o i) → Kp None C C' → Q (.bl v) C') : D_closes [.tup (es.map edD), .str i, .str o] C Q E := by
  unfold D_closes runD r_closes
  try simp only [dSeq, dGetI_eq, Bool.not_true, Bool.not_false, dAsg, dOp, dVar, dC, gNm, gTp, gCn, gNl, dRet, dIf, dTest, dTru, dNot, dAnd, dOr, dNext, dDrop, dCons, dNil, dTup, dLst, dEmp, dEmpG, dPar, dPar3, dSetI, dCall, dCB, dBM, dBM0, dIfE, dNeg, dSl, dPart, dNoP, dAug, addI, dBreak, dCont, dAlt, dYes, dPairs, dDisp, gSubD, dBMd, addD_ii, addD_ss, addD_tt, subD_ii, mulD_ii, modD_ii, fdivD_ii, powD_ii, ltD_ii, leD_ii, gtD_ii, geD_ii, ltD_ss, leD_ss, eqR_ii, eqR_ss, eqR_tt, eqR_bb, abs_ii, max_ii, min_ii, truD_b, slD_t, slD_s, inR_t, List.map, List.length, List.replicate, List.cons_append, List.nil_append, List.append_nil, List.getElem?_cons_succ, List.getElem?_cons_zero, Option.some.injEq, exists_eq_left', exists_eq_left, ex2, ex3, exists_eq', List.set_cons_succ, List.set_cons_zero, Nat.reduceAdd, Nat.reduceSub, true_and, and_true, D.bl.injEq, D.int.injEq, D.str.injEq, D.ptr.injEq, D.tup.injEq, decide_eq_true_eq, beq_iff_eq, Bool.false_eq_true, if_true, if_false, reduceIte, wipeD, List.foldr_cons, List.foldr_nil, Nat.reduceLeDiff, List.cons.injEq, and_self, List.length_cons, List.length_nil]
  refine around (.inl rfl) hl fun t C' h kk => ?_
  obtain ⟨ts, rfl, _, hm⟩ := h.strs hl
  try simp only [dSeq, dGetI_eq, Bool.not_true, Bool.not_false, dAsg, dOp, dVar, dC, gNm, gTp, gCn, gNl, dRet, dIf, dTest, dTru, dNot, dAnd, dOr, dNext, dDrop, dCons, dNil, dTup, dLst, dEmp, dEmpG, dPar, dPar3, dSetI, dCall, dCB, dBM, dBM0, dIfE, dNeg, dSl, dPart, dNoP, dAug, addI, dBreak, dCont, dAlt, dYes, dPairs, dDisp, gSubD, dBMd, addD_ii, addD_ss, addD_tt, subD_ii, mulD_ii, modD_ii, fdivD_ii, powD_ii, ltD_ii, leD_ii, gtD_ii, geD_ii, ltD_ss, leD_ss, eqR_ii, eqR_ss, eqR_tt, eqR_bb, abs_ii, max_ii, min_ii, truD_b, slD_t, slD_s, inR_t, List.map, List.length, List.replicate, List.cons_append, List.nil_append, List.append_nil, List.getElem?_cons_succ, List.getElem?_cons_zero, Option.some.injEq, exists_eq_left', exists_eq_left, ex2, ex3, exists_eq', List.set_cons_succ, List.set_cons_zero, Nat.reduceAdd, Nat.reduceSub, true_and, and_true, D.bl.injEq, D.int.injEq, D.str.injEq, D.ptr.injEq, D.tup.injEq, decide_eq_true_eq, beq_iff_eq, Bool.false_eq_true, if_true, if_false, reduceIte, wipeD, List.foldr_cons, List.foldr_nil, Nat.reduceLeDiff, List.cons.injEq, and_self, List.length_cons, List.length_nil]
  refine ⟨rfl, npts_strs ts, C', Sub.refl _, ?_⟩
  rw [memD_strs]
  exact k _ C' (by rw [decide_eq_true_eq]; exact hm i) kk
theorem law_led {b : List Nat} {es : List Ed} {src : D} (hs : Src C src es) (hl : es.length ≤ 200) (k : ∀ t C', IsR es b t → Kp None C C' → Q (.tup t) C') : D__law_led [src, .str b] C Q E := by
  unfold D__law_led runD r__law_led
  try simp only [dSeq, dGetI_eq, Bool.not_true, Bool.not_false, dAsg, dOp, dVar, dC, gNm, gTp, gCn, gNl, dRet, dIf, dTest, dTru, dNot, dAnd, dOr, dNext, dDrop, dCons, dNil, dTup, dLst, dEmp, dEmpG, dPar, dPar3, dSetI, dCall, dCB, dBM, dBM0, dIfE, dNeg, dSl, dPart, dNoP, dAug, addI, dBreak, dCont, dAlt, dYes, dPairs, dDisp, gSubD, dBMd, addD_ii, addD_ss, addD_tt, subD_ii, mulD_ii, modD_ii, fdivD_ii, powD_ii, ltD_ii, leD_ii, gtD_ii, geD_ii, ltD_ss, leD_ss, eqR_ii, eqR_ss, eqR_tt, eqR_bb, abs_ii, max_ii, min_ii, truD_b, slD_t, slD_s, inR_t, List.map, List.length, List.replicate, List.cons_append, List.nil_append, List.append_nil, List.getElem?_cons_succ, List.getElem?_cons_zero, Option.some.injEq, exists_eq_left', exists_eq_left, ex2, ex3, exists_eq', List.set_cons_succ, List.set_cons_zero, Nat.reduceAdd, Nat.reduceSub, true_and, and_true, D.bl.injEq, D.int.injEq, D.str.injEq, D.ptr.injEq, D.tup.injEq, decide_eq_true_eq, beq_iff_eq, Bool.false_eq_true, if_true, if_false, reduceIte, wipeD, List.foldr_cons, List.foldr_nil, Nat.reduceLeDiff, List.cons.injEq, and_self, List.length_cons, List.length_nil]
  intro w hw
  try simp only [dSeq, dGetI_eq, Bool.not_true, Bool.not_false, dAsg, dOp, dVar, dC, gNm, gTp, gCn, gNl, dRet, dIf, dTest, dTru, dNot, dAnd, dOr, dNext, dDrop, dCons, dNil, dTup, dLst, dEmp, dEmpG, dPar, dPar3, dSetI, dCall, dCB, dBM, dBM0, dIfE, dNeg, dSl, dPart, dNoP, dAug, addI, dBreak, dCont, dAlt, dYes, dPairs, dDisp, gSubD, dBMd, addD_ii, addD_ss, addD_tt, subD_ii, mulD_ii, modD_ii, fdivD_ii, powD_ii, ltD_ii, leD_ii, gtD_ii, geD_ii, ltD_ss, leD_ss, eqR_ii, eqR_ss, eqR_tt, eqR_bb, abs_ii, max_ii, min_ii, truD_b, slD_t, slD_s, inR_t, List.map, List.length, List.replicate, List.cons_append, List.nil_append, List.append_nil, List.getElem?_cons_succ, List.getElem?_cons_zero, Option.some.injEq, exists_eq_left', exists_eq_left, ex2, ex3, exists_eq', List.set_cons_succ, List.set_cons_zero, Nat.reduceAdd, Nat.reduceSub, true_and, and_true, D.bl.injEq, D.int.injEq, D.str.injEq, D.ptr.injEq, D.tup.injEq, decide_eq_true_eq, beq_iff_eq, Bool.false_eq_true, if_true, if_false, reduceIte, wipeD, List.foldr_cons, List.foldr_nil, Nat.reduceLeDiff, List.cons.injEq, and_self, List.length_cons, List.length_nil]
  have c1 : up C w (.lst [.str b]) w = some (.lst ([b].map D.str)) := up_same
  have k1 : Kp (fun r => r = w) C (up C w (.lst [.str b])) := (Kp.refl C).put rfl
  generalize up C w (.lst [.str b]) = C1 at c1 k1
  unfold dWhile
  refine ⟨fun m sl C' => ∃ (n : Nat) (x4 x5 : Option D) (S : List (List Nat)), sl = [some src, some (.str b), some (.ptr w), some (.int n), x4, x5] ∧ C' w = some (.lst (S.map D.str)) ∧ S.Nodup ∧ b ∈ S ∧ (∀ x ∈ S, Reach es b x) ∧ n ≤ S.length ∧ (n = S.length → ∀ x ∈ S, ∀ y, (x, y) ∈ es → y ∈ S) ∧ m = es.length + 2 - n ∧ Kp (fun r => r = w) C C',
    ⟨_, 0, none, none, [b], rfl, c1, by simp, by simp, by intro x hx; rw [List.mem_singleton.mp hx]; exact .base, Nat.zero_le _, fun h => by simp at h, rfl, k1⟩, fun m sl C2 hW => ?_⟩
  obtain ⟨n, x4, x5, S, rfl, d1, nd, hb, hr, hn, hcl, rfl, k2⟩ := hW
  have hlen := reach_len nd hr
  try simp only [dSeq, dGetI_eq, Bool.not_true, Bool.not_false, dAsg, dOp, dVar, dC, gNm, gTp, gCn, gNl, dRet, dIf, dTest, dTru, dNot, dAnd, dOr, dNext, dDrop, dCons, dNil, dTup, dLst, dEmp, dEmpG, dPar, dPar3, dSetI, dCall, dCB, dBM, dBM0, dIfE, dNeg, dSl, dPart, dNoP, dAug, addI, dBreak, dCont, dAlt, dYes, dPairs, dDisp, gSubD, dBMd, addD_ii, addD_ss, addD_tt, subD_ii, mulD_ii, modD_ii, fdivD_ii, powD_ii, ltD_ii, leD_ii, gtD_ii, geD_ii, ltD_ss, leD_ss, eqR_ii, eqR_ss, eqR_tt, eqR_bb, abs_ii, max_ii, min_ii, truD_b, slD_t, slD_s, inR_t, List.map, List.length, List.replicate, List.cons_append, List.nil_append, List.append_nil, List.getElem?_cons_succ, List.getElem?_cons_zero, Option.some.injEq, exists_eq_left', exists_eq_left, ex2, ex3, exists_eq', List.set_cons_succ, List.set_cons_zero, Nat.reduceAdd, Nat.reduceSub, true_and, and_true, D.bl.injEq, D.int.injEq, D.str.injEq, D.ptr.injEq, D.tup.injEq, decide_eq_true_eq, beq_iff_eq, Bool.false_eq_true, if_true, if_false, reduceIte, wipeD, List.foldr_cons, List.foldr_nil, Nat.reduceLeDiff, List.cons.injEq, and_self, List.length_cons, List.length_nil]
  refine len_l (.inl d1) ?_
  try simp only [dSeq, dGetI_eq, Bool.not_true, Bool.not_false, dAsg, dOp, dVar, dC, gNm, gTp, gCn, gNl, dRet, dIf, dTest, dTru, dNot, dAnd, dOr, dNext, dDrop, dCons, dNil, dTup, dLst, dEmp, dEmpG, dPar, dPar3, dSetI, dCall, dCB, dBM, dBM0, dIfE, dNeg, dSl, dPart, dNoP, dAug, addI, dBreak, dCont, dAlt, dYes, dPairs, dDisp, gSubD, dBMd, addD_ii, addD_ss, addD_tt, subD_ii, mulD_ii, modD_ii, fdivD_ii, powD_ii, ltD_ii, leD_ii, gtD_ii, geD_ii, ltD_ss, leD_ss, eqR_ii, eqR_ss, eqR_tt, eqR_bb, abs_ii, max_ii, min_ii, truD_b, slD_t, slD_s, inR_t, List.map, List.length, List.replicate, List.cons_append, List.nil_append, List.append_nil, List.getElem?_cons_succ, List.getElem?_cons_zero, Option.some.injEq, exists_eq_left', exists_eq_left, ex2, ex3, exists_eq', List.set_cons_succ, List.set_cons_zero, Nat.reduceAdd, Nat.reduceSub, true_and, and_true, D.bl.injEq, D.int.injEq, D.str.injEq, D.ptr.injEq, D.tup.injEq, decide_eq_true_eq, beq_iff_eq, Bool.false_eq_true, if_true, if_false, reduceIte, wipeD, List.foldr_cons, List.foldr_nil, Nat.reduceLeDiff, List.cons.injEq, and_self, List.length_cons, List.length_nil]
  rw [List.length_map]
  split
  · rename_i hlt
    have hlt : n < S.length := by omega
    unfold l__law_led_2
    try simp only [dSeq, dGetI_eq, Bool.not_true, Bool.not_false, dAsg, dOp, dVar, dC, gNm, gTp, gCn, gNl, dRet, dIf, dTest, dTru, dNot, dAnd, dOr, dNext, dDrop, dCons, dNil, dTup, dLst, dEmp, dEmpG, dPar, dPar3, dSetI, dCall, dCB, dBM, dBM0, dIfE, dNeg, dSl, dPart, dNoP, dAug, addI, dBreak, dCont, dAlt, dYes, dPairs, dDisp, gSubD, dBMd, addD_ii, addD_ss, addD_tt, subD_ii, mulD_ii, modD_ii, fdivD_ii, powD_ii, ltD_ii, leD_ii, gtD_ii, geD_ii, ltD_ss, leD_ss, eqR_ii, eqR_ss, eqR_tt, eqR_bb, abs_ii, max_ii, min_ii, truD_b, slD_t, slD_s, inR_t, List.map, List.length, List.replicate, List.cons_append, List.nil_append, List.append_nil, List.getElem?_cons_succ, List.getElem?_cons_zero, Option.some.injEq, exists_eq_left', exists_eq_left, ex2, ex3, exists_eq', List.set_cons_succ, List.set_cons_zero, Nat.reduceAdd, Nat.reduceSub, true_and, and_true, D.bl.injEq, D.int.injEq, D.str.injEq, D.ptr.injEq, D.tup.injEq, decide_eq_true_eq, beq_iff_eq, Bool.false_eq_true, if_true, if_false, reduceIte, wipeD, List.foldr_cons, List.foldr_nil, Nat.reduceLeDiff, List.cons.injEq, and_self, List.length_cons, List.length_nil]
    refine len_l (.inl d1) ?_
    try simp only [dSeq, dGetI_eq, Bool.not_true, Bool.not_false, dAsg, dOp, dVar, dC, gNm, gTp, gCn, gNl, dRet, dIf, dTest, dTru, dNot, dAnd, dOr, dNext, dDrop, dCons, dNil, dTup, dLst, dEmp, dEmpG, dPar, dPar3, dSetI, dCall, dCB, dBM, dBM0, dIfE, dNeg, dSl, dPart, dNoP, dAug, addI, dBreak, dCont, dAlt, dYes, dPairs, dDisp, gSubD, dBMd, addD_ii, addD_ss, addD_tt, subD_ii, mulD_ii, modD_ii, fdivD_ii, powD_ii, ltD_ii, leD_ii, gtD_ii, geD_ii, ltD_ss, leD_ss, eqR_ii, eqR_ss, eqR_tt, eqR_bb, abs_ii, max_ii, min_ii, truD_b, slD_t, slD_s, inR_t, List.map, List.length, List.replicate, List.cons_append, List.nil_append, List.append_nil, List.getElem?_cons_succ, List.getElem?_cons_zero, Option.some.injEq, exists_eq_left', exists_eq_left, ex2, ex3, exists_eq', List.set_cons_succ, List.set_cons_zero, Nat.reduceAdd, Nat.reduceSub, true_and, and_true, D.bl.injEq, D.int.injEq, D.str.injEq, D.ptr.injEq, D.tup.injEq, decide_eq_true_eq, beq_iff_eq, Bool.false_eq_true, if_true, if_false, reduceIte, wipeD, List.foldr_cons, List.foldr_nil, Nat.reduceLeDiff, List.cons.injEq, and_self, List.length_cons, List.length_nil]
    rw [List.length_map]
    unfold dFor dAltI
    have body : ∀ (ok : Cp → Prop), (∀ C', Kp (fun r => r = w) C C' → ok C') → ∃ Pv : Nat → Sl → Cp → Prop, Pv 0 [some src, some (.str b), some (.ptr w), some (.int (S.length : Int)), x4, x5] C2 ∧ (∀ i s C, i ≤ (es.map edD).length → Pv i s C → ok C) ∧
        (∀ i x s C, (es.map edD)[i]? = some x → Pv i s C → gTp 2 (gCn (gNm 4) (gCn (gNm 5) gNl)) x s C fun s2 C2' => l__law_led_1 { nx := fun s' C' => ∃ C'', Sub C'' C' ∧ Pv (i + 1) s' C'', rt := fun d C' => ∃ C'', Sub C'' C' ∧ Q d C'', bk := fun s' C' => ∃ m', m' < es.length + 2 - n ∧ ∃ C'', Sub C'' C' ∧ ∃ (n : Nat) (x4 x5 : Option D) (S : List (List Nat)), s' = [some src, some (.str b), some (.ptr w), some (.int n), x4, x5] ∧ C'' w = some (.lst (S.map D.str)) ∧ S.Nodup ∧ b ∈ S ∧ (∀ x ∈ S, Reach es b x) ∧ n ≤ S.length ∧ (n = S.length → ∀ x ∈ S, ∀ y, (x, y) ∈ es → y ∈ S) ∧ m' = es.length + 2 - n ∧ Kp (fun r => r = w) C C'', ct := fun s' C' => ∃ C'', Sub C'' C' ∧ Pv (i + 1) s' C'' } s2 C2') ∧
        ∀ s C', Pv (es.map edD).length s C' → ∃ m', m' < es.length + 2 - n ∧ ∃ C'', Sub C'' C' ∧ ∃ (n : Nat) (x4 x5 : Option D) (S : List (List Nat)), s = [some src, some (.str b), some (.ptr w), some (.int n), x4, x5] ∧ C'' w = some (.lst (S.map D.str)) ∧ S.Nodup ∧ b ∈ S ∧ (∀ x ∈ S, Reach es b x) ∧ n ≤ S.length ∧ (n = S.length → ∀ x ∈ S, ∀ y, (x, y) ∈ es → y ∈ S) ∧ m' = es.length + 2 - n ∧ Kp (fun r => r = w) C C'' := by
      intro ok hok
      refine ⟨fun i sl C' => ∃ (x4 x5 : Option D) (T : List (List Nat)), sl = [some src, some (.str b), some (.ptr w), some (.int (S.length : Int)), x4, x5] ∧ C' w = some (.lst ((S ++ T).map D.str)) ∧ (S ++ T).Nodup ∧ (∀ x ∈ S ++ T, Reach es b x) ∧ (T = [] → ∀ x y, (x, y) ∈ es.take i → x ∈ S → y ∈ S) ∧ Kp (fun r => r = w) C C',
        ⟨x4, x5, [], rfl, by rw [List.append_nil]; exact d1, by rw [List.append_nil]; exact nd, by rw [List.append_nil]; exact hr, fun _ x y h => by simp at h, k2⟩, fun _ _ _ _ hp => ?_, fun i x sl C5 e hp => ?_, fun sl C5 hp => ?_⟩
      · obtain ⟨_, _, _, _, _, _, _, _, kk⟩ := hp
        exact hok _ kk
      · obtain ⟨a, c, ee, rfl⟩ := ed_at e
        obtain ⟨y4, y5, T, rfl, g1, nd', hr', hdone, k5⟩ := hp
        unfold l__law_led_1
        try simp only [dSeq, dGetI_eq, Bool.not_true, Bool.not_false, dAsg, dOp, dVar, dC, gNm, gTp, gCn, gNl, dRet, dIf, dTest, dTru, dNot, dAnd, dOr, dNext, dDrop, dCons, dNil, dTup, dLst, dEmp, dEmpG, dPar, dPar3, dSetI, dCall, dCB, dBM, dBM0, dIfE, dNeg, dSl, dPart, dNoP, dAug, addI, dBreak, dCont, dAlt, dYes, dPairs, dDisp, gSubD, dBMd, addD_ii, addD_ss, addD_tt, subD_ii, mulD_ii, modD_ii, fdivD_ii, powD_ii, ltD_ii, leD_ii, gtD_ii, geD_ii, ltD_ss, leD_ss, eqR_ii, eqR_ss, eqR_tt, eqR_bb, abs_ii, max_ii, min_ii, truD_b, slD_t, slD_s, inR_t, List.map, List.length, List.replicate, List.cons_append, List.nil_append, List.append_nil, List.getElem?_cons_succ, List.getElem?_cons_zero, Option.some.injEq, exists_eq_left', exists_eq_left, ex2, ex3, exists_eq', List.set_cons_succ, List.set_cons_zero, Nat.reduceAdd, Nat.reduceSub, true_and, and_true, D.bl.injEq, D.int.injEq, D.str.injEq, D.ptr.injEq, D.tup.injEq, decide_eq_true_eq, beq_iff_eq, Bool.false_eq_true, if_true, if_false, reduceIte, wipeD, List.foldr_cons, List.foldr_nil, Nat.reduceLeDiff, List.cons.injEq, and_self, List.length_cons, List.length_nil]
        have same : (T = [] → a ∈ S → c ∈ S) → ∃ C'', Sub C'' C5 ∧ ∃ (x4 x5 : Option D) (T : List (List Nat)), (some (D.str a) = x4 ∧ some (D.str c) = x5) ∧ C'' w = some (.lst ((S ++ T).map D.str)) ∧ (S ++ T).Nodup ∧ (∀ x ∈ S ++ T, Reach es b x) ∧ (T = [] → ∀ x y, (x, y) ∈ es.take (i + 1) → x ∈ S → y ∈ S) ∧ Kp (fun r => r = w) C C'' := fun hc =>
          ⟨C5, Sub.refl _, _, _, T, ⟨rfl, rfl⟩, g1, nd', hr', fun ht x y hy hx => by
            rcases mem_take_succ ee hy with hy | hy
            · exact hdone ht x y hy hx
            · cases hy; exact hc ht hx, k5⟩
        refine inR_l (.inl g1) rfl (npts_strs _) ?_
        rw [memD_strs]
        try simp only [dSeq, dGetI_eq, Bool.not_true, Bool.not_false, dAsg, dOp, dVar, dC, gNm, gTp, gCn, gNl, dRet, dIf, dTest, dTru, dNot, dAnd, dOr, dNext, dDrop, dCons, dNil, dTup, dLst, dEmp, dEmpG, dPar, dPar3, dSetI, dCall, dCB, dBM, dBM0, dIfE, dNeg, dSl, dPart, dNoP, dAug, addI, dBreak, dCont, dAlt, dYes, dPairs, dDisp, gSubD, dBMd, addD_ii, addD_ss, addD_tt, subD_ii, mulD_ii, modD_ii, fdivD_ii, powD_ii, ltD_ii, leD_ii, gtD_ii, geD_ii, ltD_ss, leD_ss, eqR_ii, eqR_ss, eqR_tt, eqR_bb, abs_ii, max_ii, min_ii, truD_b, slD_t, slD_s, inR_t, List.map, List.length, List.replicate, List.cons_append, List.nil_append, List.append_nil, List.getElem?_cons_succ, List.getElem?_cons_zero, Option.some.injEq, exists_eq_left', exists_eq_left, ex2, ex3, exists_eq', List.set_cons_succ, List.set_cons_zero, Nat.reduceAdd, Nat.reduceSub, true_and, and_true, D.bl.injEq, D.int.injEq, D.str.injEq, D.ptr.injEq, D.tup.injEq, decide_eq_true_eq, beq_iff_eq, Bool.false_eq_true, if_true, if_false, reduceIte, wipeD, List.foldr_cons, List.foldr_nil, Nat.reduceLeDiff, List.cons.injEq, and_self, List.length_cons, List.length_nil]
        split
        · rename_i ha
          have ha : a ∈ S ++ T := by simpa using ha
          refine inR_l (.inl g1) rfl (npts_strs _) ?_
          rw [memD_strs]
          try simp only [dSeq, dGetI_eq, Bool.not_true, Bool.not_false, dAsg, dOp, dVar, dC, gNm, gTp, gCn, gNl, dRet, dIf, dTest, dTru, dNot, dAnd, dOr, dNext, dDrop, dCons, dNil, dTup, dLst, dEmp, dEmpG, dPar, dPar3, dSetI, dCall, dCB, dBM, dBM0, dIfE, dNeg, dSl, dPart, dNoP, dAug, addI, dBreak, dCont, dAlt, dYes, dPairs, dDisp, gSubD, dBMd, addD_ii, addD_ss, addD_tt, subD_ii, mulD_ii, modD_ii, fdivD_ii, powD_ii, ltD_ii, leD_ii, gtD_ii, geD_ii, ltD_ss, leD_ss, eqR_ii, eqR_ss, eqR_tt, eqR_bb, abs_ii, max_ii, min_ii, truD_b, slD_t, slD_s, inR_t, List.map, List.length, List.replicate, List.cons_append, List.nil_append, List.append_nil, List.getElem?_cons_succ, List.getElem?_cons_zero, Option.some.injEq, exists_eq_left', exists_eq_left, ex2, ex3, exists_eq', List.set_cons_succ, List.set_cons_zero, Nat.reduceAdd, Nat.reduceSub, true_and, and_true, D.bl.injEq, D.int.injEq, D.str.injEq, D.ptr.injEq, D.tup.injEq, decide_eq_true_eq, beq_iff_eq, Bool.false_eq_true, if_true, if_false, reduceIte, wipeD, List.foldr_cons, List.foldr_nil, Nat.reduceLeDiff, List.cons.injEq, and_self, List.length_cons, List.length_nil]
          split
          · rename_i hc
            have hc : c ∉ S ++ T := by simpa using hc
            have hrc : Reach es b c := .step (hr' _ ha) (List.mem_of_getElem? ee)
            have hnd : ((S ++ T) ++ [c]).Nodup := by
              rw [List.nodup_append]
              refine ⟨nd', by simp, fun x hx y hy => ?_⟩
              rw [List.mem_singleton.mp hy]
              intro z; subst z; exact hc hx
            have ln' := reach_len nd' hr'
            refine ⟨tyL (.inl g1), app_l g1 (by rw [List.length_map, sizeLine_eq]; omega) ?_⟩
            refine ⟨_, Sub.refl _, _, _, T ++ [c], ⟨rfl, rfl⟩, ?_, ?_, ?_, fun h => ?_, k5.put rfl⟩
            · rw [up_same, ← List.append_assoc, List.map_append (l₁ := S ++ T)]; rfl
            · rw [← List.append_assoc]; exact hnd
            · rw [← List.append_assoc]
              intro x hx
              rcases List.mem_append.mp hx with hx | hx
              · exact hr' x hx
              · rw [List.mem_singleton.mp hx]; exact hrc
            · simp at h
          · rename_i hc
            exact same fun ht _ => by subst ht; simpa using hc
        · rename_i ha
          exact same fun ht hx => absurd (by subst ht; simpa using hx) ha
      · obtain ⟨y4, y5, T, rfl, g1, nd', hr', hdone, k5⟩ := hp
        rw [List.length_map, List.take_length] at hdone
        refine ⟨_, by omega, C5, Sub.refl _, S.length, _, _, S ++ T, rfl, g1, nd', List.mem_append_left _ hb, hr', by rw [List.length_append]; omega, fun h => ?_, rfl, k5⟩
        have ht : T = [] := by
          rw [List.length_append] at h
          exact List.length_eq_zero_iff.mp (by omega)
        subst ht
        rw [List.append_nil]
        exact fun x hx y hy => hdone rfl x y hy hx
    rcases hs with hs | ⟨r, hs, hrl⟩
    · subst hs
      first | refine .inr ?_ | skip
      unfold dOverT
      try simp only [dSeq, dGetI_eq, Bool.not_true, Bool.not_false, dAsg, dOp, dVar, dC, gNm, gTp, gCn, gNl, dRet, dIf, dTest, dTru, dNot, dAnd, dOr, dNext, dDrop, dCons, dNil, dTup, dLst, dEmp, dEmpG, dPar, dPar3, dSetI, dCall, dCB, dBM, dBM0, dIfE, dNeg, dSl, dPart, dNoP, dAug, addI, dBreak, dCont, dAlt, dYes, dPairs, dDisp, gSubD, dBMd, addD_ii, addD_ss, addD_tt, subD_ii, mulD_ii, modD_ii, fdivD_ii, powD_ii, ltD_ii, leD_ii, gtD_ii, geD_ii, ltD_ss, leD_ss, eqR_ii, eqR_ss, eqR_tt, eqR_bb, abs_ii, max_ii, min_ii, truD_b, slD_t, slD_s, inR_t, List.map, List.length, List.replicate, List.cons_append, List.nil_append, List.append_nil, List.getElem?_cons_succ, List.getElem?_cons_zero, Option.some.injEq, exists_eq_left', exists_eq_left, ex2, ex3, exists_eq', List.set_cons_succ, List.set_cons_zero, Nat.reduceAdd, Nat.reduceSub, true_and, and_true, D.bl.injEq, D.int.injEq, D.str.injEq, D.ptr.injEq, D.tup.injEq, decide_eq_true_eq, beq_iff_eq, Bool.false_eq_true, if_true, if_false, reduceIte, wipeD, List.foldr_cons, List.foldr_nil, Nat.reduceLeDiff, List.cons.injEq, and_self, List.length_cons, List.length_nil]
      exact body (fun _ => True) fun _ _ => trivial
    · subst hs
      first | refine .inl ?_ | skip
      unfold dOver
      try simp only [dSeq, dGetI_eq, Bool.not_true, Bool.not_false, dAsg, dOp, dVar, dC, gNm, gTp, gCn, gNl, dRet, dIf, dTest, dTru, dNot, dAnd, dOr, dNext, dDrop, dCons, dNil, dTup, dLst, dEmp, dEmpG, dPar, dPar3, dSetI, dCall, dCB, dBM, dBM0, dIfE, dNeg, dSl, dPart, dNoP, dAug, addI, dBreak, dCont, dAlt, dYes, dPairs, dDisp, gSubD, dBMd, addD_ii, addD_ss, addD_tt, subD_ii, mulD_ii, modD_ii, fdivD_ii, powD_ii, ltD_ii, leD_ii, gtD_ii, geD_ii, ltD_ss, leD_ss, eqR_ii, eqR_ss, eqR_tt, eqR_bb, abs_ii, max_ii, min_ii, truD_b, slD_t, slD_s, inR_t, List.map, List.length, List.replicate, List.cons_append, List.nil_append, List.append_nil, List.getElem?_cons_succ, List.getElem?_cons_zero, Option.some.injEq, exists_eq_left', exists_eq_left, ex2, ex3, exists_eq', List.set_cons_succ, List.set_cons_zero, Nat.reduceAdd, Nat.reduceSub, true_and, and_true, D.bl.injEq, D.int.injEq, D.str.injEq, D.ptr.injEq, D.tup.injEq, decide_eq_true_eq, beq_iff_eq, Bool.false_eq_true, if_true, if_false, reduceIte, wipeD, List.foldr_cons, List.foldr_nil, Nat.reduceLeDiff, List.cons.injEq, and_self, List.length_cons, List.length_nil]
      have nr : ¬ (r = w) := by
        intro e
        subst e; rcases hrl with e | e <;> (rw [hw] at e; cases e)
      exact ⟨_, k2.isL nr hrl, body _ fun C' kk => kk.isL nr hrl⟩
  · rename_i hge
    have hge : n = S.length := by omega
    unfold r__law_led_1
    try simp only [dSeq, dGetI_eq, Bool.not_true, Bool.not_false, dAsg, dOp, dVar, dC, gNm, gTp, gCn, gNl, dRet, dIf, dTest, dTru, dNot, dAnd, dOr, dNext, dDrop, dCons, dNil, dTup, dLst, dEmp, dEmpG, dPar, dPar3, dSetI, dCall, dCB, dBM, dBM0, dIfE, dNeg, dSl, dPart, dNoP, dAug, addI, dBreak, dCont, dAlt, dYes, dPairs, dDisp, gSubD, dBMd, addD_ii, addD_ss, addD_tt, subD_ii, mulD_ii, modD_ii, fdivD_ii, powD_ii, ltD_ii, leD_ii, gtD_ii, geD_ii, ltD_ss, leD_ss, eqR_ii, eqR_ss, eqR_tt, eqR_bb, abs_ii, max_ii, min_ii, truD_b, slD_t, slD_s, inR_t, List.map, List.length, List.replicate, List.cons_append, List.nil_append, List.append_nil, List.getElem?_cons_succ, List.getElem?_cons_zero, Option.some.injEq, exists_eq_left', exists_eq_left, ex2, ex3, exists_eq', List.set_cons_succ, List.set_cons_zero, Nat.reduceAdd, Nat.reduceSub, true_and, and_true, D.bl.injEq, D.int.injEq, D.str.injEq, D.ptr.injEq, D.tup.injEq, decide_eq_true_eq, beq_iff_eq, Bool.false_eq_true, if_true, if_false, reduceIte, wipeD, List.foldr_cons, List.foldr_nil, Nat.reduceLeDiff, List.cons.injEq, and_self, List.length_cons, List.length_nil]
    refine sorted_l (xs := S.map D.str) (.inl (.inl d1)) (sortOk_strs S) fun u hu => ?_
    refine tuple_l (.inl up_same) ⟨_, Sub.refl _, ?_⟩
    refine k _ _ ⟨S, nd, fun x => ⟨hr x, fun h => reach_in hb (hcl hge) h⟩, rfl⟩ fun r c _ e => ?_
    refine (k2.new hu) r c ?_ e
    intro h
    subst h; rw [hw] at e; cases e
end K06

namespace K06
open PySem PySem.Spec PyProof.Rows KB
open L2 hiding op_eqD op_neD call_listD
variable {C : Cp} {p q : Addr} {N : Nat} {Q : DQ} {E : Exn → Cp → Prop}
theorem reach_pre {es : List Ed} {x y z : List Nat} (h : (x, y) ∈ es) (r : Reach es y z) : Reach es x z := by
  induction r with
  | base => exact .step .base h
  | step _ h2 ih => exact .step ih h2
theorem reach_back {es fs : List Ed} (hf : ∀ x y, (x, y) ∈ es → (y, x) ∈ fs) {o i : List Nat} (r : Reach es o i) : Reach fs i o := by
  induction r with
  | base => exact .base
  | step _ h ih => exact reach_pre (hf _ _ h) ih
theorem mem_sw {es : List Ed} {x y : List Nat} : (x, y) ∈ es.map sw ↔ (y, x) ∈ es := by
  constructor
  · intro h
    obtain ⟨⟨a, b⟩, h1, e⟩ := List.mem_map.mp h
    cases e
    exact h1
  · intro h
    exact List.mem_map.mpr ⟨_, h, rfl⟩
theorem reach_sw {es : List Ed} {o i : List Nat} : Reach es o i ↔ Reach (es.map sw) i o := ⟨reach_back fun x y h => mem_sw.mpr h, reach_back fun x y h => mem_sw.mp h⟩
theorem eqD_refl_strs (ts : List (List Nat)) : eqD (.tup (ts.map D.str)) (.tup (ts.map D.str)) = true := by
  show eqDs _ _ = true
  induction ts with
  | nil => rfl
  | cons x r ih =>
    rw [List.map_cons]
    unfold eqDs eqD
    rw [ih]
    simp
theorem ok_strs (ts : List (List Nat)) : okEq (.tup (ts.map D.str)) := by
  refine ⟨?_, ?_⟩
  · unfold npt; exact (npts_strs ts).1
  · have : deps (ts.map D.str) ≤ 1 := by
      induction ts with
      | nil => exact Nat.zero_le _
      | cons x r ih =>
        rw [List.map_cons]
        unfold deps dep
        omega
    unfold dep
    omega
theorem Pot.kp (h : Pot C p q N) {C' : Cp} {S : Addr → Prop} (k : Kp S C C') (n : ∀ r, S2 p q r → ¬ S r) : Pot C' p q N := by
  obtain ⟨xs, b, c', n', h1, h2, h3⟩ := h
  exact ⟨xs, b, c', n', k _ _ (n _ (.inl rfl)) h1, k _ _ (n _ (.inr rfl)) h2, h3⟩
theorem right {ms : List (List Nat)} {es : List Ed} {r : Addr} (hP : Pot C p q N) (hN : N + 300 < 2 ^ 19) (hr : C r = some (.lst (ms.map .str))) (hn : ¬ S2 p q r) (h1 : 0 < ms.length) (h2 : ms.length ≤ 40) (hl : es.length ≤ 200) (k : ∀ C', Pot C' p q (N + 100) → Kp (S2 p q) C C' → Q (.bl true) C') : D__law_right [.ptr p, .tup (es.map edD), .ptr r] C Q E := by
  unfold D__law_right runD r__law_right
  try simp only [dSeq, dGetI_eq, Bool.not_true, Bool.not_false, dAsg, dOp, dVar, dC, gNm, gTp, gCn, gNl, dRet, dIf, dTest, dTru, dNot, dAnd, dOr, dNext, dDrop, dCons, dNil, dTup, dLst, dEmp, dEmpG, dPar, dPar3, dSetI, dCall, dCB, dBM, dBM0, dIfE, dNeg, dSl, dPart, dNoP, dAug, addI, dBreak, dCont, dAlt, dYes, dPairs, dDisp, gSubD, dBMd, addD_ii, addD_ss, addD_tt, subD_ii, mulD_ii, modD_ii, fdivD_ii, powD_ii, ltD_ii, leD_ii, gtD_ii, geD_ii, ltD_ss, leD_ss, eqR_ii, eqR_ss, eqR_tt, eqR_bb, abs_ii, max_ii, min_ii, truD_b, slD_t, slD_s, inR_t, List.map, List.length, List.replicate, List.cons_append, List.nil_append, List.append_nil, List.getElem?_cons_succ, List.getElem?_cons_zero, Option.some.injEq, exists_eq_left', exists_eq_left, ex2, ex3, exists_eq', List.set_cons_succ, List.set_cons_zero, Nat.reduceAdd, Nat.reduceSub, true_and, and_true, D.bl.injEq, D.int.injEq, D.str.injEq, D.ptr.injEq, D.tup.injEq, decide_eq_true_eq, beq_iff_eq, Bool.false_eq_true, if_true, if_false, reduceIte, wipeD, List.foldr_cons, List.foldr_nil, Nat.reduceLeDiff, List.cons.injEq, and_self, List.length_cons, List.length_nil]
  unfold dLc
  try unfold dOverT
  try simp only [dSeq, dGetI_eq, Bool.not_true, Bool.not_false, dAsg, dOp, dVar, dC, gNm, gTp, gCn, gNl, dRet, dIf, dTest, dTru, dNot, dAnd, dOr, dNext, dDrop, dCons, dNil, dTup, dLst, dEmp, dEmpG, dPar, dPar3, dSetI, dCall, dCB, dBM, dBM0, dIfE, dNeg, dSl, dPart, dNoP, dAug, addI, dBreak, dCont, dAlt, dYes, dPairs, dDisp, gSubD, dBMd, addD_ii, addD_ss, addD_tt, subD_ii, mulD_ii, modD_ii, fdivD_ii, powD_ii, ltD_ii, leD_ii, gtD_ii, geD_ii, ltD_ss, leD_ss, eqR_ii, eqR_ss, eqR_tt, eqR_bb, abs_ii, max_ii, min_ii, truD_b, slD_t, slD_s, inR_t, List.map, List.length, List.replicate, List.cons_append, List.nil_append, List.append_nil, List.getElem?_cons_succ, List.getElem?_cons_zero, Option.some.injEq, exists_eq_left', exists_eq_left, ex2, ex3, exists_eq', List.set_cons_succ, List.set_cons_zero, Nat.reduceAdd, Nat.reduceSub, true_and, and_true, D.bl.injEq, D.int.injEq, D.str.injEq, D.ptr.injEq, D.tup.injEq, decide_eq_true_eq, beq_iff_eq, Bool.false_eq_true, if_true, if_false, reduceIte, wipeD, List.foldr_cons, List.foldr_nil, Nat.reduceLeDiff, List.cons.injEq, and_self, List.length_cons, List.length_nil]
  refine ⟨fun i acc C' => acc = ((es.map sw).take i).map edD ∧ C' = C, ⟨by simp, rfl⟩, fun _ _ _ _ _ => trivial, fun i x acc C' e hp hi => ?_, by rw [List.length_map, sizeLine_eq]; omega, fun acc C' bk hp hbk => ?_⟩
  · obtain ⟨rfl, rfl⟩ := hp
    obtain ⟨a, c, ee, rfl⟩ := ed_at e
    try simp only [dSeq, dGetI_eq, Bool.not_true, Bool.not_false, dAsg, dOp, dVar, dC, gNm, gTp, gCn, gNl, dRet, dIf, dTest, dTru, dNot, dAnd, dOr, dNext, dDrop, dCons, dNil, dTup, dLst, dEmp, dEmpG, dPar, dPar3, dSetI, dCall, dCB, dBM, dBM0, dIfE, dNeg, dSl, dPart, dNoP, dAug, addI, dBreak, dCont, dAlt, dYes, dPairs, dDisp, gSubD, dBMd, addD_ii, addD_ss, addD_tt, subD_ii, mulD_ii, modD_ii, fdivD_ii, powD_ii, ltD_ii, leD_ii, gtD_ii, geD_ii, ltD_ss, leD_ss, eqR_ii, eqR_ss, eqR_tt, eqR_bb, abs_ii, max_ii, min_ii, truD_b, slD_t, slD_s, inR_t, List.map, List.length, List.replicate, List.cons_append, List.nil_append, List.append_nil, List.getElem?_cons_succ, List.getElem?_cons_zero, Option.some.injEq, exists_eq_left', exists_eq_left, ex2, ex3, exists_eq', List.set_cons_succ, List.set_cons_zero, Nat.reduceAdd, Nat.reduceSub, true_and, and_true, D.bl.injEq, D.int.injEq, D.str.injEq, D.ptr.injEq, D.tup.injEq, decide_eq_true_eq, beq_iff_eq, Bool.false_eq_true, if_true, if_false, reduceIte, wipeD, List.foldr_cons, List.foldr_nil, Nat.reduceLeDiff, List.cons.injEq, and_self, List.length_cons, List.length_nil]
    refine ⟨C', Sub.refl _, ?_, rfl⟩
    rw [List.take_add_one, List.getElem?_map, ee, List.map_append]
    rfl
  obtain ⟨rfl, rfl⟩ := hp
  intro a ha b hb
  try simp only [dSeq, dGetI_eq, Bool.not_true, Bool.not_false, dAsg, dOp, dVar, dC, gNm, gTp, gCn, gNl, dRet, dIf, dTest, dTru, dNot, dAnd, dOr, dNext, dDrop, dCons, dNil, dTup, dLst, dEmp, dEmpG, dPar, dPar3, dSetI, dCall, dCB, dBM, dBM0, dIfE, dNeg, dSl, dPart, dNoP, dAug, addI, dBreak, dCont, dAlt, dYes, dPairs, dDisp, gSubD, dBMd, addD_ii, addD_ss, addD_tt, subD_ii, mulD_ii, modD_ii, fdivD_ii, powD_ii, ltD_ii, leD_ii, gtD_ii, geD_ii, ltD_ss, leD_ss, eqR_ii, eqR_ss, eqR_tt, eqR_bb, abs_ii, max_ii, min_ii, truD_b, slD_t, slD_s, inR_t, List.map, List.length, List.replicate, List.cons_append, List.nil_append, List.append_nil, List.getElem?_cons_succ, List.getElem?_cons_zero, Option.some.injEq, exists_eq_left', exists_eq_left, ex2, ex3, exists_eq', List.set_cons_succ, List.set_cons_zero, Nat.reduceAdd, Nat.reduceSub, true_and, and_true, D.bl.injEq, D.int.injEq, D.str.injEq, D.ptr.injEq, D.tup.injEq, decide_eq_true_eq, beq_iff_eq, Bool.false_eq_true, if_true, if_false, reduceIte, wipeD, List.foldr_cons, List.foldr_nil, Nat.reduceLeDiff, List.cons.injEq, and_self, List.length_cons, List.length_nil]
  have hfull : ((es.map sw).take (es.map edD).length).map edD = (es.map sw).map edD := by
    rw [List.length_map, List.take_of_length_le (by rw [List.length_map]; exact Nat.le_refl _)]
  rw [hfull] at ha hb ⊢
  have za : C' a = none := by
    have := ne_fresh up_same ha
    rw [up_ne this] at ha
    exact ha
  have ab : b ≠ a := ne_fresh up_same hb
  have hb1 := hb
  rw [up_ne ab] at hb1
  have bbk : b ≠ bk := ne_fresh up_same hb1
  have zb : C' b = none := by rw [up_ne bbk] at hb1; exact hb1
  have abk : a ≠ bk := ne_fresh up_same ha
  have na := hP.ne za
  have nb := hP.ne zb
  have nbk := hP.ne hbk
  have k0 : Kp None C' (up (up (up C' bk (.lst ((es.map sw).map edD))) a (.dk [])) b (.dk [])) := (((Kp.refl _).new hbk).new ha).new hb
  have cbk : (up (up (up C' bk (.lst ((es.map sw).map edD))) a (.dk [])) b (.dk [])) bk = some (.lst ((es.map sw).map edD)) := by rw [up_ne (Ne.symm bbk), up_ne (Ne.symm abk)]; exact up_same
  have ca : (up (up (up C' bk (.lst ((es.map sw).map edD))) a (.dk [])) b (.dk [])) a = some (.dk []) := by rw [up_ne (Ne.symm ab)]; exact up_same
  have cb : (up (up (up C' bk (.lst ((es.map sw).map edD))) a (.dk [])) b (.dk [])) b = some (.dk []) := up_same
  generalize (up (up (up C' bk (.lst ((es.map sw).map edD))) a (.dk [])) b (.dk [])) = C1 at k0 cbk ca cb
  have hP1 := hP.kp k0 fun _ _ h => h
  have r1 := k0 _ _ (fun h => h) hr
  have nra : r ≠ a := fun e => by subst e; rw [hr] at za; cases za
  have nrb : r ≠ b := fun e => by subst e; rw [hr] at zb; cases zb
  unfold dFor
  try unfold dOver
  try simp only [dSeq, dGetI_eq, Bool.not_true, Bool.not_false, dAsg, dOp, dVar, dC, gNm, gTp, gCn, gNl, dRet, dIf, dTest, dTru, dNot, dAnd, dOr, dNext, dDrop, dCons, dNil, dTup, dLst, dEmp, dEmpG, dPar, dPar3, dSetI, dCall, dCB, dBM, dBM0, dIfE, dNeg, dSl, dPart, dNoP, dAug, addI, dBreak, dCont, dAlt, dYes, dPairs, dDisp, gSubD, dBMd, addD_ii, addD_ss, addD_tt, subD_ii, mulD_ii, modD_ii, fdivD_ii, powD_ii, ltD_ii, leD_ii, gtD_ii, geD_ii, ltD_ss, leD_ss, eqR_ii, eqR_ss, eqR_tt, eqR_bb, abs_ii, max_ii, min_ii, truD_b, slD_t, slD_s, inR_t, List.map, List.length, List.replicate, List.cons_append, List.nil_append, List.append_nil, List.getElem?_cons_succ, List.getElem?_cons_zero, Option.some.injEq, exists_eq_left', exists_eq_left, ex2, ex3, exists_eq', List.set_cons_succ, List.set_cons_zero, Nat.reduceAdd, Nat.reduceSub, true_and, and_true, D.bl.injEq, D.int.injEq, D.str.injEq, D.ptr.injEq, D.tup.injEq, decide_eq_true_eq, beq_iff_eq, Bool.false_eq_true, if_true, if_false, reduceIte, wipeD, List.foldr_cons, List.foldr_nil, Nat.reduceLeDiff, List.cons.injEq, and_self, List.length_cons, List.length_nil]
  refine ⟨_, .inl r1, ?_⟩
  refine ⟨fun i sl C2 => ∃ (x4 : Option D) (R W : List (DKey × D)), sl = [some (.ptr p), some (.tup (es.map edD)), some (.ptr r), some (.ptr bk), x4, none, some (.ptr a), some (.ptr b), none, none, none] ∧ C2 a = some (.dk R) ∧ C2 b = some (.dk W) ∧ R.length ≤ i ∧ W.length ≤ i ∧ (∀ m ∈ ms.take i, ∃ t, lookA W (.inr m) = some (.tup t) ∧ IsR (es.map sw) m t) ∧ Kp (fun x => x = a ∨ x = b) C1 C2,
    ⟨none, [], [], rfl, ca, cb, Nat.zero_le _, Nat.zero_le _, by simp, Kp.refl _⟩, fun i sl C2 _ hp => ?_, fun i x sl C2 e hp => ?_, fun sl C2 hp => ?_⟩
  · obtain ⟨_, _, _, _, _, _, _, _, _, kk⟩ := hp
    exact kk.isL (fun h => h.elim nra nrb) (.inl r1)
  · obtain ⟨x4, R, W, rfl, da, db, lR, lW, hW, k2⟩ := hp
    have hi : i < ms.length := by
      have := (List.getElem?_eq_some_iff.mp e).1
      rwa [List.length_map] at this
    have gm : ms[i]? = some ms[i] := List.getElem?_eq_getElem hi
    rw [List.getElem?_map, gm] at e
    cases e
    generalize hm : ms[i] = m at gm
    unfold l__law_right_1
    try simp only [dSeq, dGetI_eq, Bool.not_true, Bool.not_false, dAsg, dOp, dVar, dC, gNm, gTp, gCn, gNl, dRet, dIf, dTest, dTru, dNot, dAnd, dOr, dNext, dDrop, dCons, dNil, dTup, dLst, dEmp, dEmpG, dPar, dPar3, dSetI, dCall, dCB, dBM, dBM0, dIfE, dNeg, dSl, dPart, dNoP, dAug, addI, dBreak, dCont, dAlt, dYes, dPairs, dDisp, gSubD, dBMd, addD_ii, addD_ss, addD_tt, subD_ii, mulD_ii, modD_ii, fdivD_ii, powD_ii, ltD_ii, leD_ii, gtD_ii, geD_ii, ltD_ss, leD_ss, eqR_ii, eqR_ss, eqR_tt, eqR_bb, abs_ii, max_ii, min_ii, truD_b, slD_t, slD_s, inR_t, List.map, List.length, List.replicate, List.cons_append, List.nil_append, List.append_nil, List.getElem?_cons_succ, List.getElem?_cons_zero, Option.some.injEq, exists_eq_left', exists_eq_left, ex2, ex3, exists_eq', List.set_cons_succ, List.set_cons_zero, Nat.reduceAdd, Nat.reduceSub, true_and, and_true, D.bl.injEq, D.int.injEq, D.str.injEq, D.ptr.injEq, D.tup.injEq, decide_eq_true_eq, beq_iff_eq, Bool.false_eq_true, if_true, if_false, reduceIte, wipeD, List.foldr_cons, List.foldr_nil, Nat.reduceLeDiff, List.cons.injEq, and_self, List.length_cons, List.length_nil]
    refine law_led (.inl rfl) hl fun t1 C3 i1 k3 => ?_
    try simp only [dSeq, dGetI_eq, Bool.not_true, Bool.not_false, dAsg, dOp, dVar, dC, gNm, gTp, gCn, gNl, dRet, dIf, dTest, dTru, dNot, dAnd, dOr, dNext, dDrop, dCons, dNil, dTup, dLst, dEmp, dEmpG, dPar, dPar3, dSetI, dCall, dCB, dBM, dBM0, dIfE, dNeg, dSl, dPart, dNoP, dAug, addI, dBreak, dCont, dAlt, dYes, dPairs, dDisp, gSubD, dBMd, addD_ii, addD_ss, addD_tt, subD_ii, mulD_ii, modD_ii, fdivD_ii, powD_ii, ltD_ii, leD_ii, gtD_ii, geD_ii, ltD_ss, leD_ss, eqR_ii, eqR_ss, eqR_tt, eqR_bb, abs_ii, max_ii, min_ii, truD_b, slD_t, slD_s, inR_t, List.map, List.length, List.replicate, List.cons_append, List.nil_append, List.append_nil, List.getElem?_cons_succ, List.getElem?_cons_zero, Option.some.injEq, exists_eq_left', exists_eq_left, ex2, ex3, exists_eq', List.set_cons_succ, List.set_cons_zero, Nat.reduceAdd, Nat.reduceSub, true_and, and_true, D.bl.injEq, D.int.injEq, D.str.injEq, D.ptr.injEq, D.tup.injEq, decide_eq_true_eq, beq_iff_eq, Bool.false_eq_true, if_true, if_false, reduceIte, wipeD, List.foldr_cons, List.foldr_nil, Nat.reduceLeDiff, List.cons.injEq, and_self, List.length_cons, List.length_nil]
    refine law_led (es := es.map sw) (.inr ⟨bk, rfl, .inl (k3 _ _ (fun h => h) (k2 _ _ (fun h => h.elim (Ne.symm abk) (Ne.symm bbk)) cbk))⟩) (by rw [List.length_map]; exact hl) fun t2 C4 i2 k4 => ?_
    try simp only [dSeq, dGetI_eq, Bool.not_true, Bool.not_false, dAsg, dOp, dVar, dC, gNm, gTp, gCn, gNl, dRet, dIf, dTest, dTru, dNot, dAnd, dOr, dNext, dDrop, dCons, dNil, dTup, dLst, dEmp, dEmpG, dPar, dPar3, dSetI, dCall, dCB, dBM, dBM0, dIfE, dNeg, dSl, dPart, dNoP, dAug, addI, dBreak, dCont, dAlt, dYes, dPairs, dDisp, gSubD, dBMd, addD_ii, addD_ss, addD_tt, subD_ii, mulD_ii, modD_ii, fdivD_ii, powD_ii, ltD_ii, leD_ii, gtD_ii, geD_ii, ltD_ss, leD_ss, eqR_ii, eqR_ss, eqR_tt, eqR_bb, abs_ii, max_ii, min_ii, truD_b, slD_t, slD_s, inR_t, List.map, List.length, List.replicate, List.cons_append, List.nil_append, List.append_nil, List.getElem?_cons_succ, List.getElem?_cons_zero, Option.some.injEq, exists_eq_left', exists_eq_left, ex2, ex3, exists_eq', List.set_cons_succ, List.set_cons_zero, Nat.reduceAdd, Nat.reduceSub, true_and, and_true, D.bl.injEq, D.int.injEq, D.str.injEq, D.ptr.injEq, D.tup.injEq, decide_eq_true_eq, beq_iff_eq, Bool.false_eq_true, if_true, if_false, reduceIte, wipeD, List.foldr_cons, List.foldr_nil, Nat.reduceLeDiff, List.cons.injEq, and_self, List.length_cons, List.length_nil]
    obtain ⟨s1, rfl, _, _⟩ := i1.strs hl
    obtain ⟨s2, rfl, _, _⟩ := i2.strs (by rw [List.length_map]; exact hl)
    have ea : C4 a = some (.dk R) := k4 _ _ (fun h => h) (k3 _ _ (fun h => h) da)
    have eb : C4 b = some (.dk W) := k4 _ _ (fun h => h) (k3 _ _ (fun h => h) db)
    refine put_k (k := .inr m) ea (by rw [sizeLine_eq]; omega) ?_
    refine put_k (k := .inr m) (at_ne eb ab) (by rw [sizeLine_eq]; omega) ?_
    have fa : up (up C4 a (.dk (putA R (.inr m) (.tup (s1.map D.str))))) b (.dk (putA W (.inr m) (.tup (s2.map D.str)))) a = some (.dk (putA R (.inr m) (.tup (s1.map D.str)))) := by rw [up_ne (Ne.symm ab)]; exact up_same
    have fb : up (up C4 a (.dk (putA R (.inr m) (.tup (s1.map D.str))))) b (.dk (putA W (.inr m) (.tup (s2.map D.str)))) b = some (.dk (putA W (.inr m) (.tup (s2.map D.str)))) := up_same
    have k5 : Kp (fun x => x = a ∨ x = b) C1 (up (up C4 a (.dk (putA R (.inr m) (.tup (s1.map D.str))))) b (.dk (putA W (.inr m) (.tup (s2.map D.str))))) := (((k2.trans (k3.mono fun _ h => h.elim)).trans (k4.mono fun _ h => h.elim)).put (.inl rfl)).put (.inr rfl)
    generalize up (up C4 a (.dk (putA R (.inr m) (.tup (s1.map D.str))))) b (.dk (putA W (.inr m) (.tup (s2.map D.str)))) = C5 at fa fb k5
    refine around (.inl rfl) hl fun t3 C6 i3 k6 => ?_
    cases i3.uniq i1
    try simp only [dSeq, dGetI_eq, Bool.not_true, Bool.not_false, dAsg, dOp, dVar, dC, gNm, gTp, gCn, gNl, dRet, dIf, dTest, dTru, dNot, dAnd, dOr, dNext, dDrop, dCons, dNil, dTup, dLst, dEmp, dEmpG, dPar, dPar3, dSetI, dCall, dCB, dBM, dBM0, dIfE, dNeg, dSl, dPart, dNoP, dAug, addI, dBreak, dCont, dAlt, dYes, dPairs, dDisp, gSubD, dBMd, addD_ii, addD_ss, addD_tt, subD_ii, mulD_ii, modD_ii, fdivD_ii, powD_ii, ltD_ii, leD_ii, gtD_ii, geD_ii, ltD_ss, leD_ss, eqR_ii, eqR_ss, eqR_tt, eqR_bb, abs_ii, max_ii, min_ii, truD_b, slD_t, slD_s, inR_t, List.map, List.length, List.replicate, List.cons_append, List.nil_append, List.append_nil, List.getElem?_cons_succ, List.getElem?_cons_zero, Option.some.injEq, exists_eq_left', exists_eq_left, ex2, ex3, exists_eq', List.set_cons_succ, List.set_cons_zero, Nat.reduceAdd, Nat.reduceSub, true_and, and_true, D.bl.injEq, D.int.injEq, D.str.injEq, D.ptr.injEq, D.tup.injEq, decide_eq_true_eq, beq_iff_eq, Bool.false_eq_true, if_true, if_false, reduceIte, wipeD, List.foldr_cons, List.foldr_nil, Nat.reduceLeDiff, List.cons.injEq, and_self, List.length_cons, List.length_nil]
    refine got_k (k := .inr m) (d := .tup (s1.map D.str)) (k6 _ _ (fun h => h) fa) (by rw [lookA_put, if_pos rfl]) ?_
    try simp only [dSeq, dGetI_eq, Bool.not_true, Bool.not_false, dAsg, dOp, dVar, dC, gNm, gTp, gCn, gNl, dRet, dIf, dTest, dTru, dNot, dAnd, dOr, dNext, dDrop, dCons, dNil, dTup, dLst, dEmp, dEmpG, dPar, dPar3, dSetI, dCall, dCB, dBM, dBM0, dIfE, dNeg, dSl, dPart, dNoP, dAug, addI, dBreak, dCont, dAlt, dYes, dPairs, dDisp, gSubD, dBMd, addD_ii, addD_ss, addD_tt, subD_ii, mulD_ii, modD_ii, fdivD_ii, powD_ii, ltD_ii, leD_ii, gtD_ii, geD_ii, ltD_ss, leD_ss, eqR_ii, eqR_ss, eqR_tt, eqR_bb, abs_ii, max_ii, min_ii, truD_b, slD_t, slD_s, inR_t, List.map, List.length, List.replicate, List.cons_append, List.nil_append, List.append_nil, List.getElem?_cons_succ, List.getElem?_cons_zero, Option.some.injEq, exists_eq_left', exists_eq_left, ex2, ex3, exists_eq', List.set_cons_succ, List.set_cons_zero, Nat.reduceAdd, Nat.reduceSub, true_and, and_true, D.bl.injEq, D.int.injEq, D.str.injEq, D.ptr.injEq, D.tup.injEq, decide_eq_true_eq, beq_iff_eq, Bool.false_eq_true, if_true, if_false, reduceIte, wipeD, List.foldr_cons, List.foldr_nil, Nat.reduceLeDiff, List.cons.injEq, and_self, List.length_cons, List.length_nil]
    rw [eqD_refl_strs]
    refine ⟨ok_strs s1, (ok_strs s1).1, ?_⟩
    try simp only [dSeq, dGetI_eq, Bool.not_true, Bool.not_false, dAsg, dOp, dVar, dC, gNm, gTp, gCn, gNl, dRet, dIf, dTest, dTru, dNot, dAnd, dOr, dNext, dDrop, dCons, dNil, dTup, dLst, dEmp, dEmpG, dPar, dPar3, dSetI, dCall, dCB, dBM, dBM0, dIfE, dNeg, dSl, dPart, dNoP, dAug, addI, dBreak, dCont, dAlt, dYes, dPairs, dDisp, gSubD, dBMd, addD_ii, addD_ss, addD_tt, subD_ii, mulD_ii, modD_ii, fdivD_ii, powD_ii, ltD_ii, leD_ii, gtD_ii, geD_ii, ltD_ss, leD_ss, eqR_ii, eqR_ss, eqR_tt, eqR_bb, abs_ii, max_ii, min_ii, truD_b, slD_t, slD_s, inR_t, List.map, List.length, List.replicate, List.cons_append, List.nil_append, List.append_nil, List.getElem?_cons_succ, List.getElem?_cons_zero, Option.some.injEq, exists_eq_left', exists_eq_left, ex2, ex3, exists_eq', List.set_cons_succ, List.set_cons_zero, Nat.reduceAdd, Nat.reduceSub, true_and, and_true, D.bl.injEq, D.int.injEq, D.str.injEq, D.ptr.injEq, D.tup.injEq, decide_eq_true_eq, beq_iff_eq, Bool.false_eq_true, if_true, if_false, reduceIte, wipeD, List.foldr_cons, List.foldr_nil, Nat.reduceLeDiff, List.cons.injEq, and_self, List.length_cons, List.length_nil]
    refine inside hl fun t4 C7 i4 k7 => ?_
    cases i4.uniq i2
    try simp only [dSeq, dGetI_eq, Bool.not_true, Bool.not_false, dAsg, dOp, dVar, dC, gNm, gTp, gCn, gNl, dRet, dIf, dTest, dTru, dNot, dAnd, dOr, dNext, dDrop, dCons, dNil, dTup, dLst, dEmp, dEmpG, dPar, dPar3, dSetI, dCall, dCB, dBM, dBM0, dIfE, dNeg, dSl, dPart, dNoP, dAug, addI, dBreak, dCont, dAlt, dYes, dPairs, dDisp, gSubD, dBMd, addD_ii, addD_ss, addD_tt, subD_ii, mulD_ii, modD_ii, fdivD_ii, powD_ii, ltD_ii, leD_ii, gtD_ii, geD_ii, ltD_ss, leD_ss, eqR_ii, eqR_ss, eqR_tt, eqR_bb, abs_ii, max_ii, min_ii, truD_b, slD_t, slD_s, inR_t, List.map, List.length, List.replicate, List.cons_append, List.nil_append, List.append_nil, List.getElem?_cons_succ, List.getElem?_cons_zero, Option.some.injEq, exists_eq_left', exists_eq_left, ex2, ex3, exists_eq', List.set_cons_succ, List.set_cons_zero, Nat.reduceAdd, Nat.reduceSub, true_and, and_true, D.bl.injEq, D.int.injEq, D.str.injEq, D.ptr.injEq, D.tup.injEq, decide_eq_true_eq, beq_iff_eq, Bool.false_eq_true, if_true, if_false, reduceIte, wipeD, List.foldr_cons, List.foldr_nil, Nat.reduceLeDiff, List.cons.injEq, and_self, List.length_cons, List.length_nil]
    refine got_k (k := .inr m) (d := .tup (s2.map D.str)) (k7 _ _ (fun h => h) (k6 _ _ (fun h => h) fb)) (by rw [lookA_put, if_pos rfl]) ?_
    try simp only [dSeq, dGetI_eq, Bool.not_true, Bool.not_false, dAsg, dOp, dVar, dC, gNm, gTp, gCn, gNl, dRet, dIf, dTest, dTru, dNot, dAnd, dOr, dNext, dDrop, dCons, dNil, dTup, dLst, dEmp, dEmpG, dPar, dPar3, dSetI, dCall, dCB, dBM, dBM0, dIfE, dNeg, dSl, dPart, dNoP, dAug, addI, dBreak, dCont, dAlt, dYes, dPairs, dDisp, gSubD, dBMd, addD_ii, addD_ss, addD_tt, subD_ii, mulD_ii, modD_ii, fdivD_ii, powD_ii, ltD_ii, leD_ii, gtD_ii, geD_ii, ltD_ss, leD_ss, eqR_ii, eqR_ss, eqR_tt, eqR_bb, abs_ii, max_ii, min_ii, truD_b, slD_t, slD_s, inR_t, List.map, List.length, List.replicate, List.cons_append, List.nil_append, List.append_nil, List.getElem?_cons_succ, List.getElem?_cons_zero, Option.some.injEq, exists_eq_left', exists_eq_left, ex2, ex3, exists_eq', List.set_cons_succ, List.set_cons_zero, Nat.reduceAdd, Nat.reduceSub, true_and, and_true, D.bl.injEq, D.int.injEq, D.str.injEq, D.ptr.injEq, D.tup.injEq, decide_eq_true_eq, beq_iff_eq, Bool.false_eq_true, if_true, if_false, reduceIte, wipeD, List.foldr_cons, List.foldr_nil, Nat.reduceLeDiff, List.cons.injEq, and_self, List.length_cons, List.length_nil]
    rw [eqD_refl_strs]
    refine ⟨ok_strs s2, (ok_strs s2).1, ?_⟩
    try simp only [dSeq, dGetI_eq, Bool.not_true, Bool.not_false, dAsg, dOp, dVar, dC, gNm, gTp, gCn, gNl, dRet, dIf, dTest, dTru, dNot, dAnd, dOr, dNext, dDrop, dCons, dNil, dTup, dLst, dEmp, dEmpG, dPar, dPar3, dSetI, dCall, dCB, dBM, dBM0, dIfE, dNeg, dSl, dPart, dNoP, dAug, addI, dBreak, dCont, dAlt, dYes, dPairs, dDisp, gSubD, dBMd, addD_ii, addD_ss, addD_tt, subD_ii, mulD_ii, modD_ii, fdivD_ii, powD_ii, ltD_ii, leD_ii, gtD_ii, geD_ii, ltD_ss, leD_ss, eqR_ii, eqR_ss, eqR_tt, eqR_bb, abs_ii, max_ii, min_ii, truD_b, slD_t, slD_s, inR_t, List.map, List.length, List.replicate, List.cons_append, List.nil_append, List.append_nil, List.getElem?_cons_succ, List.getElem?_cons_zero, Option.some.injEq, exists_eq_left', exists_eq_left, ex2, ex3, exists_eq', List.set_cons_succ, List.set_cons_zero, Nat.reduceAdd, Nat.reduceSub, true_and, and_true, D.bl.injEq, D.int.injEq, D.str.injEq, D.ptr.injEq, D.tup.injEq, decide_eq_true_eq, beq_iff_eq, Bool.false_eq_true, if_true, if_false, reduceIte, wipeD, List.foldr_cons, List.foldr_nil, Nat.reduceLeDiff, List.cons.injEq, and_self, List.length_cons, List.length_nil]
    have lp1 := putA_len R (.inr m) (.tup (s1.map D.str))
    have lp2 := putA_len W (.inr m) (.tup (s2.map D.str))
    refine ⟨C7, Sub.refl _, _, _, _, rfl, k7 _ _ (fun h => h) (k6 _ _ (fun h => h) fa), k7 _ _ (fun h => h) (k6 _ _ (fun h => h) fb), by omega, by omega, fun m' hm' => ?_, (k5.trans (k6.mono fun _ h => h.elim)).trans (k7.mono fun _ h => h.elim)⟩
    rw [lookA_put]
    by_cases hmm : (Sum.inr m' : DKey) = .inr m
    · rw [if_pos hmm]
      cases hmm
      exact ⟨_, rfl, i2⟩
    · rw [if_neg hmm]
      refine hW m' ?_
      rcases mem_take_succ gm hm' with h | h
      · exact h
      · subst h; exact absurd rfl hmm
  · obtain ⟨x4, R, W, rfl, da, db, lR, lW, hW, k2⟩ := hp
    rw [List.length_map, List.take_length] at hW
    have hP2 : Pot C2 p q N := hP1.kp k2 fun x hx h => h.elim (fun e => na (e ▸ hx)) fun e => nb (e ▸ hx)
    have r2 := k2 _ _ (fun h => h.elim nra nrb) r1
    have kC : Kp None C' C2 := fun x c _ e => k2 x c (fun h => by
      rcases h with h | h
      · subst h; rw [za] at e; cases e
      · subst h; rw [zb] at e; cases e) (k0 x c (fun h => h) e)
    unfold r__law_right_2
    try simp only [dSeq, dGetI_eq, Bool.not_true, Bool.not_false, dAsg, dOp, dVar, dC, gNm, gTp, gCn, gNl, dRet, dIf, dTest, dTru, dNot, dAnd, dOr, dNext, dDrop, dCons, dNil, dTup, dLst, dEmp, dEmpG, dPar, dPar3, dSetI, dCall, dCB, dBM, dBM0, dIfE, dNeg, dSl, dPart, dNoP, dAug, addI, dBreak, dCont, dAlt, dYes, dPairs, dDisp, gSubD, dBMd, addD_ii, addD_ss, addD_tt, subD_ii, mulD_ii, modD_ii, fdivD_ii, powD_ii, ltD_ii, leD_ii, gtD_ii, geD_ii, ltD_ss, leD_ss, eqR_ii, eqR_ss, eqR_tt, eqR_bb, abs_ii, max_ii, min_ii, truD_b, slD_t, slD_s, inR_t, List.map, List.length, List.replicate, List.cons_append, List.nil_append, List.append_nil, List.getElem?_cons_succ, List.getElem?_cons_zero, Option.some.injEq, exists_eq_left', exists_eq_left, ex2, ex3, exists_eq', List.set_cons_succ, List.set_cons_zero, Nat.reduceAdd, Nat.reduceSub, true_and, and_true, D.bl.injEq, D.int.injEq, D.str.injEq, D.ptr.injEq, D.tup.injEq, decide_eq_true_eq, beq_iff_eq, Bool.false_eq_true, if_true, if_false, reduceIte, wipeD, List.foldr_cons, List.foldr_nil, Nat.reduceLeDiff, List.cons.injEq, and_self, List.length_cons, List.length_nil]
    unfold dFor
    try unfold dRng1
    try simp only [dSeq, dGetI_eq, Bool.not_true, Bool.not_false, dAsg, dOp, dVar, dC, gNm, gTp, gCn, gNl, dRet, dIf, dTest, dTru, dNot, dAnd, dOr, dNext, dDrop, dCons, dNil, dTup, dLst, dEmp, dEmpG, dPar, dPar3, dSetI, dCall, dCB, dBM, dBM0, dIfE, dNeg, dSl, dPart, dNoP, dAug, addI, dBreak, dCont, dAlt, dYes, dPairs, dDisp, gSubD, dBMd, addD_ii, addD_ss, addD_tt, subD_ii, mulD_ii, modD_ii, fdivD_ii, powD_ii, ltD_ii, leD_ii, gtD_ii, geD_ii, ltD_ss, leD_ss, eqR_ii, eqR_ss, eqR_tt, eqR_bb, abs_ii, max_ii, min_ii, truD_b, slD_t, slD_s, inR_t, List.map, List.length, List.replicate, List.cons_append, List.nil_append, List.append_nil, List.getElem?_cons_succ, List.getElem?_cons_zero, Option.some.injEq, exists_eq_left', exists_eq_left, ex2, ex3, exists_eq', List.set_cons_succ, List.set_cons_zero, Nat.reduceAdd, Nat.reduceSub, true_and, and_true, D.bl.injEq, D.int.injEq, D.str.injEq, D.ptr.injEq, D.tup.injEq, decide_eq_true_eq, beq_iff_eq, Bool.false_eq_true, if_true, if_false, reduceIte, wipeD, List.foldr_cons, List.foldr_nil, Nat.reduceLeDiff, List.cons.injEq, and_self, List.length_cons, List.length_nil]
    refine ⟨by omega, by omega, ?_⟩
    refine ⟨fun i sl C3 => ∃ (x5 x8 x9 x10 : Option D), sl = [some (.ptr p), some (.tup (es.map edD)), some (.ptr r), some (.ptr bk), x4, x5, some (.ptr a), some (.ptr b), x8, x9, x10] ∧ Pot C3 p q (N + 2 * i) ∧ Kp (S2 p q) C2 C3,
      ⟨none, none, none, none, rfl, hP2, Kp.refl _⟩, fun _ _ _ _ _ => trivial, fun i x sl C3 e hp => ?_, fun sl C3 hp => ?_⟩
    · obtain ⟨hi, rfl⟩ := rng_at e
      have hi : i < 30 := by simpa using hi
      obtain ⟨x5, x8, x9, x10, rfl, hP3, k3⟩ := hp
      unfold l__law_right_2
      try simp only [dSeq, dGetI_eq, Bool.not_true, Bool.not_false, dAsg, dOp, dVar, dC, gNm, gTp, gCn, gNl, dRet, dIf, dTest, dTru, dNot, dAnd, dOr, dNext, dDrop, dCons, dNil, dTup, dLst, dEmp, dEmpG, dPar, dPar3, dSetI, dCall, dCB, dBM, dBM0, dIfE, dNeg, dSl, dPart, dNoP, dAug, addI, dBreak, dCont, dAlt, dYes, dPairs, dDisp, gSubD, dBMd, addD_ii, addD_ss, addD_tt, subD_ii, mulD_ii, modD_ii, fdivD_ii, powD_ii, ltD_ii, leD_ii, gtD_ii, geD_ii, ltD_ss, leD_ss, eqR_ii, eqR_ss, eqR_tt, eqR_bb, abs_ii, max_ii, min_ii, truD_b, slD_t, slD_s, inR_t, List.map, List.length, List.replicate, List.cons_append, List.nil_append, List.append_nil, List.getElem?_cons_succ, List.getElem?_cons_zero, Option.some.injEq, exists_eq_left', exists_eq_left, ex2, ex3, exists_eq', List.set_cons_succ, List.set_cons_zero, Nat.reduceAdd, Nat.reduceSub, true_and, and_true, D.bl.injEq, D.int.injEq, D.str.injEq, D.ptr.injEq, D.tup.injEq, decide_eq_true_eq, beq_iff_eq, Bool.false_eq_true, if_true, if_false, reduceIte, wipeD, List.foldr_cons, List.foldr_nil, Nat.reduceLeDiff, List.cons.injEq, and_self, List.length_cons, List.length_nil]
      refine pick_l hP3 (by omega) (.inl (k3 _ _ hn r2)) hn (by rw [List.length_map]; exact h1) (by rw [List.length_map]; omega) fun d1 C4 m1 hP4 k4 => ?_
      obtain ⟨mi, hmi, rfl⟩ := List.mem_map.mp m1
      refine pick_l hP4 (by omega) (.inl (k4 _ _ hn (k3 _ _ hn r2))) hn (by rw [List.length_map]; exact h1) (by rw [List.length_map]; omega) fun d2 C5 m2 hP5 k5 => ?_
      obtain ⟨mo, hmo, rfl⟩ := List.mem_map.mp m2
      try simp only [dSeq, dGetI_eq, Bool.not_true, Bool.not_false, dAsg, dOp, dVar, dC, gNm, gTp, gCn, gNl, dRet, dIf, dTest, dTru, dNot, dAnd, dOr, dNext, dDrop, dCons, dNil, dTup, dLst, dEmp, dEmpG, dPar, dPar3, dSetI, dCall, dCB, dBM, dBM0, dIfE, dNeg, dSl, dPart, dNoP, dAug, addI, dBreak, dCont, dAlt, dYes, dPairs, dDisp, gSubD, dBMd, addD_ii, addD_ss, addD_tt, subD_ii, mulD_ii, modD_ii, fdivD_ii, powD_ii, ltD_ii, leD_ii, gtD_ii, geD_ii, ltD_ss, leD_ss, eqR_ii, eqR_ss, eqR_tt, eqR_bb, abs_ii, max_ii, min_ii, truD_b, slD_t, slD_s, inR_t, List.map, List.length, List.replicate, List.cons_append, List.nil_append, List.append_nil, List.getElem?_cons_succ, List.getElem?_cons_zero, Option.some.injEq, exists_eq_left', exists_eq_left, ex2, ex3, exists_eq', List.set_cons_succ, List.set_cons_zero, Nat.reduceAdd, Nat.reduceSub, true_and, and_true, D.bl.injEq, D.int.injEq, D.str.injEq, D.ptr.injEq, D.tup.injEq, decide_eq_true_eq, beq_iff_eq, Bool.false_eq_true, if_true, if_false, reduceIte, wipeD, List.foldr_cons, List.foldr_nil, Nat.reduceLeDiff, List.cons.injEq, and_self, List.length_cons, List.length_nil]
      refine closes hl fun v C6 hv k6 => ?_
      try simp only [dSeq, dGetI_eq, Bool.not_true, Bool.not_false, dAsg, dOp, dVar, dC, gNm, gTp, gCn, gNl, dRet, dIf, dTest, dTru, dNot, dAnd, dOr, dNext, dDrop, dCons, dNil, dTup, dLst, dEmp, dEmpG, dPar, dPar3, dSetI, dCall, dCB, dBM, dBM0, dIfE, dNeg, dSl, dPart, dNoP, dAug, addI, dBreak, dCont, dAlt, dYes, dPairs, dDisp, gSubD, dBMd, addD_ii, addD_ss, addD_tt, subD_ii, mulD_ii, modD_ii, fdivD_ii, powD_ii, ltD_ii, leD_ii, gtD_ii, geD_ii, ltD_ss, leD_ss, eqR_ii, eqR_ss, eqR_tt, eqR_bb, abs_ii, max_ii, min_ii, truD_b, slD_t, slD_s, inR_t, List.map, List.length, List.replicate, List.cons_append, List.nil_append, List.append_nil, List.getElem?_cons_succ, List.getElem?_cons_zero, Option.some.injEq, exists_eq_left', exists_eq_left, ex2, ex3, exists_eq', List.set_cons_succ, List.set_cons_zero, Nat.reduceAdd, Nat.reduceSub, true_and, and_true, D.bl.injEq, D.int.injEq, D.str.injEq, D.ptr.injEq, D.tup.injEq, decide_eq_true_eq, beq_iff_eq, Bool.false_eq_true, if_true, if_false, reduceIte, wipeD, List.foldr_cons, List.foldr_nil, Nat.reduceLeDiff, List.cons.injEq, and_self, List.length_cons, List.length_nil]
      refine ⟨.bl v, "bool", "bool", true, rfl, rfl, rfl, ?_⟩
      try simp only [dSeq, dGetI_eq, Bool.not_true, Bool.not_false, dAsg, dOp, dVar, dC, gNm, gTp, gCn, gNl, dRet, dIf, dTest, dTru, dNot, dAnd, dOr, dNext, dDrop, dCons, dNil, dTup, dLst, dEmp, dEmpG, dPar, dPar3, dSetI, dCall, dCB, dBM, dBM0, dIfE, dNeg, dSl, dPart, dNoP, dAug, addI, dBreak, dCont, dAlt, dYes, dPairs, dDisp, gSubD, dBMd, addD_ii, addD_ss, addD_tt, subD_ii, mulD_ii, modD_ii, fdivD_ii, powD_ii, ltD_ii, leD_ii, gtD_ii, geD_ii, ltD_ss, leD_ss, eqR_ii, eqR_ss, eqR_tt, eqR_bb, abs_ii, max_ii, min_ii, truD_b, slD_t, slD_s, inR_t, List.map, List.length, List.replicate, List.cons_append, List.nil_append, List.append_nil, List.getElem?_cons_succ, List.getElem?_cons_zero, Option.some.injEq, exists_eq_left', exists_eq_left, ex2, ex3, exists_eq', List.set_cons_succ, List.set_cons_zero, Nat.reduceAdd, Nat.reduceSub, true_and, and_true, D.bl.injEq, D.int.injEq, D.str.injEq, D.ptr.injEq, D.tup.injEq, decide_eq_true_eq, beq_iff_eq, Bool.false_eq_true, if_true, if_false, reduceIte, wipeD, List.foldr_cons, List.foldr_nil, Nat.reduceLeDiff, List.cons.injEq, and_self, List.length_cons, List.length_nil]
      obtain ⟨t, ht, it⟩ := hW mi hmi
      obtain ⟨ts, rfl, _, hts⟩ := it.strs (by rw [List.length_map]; exact hl)
      refine got_k (k := .inr mi) (k6 _ _ (fun h => h) (k5 _ _ nb (k4 _ _ nb (k3 _ _ nb db)))) ht ?_
      try simp only [dSeq, dGetI_eq, Bool.not_true, Bool.not_false, dAsg, dOp, dVar, dC, gNm, gTp, gCn, gNl, dRet, dIf, dTest, dTru, dNot, dAnd, dOr, dNext, dDrop, dCons, dNil, dTup, dLst, dEmp, dEmpG, dPar, dPar3, dSetI, dCall, dCB, dBM, dBM0, dIfE, dNeg, dSl, dPart, dNoP, dAug, addI, dBreak, dCont, dAlt, dYes, dPairs, dDisp, gSubD, dBMd, addD_ii, addD_ss, addD_tt, subD_ii, mulD_ii, modD_ii, fdivD_ii, powD_ii, ltD_ii, leD_ii, gtD_ii, geD_ii, ltD_ss, leD_ss, eqR_ii, eqR_ss, eqR_tt, eqR_bb, abs_ii, max_ii, min_ii, truD_b, slD_t, slD_s, inR_t, List.map, List.length, List.replicate, List.cons_append, List.nil_append, List.append_nil, List.getElem?_cons_succ, List.getElem?_cons_zero, Option.some.injEq, exists_eq_left', exists_eq_left, ex2, ex3, exists_eq', List.set_cons_succ, List.set_cons_zero, Nat.reduceAdd, Nat.reduceSub, true_and, and_true, D.bl.injEq, D.int.injEq, D.str.injEq, D.ptr.injEq, D.tup.injEq, decide_eq_true_eq, beq_iff_eq, Bool.false_eq_true, if_true, if_false, reduceIte, wipeD, List.foldr_cons, List.foldr_nil, Nat.reduceLeDiff, List.cons.injEq, and_self, List.length_cons, List.length_nil]
      refine ⟨rfl, npts_strs ts, ?_⟩
      rw [memD_strs]
      have hvv : v = decide (mo ∈ ts) := by
        rw [Bool.eq_iff_iff, hv, decide_eq_true_eq, hts mo, reach_sw]
      rw [← hvv]
      try simp only [dSeq, dGetI_eq, Bool.not_true, Bool.not_false, dAsg, dOp, dVar, dC, gNm, gTp, gCn, gNl, dRet, dIf, dTest, dTru, dNot, dAnd, dOr, dNext, dDrop, dCons, dNil, dTup, dLst, dEmp, dEmpG, dPar, dPar3, dSetI, dCall, dCB, dBM, dBM0, dIfE, dNeg, dSl, dPart, dNoP, dAug, addI, dBreak, dCont, dAlt, dYes, dPairs, dDisp, gSubD, dBMd, addD_ii, addD_ss, addD_tt, subD_ii, mulD_ii, modD_ii, fdivD_ii, powD_ii, ltD_ii, leD_ii, gtD_ii, geD_ii, ltD_ss, leD_ss, eqR_ii, eqR_ss, eqR_tt, eqR_bb, abs_ii, max_ii, min_ii, truD_b, slD_t, slD_s, inR_t, List.map, List.length, List.replicate, List.cons_append, List.nil_append, List.append_nil, List.getElem?_cons_succ, List.getElem?_cons_zero, Option.some.injEq, exists_eq_left', exists_eq_left, ex2, ex3, exists_eq', List.set_cons_succ, List.set_cons_zero, Nat.reduceAdd, Nat.reduceSub, true_and, and_true, D.bl.injEq, D.int.injEq, D.str.injEq, D.ptr.injEq, D.tup.injEq, decide_eq_true_eq, beq_iff_eq, Bool.false_eq_true, if_true, if_false, reduceIte, wipeD, List.foldr_cons, List.foldr_nil, Nat.reduceLeDiff, List.cons.injEq, and_self, List.length_cons, List.length_nil]
      have bb : (!(v == v)) = false := by cases v <;> rfl
      simp only [bb]
      try simp only [dSeq, dGetI_eq, Bool.not_true, Bool.not_false, dAsg, dOp, dVar, dC, gNm, gTp, gCn, gNl, dRet, dIf, dTest, dTru, dNot, dAnd, dOr, dNext, dDrop, dCons, dNil, dTup, dLst, dEmp, dEmpG, dPar, dPar3, dSetI, dCall, dCB, dBM, dBM0, dIfE, dNeg, dSl, dPart, dNoP, dAug, addI, dBreak, dCont, dAlt, dYes, dPairs, dDisp, gSubD, dBMd, addD_ii, addD_ss, addD_tt, subD_ii, mulD_ii, modD_ii, fdivD_ii, powD_ii, ltD_ii, leD_ii, gtD_ii, geD_ii, ltD_ss, leD_ss, eqR_ii, eqR_ss, eqR_tt, eqR_bb, abs_ii, max_ii, min_ii, truD_b, slD_t, slD_s, inR_t, List.map, List.length, List.replicate, List.cons_append, List.nil_append, List.append_nil, List.getElem?_cons_succ, List.getElem?_cons_zero, Option.some.injEq, exists_eq_left', exists_eq_left, ex2, ex3, exists_eq', List.set_cons_succ, List.set_cons_zero, Nat.reduceAdd, Nat.reduceSub, true_and, and_true, D.bl.injEq, D.int.injEq, D.str.injEq, D.ptr.injEq, D.tup.injEq, decide_eq_true_eq, beq_iff_eq, Bool.false_eq_true, if_true, if_false, reduceIte, wipeD, List.foldr_cons, List.foldr_nil, Nat.reduceLeDiff, List.cons.injEq, and_self, List.length_cons, List.length_nil]
      exact ⟨C6, Sub.refl _, _, _, _, _, ⟨rfl, rfl, rfl, rfl⟩, (hP5.kp k6 fun _ _ h => h).mono (by omega), ((k3.trans k4).trans k5).trans (k6.mono fun _ h => h.elim)⟩
    · obtain ⟨x5, x8, x9, x10, rfl, hP3, k3⟩ := hp
      rw [rngD_len] at hP3
      unfold r__law_right_1
      try simp only [dSeq, dGetI_eq, Bool.not_true, Bool.not_false, dAsg, dOp, dVar, dC, gNm, gTp, gCn, gNl, dRet, dIf, dTest, dTru, dNot, dAnd, dOr, dNext, dDrop, dCons, dNil, dTup, dLst, dEmp, dEmpG, dPar, dPar3, dSetI, dCall, dCB, dBM, dBM0, dIfE, dNeg, dSl, dPart, dNoP, dAug, addI, dBreak, dCont, dAlt, dYes, dPairs, dDisp, gSubD, dBMd, addD_ii, addD_ss, addD_tt, subD_ii, mulD_ii, modD_ii, fdivD_ii, powD_ii, ltD_ii, leD_ii, gtD_ii, geD_ii, ltD_ss, leD_ss, eqR_ii, eqR_ss, eqR_tt, eqR_bb, abs_ii, max_ii, min_ii, truD_b, slD_t, slD_s, inR_t, List.map, List.length, List.replicate, List.cons_append, List.nil_append, List.append_nil, List.getElem?_cons_succ, List.getElem?_cons_zero, Option.some.injEq, exists_eq_left', exists_eq_left, ex2, ex3, exists_eq', List.set_cons_succ, List.set_cons_zero, Nat.reduceAdd, Nat.reduceSub, true_and, and_true, D.bl.injEq, D.int.injEq, D.str.injEq, D.ptr.injEq, D.tup.injEq, decide_eq_true_eq, beq_iff_eq, Bool.false_eq_true, if_true, if_false, reduceIte, wipeD, List.foldr_cons, List.foldr_nil, Nat.reduceLeDiff, List.cons.injEq, and_self, List.length_cons, List.length_nil]
      have m0 : (ms.map D.str)[0]? = some (.str ms[0]) := by rw [List.getElem?_map, List.getElem?_eq_getElem h1]; rfl
      refine ix_n (j := 0) (.inl (k3 _ _ hn r2)) m0 ?_
      try simp only [dSeq, dGetI_eq, Bool.not_true, Bool.not_false, dAsg, dOp, dVar, dC, gNm, gTp, gCn, gNl, dRet, dIf, dTest, dTru, dNot, dAnd, dOr, dNext, dDrop, dCons, dNil, dTup, dLst, dEmp, dEmpG, dPar, dPar3, dSetI, dCall, dCB, dBM, dBM0, dIfE, dNeg, dSl, dPart, dNoP, dAug, addI, dBreak, dCont, dAlt, dYes, dPairs, dDisp, gSubD, dBMd, addD_ii, addD_ss, addD_tt, subD_ii, mulD_ii, modD_ii, fdivD_ii, powD_ii, ltD_ii, leD_ii, gtD_ii, geD_ii, ltD_ss, leD_ss, eqR_ii, eqR_ss, eqR_tt, eqR_bb, abs_ii, max_ii, min_ii, truD_b, slD_t, slD_s, inR_t, List.map, List.length, List.replicate, List.cons_append, List.nil_append, List.append_nil, List.getElem?_cons_succ, List.getElem?_cons_zero, Option.some.injEq, exists_eq_left', exists_eq_left, ex2, ex3, exists_eq', List.set_cons_succ, List.set_cons_zero, Nat.reduceAdd, Nat.reduceSub, true_and, and_true, D.bl.injEq, D.int.injEq, D.str.injEq, D.ptr.injEq, D.tup.injEq, decide_eq_true_eq, beq_iff_eq, Bool.false_eq_true, if_true, if_false, reduceIte, wipeD, List.foldr_cons, List.foldr_nil, Nat.reduceLeDiff, List.cons.injEq, and_self, List.length_cons, List.length_nil]
      refine ix_n (j := 0) (.inl (k3 _ _ hn r2)) m0 ?_
      try simp only [dSeq, dGetI_eq, Bool.not_true, Bool.not_false, dAsg, dOp, dVar, dC, gNm, gTp, gCn, gNl, dRet, dIf, dTest, dTru, dNot, dAnd, dOr, dNext, dDrop, dCons, dNil, dTup, dLst, dEmp, dEmpG, dPar, dPar3, dSetI, dCall, dCB, dBM, dBM0, dIfE, dNeg, dSl, dPart, dNoP, dAug, addI, dBreak, dCont, dAlt, dYes, dPairs, dDisp, gSubD, dBMd, addD_ii, addD_ss, addD_tt, subD_ii, mulD_ii, modD_ii, fdivD_ii, powD_ii, ltD_ii, leD_ii, gtD_ii, geD_ii, ltD_ss, leD_ss, eqR_ii, eqR_ss, eqR_tt, eqR_bb, abs_ii, max_ii, min_ii, truD_b, slD_t, slD_s, inR_t, List.map, List.length, List.replicate, List.cons_append, List.nil_append, List.append_nil, List.getElem?_cons_succ, List.getElem?_cons_zero, Option.some.injEq, exists_eq_left', exists_eq_left, ex2, ex3, exists_eq', List.set_cons_succ, List.set_cons_zero, Nat.reduceAdd, Nat.reduceSub, true_and, and_true, D.bl.injEq, D.int.injEq, D.str.injEq, D.ptr.injEq, D.tup.injEq, decide_eq_true_eq, beq_iff_eq, Bool.false_eq_true, if_true, if_false, reduceIte, wipeD, List.foldr_cons, List.foldr_nil, Nat.reduceLeDiff, List.cons.injEq, and_self, List.length_cons, List.length_nil]
      refine closes hl fun v C4 hv k4 => ?_
      have hv : v = true := hv.mpr .base
      subst hv
      refine ⟨true, true, rfl, rfl, C4, Sub.refl _, ?_⟩
      exact k C4 ((hP3.kp k4 fun _ _ h => h).mono (by simp)) (((kC.mono fun _ h => h.elim).trans k3).trans (k4.mono fun _ h => h.elim))
end K06

namespace K06
open PySem PySem.Spec PyProof.Rows KB
open L2 hiding op_eqD op_neD call_listD
variable {C : Cp} {p q : Addr} {N : Nat} {Q : DQ} {E : Exn → Cp → Prop}
theorem cut_take {α : Type} (xs : List α) (n : Nat) : cutL xs none (some (n : Int)) = xs.take n := by
  unfold cutL
  rw [HT.sIx_none, HT.sIx_nat, List.drop_zero, Nat.sub_zero, List.take_eq_take_min, Nat.min_assoc, Nat.min_self, ← List.take_eq_take_min]
theorem okEq_eds (es : List Ed) : okEq (.tup (es.map edD)) := by
  refine ⟨?_, ?_⟩
  · unfold npt
    induction es with
    | nil => rfl
    | cons x r ih =>
      rw [List.map_cons]
      unfold npts
      rw [ih]
      rfl
  · have : deps (es.map edD) ≤ 10 := by
      induction es with
      | nil => exact Nat.zero_le _
      | cons x r ih =>
        rw [List.map_cons]
        unfold deps
        have : dep (edD x) ≤ 5 := by simp [edD, dep, deps]
        omega
    unfold dep
    omega
theorem eqD_refl_eds (es : List Ed) : eqD (.tup (es.map edD)) (.tup (es.map edD)) = true := by
  show eqDs _ _ = true
  induction es with
  | nil => rfl
  | cons x r ih =>
    rw [List.map_cons]
    unfold eqDs
    rw [ih]
    simp [edD, eqD, eqDs]
theorem law_true (a : Addr) (ns : List Int) (c : Cell) (hl : ns.length ≤ 63) (hc : c = .lst (ns.map D.int) ∨ c = .fz (ns.map D.int)) : D_law [.ptr a] (up (fun _ => none) a c) (fun d _ => d = .bl true) fun _ _ => False := by
  unfold D_law runD r_law
  try simp only [dSeq, dGetI_eq, Bool.not_true, Bool.not_false, dAsg, dOp, dVar, dC, gNm, gTp, gCn, gNl, dRet, dIf, dTest, dTru, dNot, dAnd, dOr, dNext, dDrop, dCons, dNil, dTup, dLst, dEmp, dEmpG, dPar, dPar3, dSetI, dCall, dCB, dBM, dBM0, dIfE, dNeg, dSl, dPart, dNoP, dAug, addI, dBreak, dCont, dAlt, dYes, dPairs, dDisp, gSubD, dBMd, addD_ii, addD_ss, addD_tt, subD_ii, mulD_ii, modD_ii, fdivD_ii, powD_ii, ltD_ii, leD_ii, gtD_ii, geD_ii, ltD_ss, leD_ss, eqR_ii, eqR_ss, eqR_tt, eqR_bb, abs_ii, max_ii, min_ii, truD_b, slD_t, slD_s, inR_t, List.map, List.length, List.replicate, List.cons_append, List.nil_append, List.append_nil, List.getElem?_cons_succ, List.getElem?_cons_zero, Option.some.injEq, exists_eq_left', exists_eq_left, ex2, ex3, exists_eq', List.set_cons_succ, List.set_cons_zero, Nat.reduceAdd, Nat.reduceSub, true_and, and_true, D.bl.injEq, D.int.injEq, D.str.injEq, D.ptr.injEq, D.tup.injEq, decide_eq_true_eq, beq_iff_eq, Bool.false_eq_true, if_true, if_false, reduceIte, wipeD, List.foldr_cons, List.foldr_nil, Nat.reduceLeDiff, List.cons.injEq, and_self, List.length_cons, List.length_nil]
  unfold D__law_pot runD r__law_pot
  try simp only [dSeq, dGetI_eq, Bool.not_true, Bool.not_false, dAsg, dOp, dVar, dC, gNm, gTp, gCn, gNl, dRet, dIf, dTest, dTru, dNot, dAnd, dOr, dNext, dDrop, dCons, dNil, dTup, dLst, dEmp, dEmpG, dPar, dPar3, dSetI, dCall, dCB, dBM, dBM0, dIfE, dNeg, dSl, dPart, dNoP, dAug, addI, dBreak, dCont, dAlt, dYes, dPairs, dDisp, gSubD, dBMd, addD_ii, addD_ss, addD_tt, subD_ii, mulD_ii, modD_ii, fdivD_ii, powD_ii, ltD_ii, leD_ii, gtD_ii, geD_ii, ltD_ss, leD_ss, eqR_ii, eqR_ss, eqR_tt, eqR_bb, abs_ii, max_ii, min_ii, truD_b, slD_t, slD_s, inR_t, List.map, List.length, List.replicate, List.cons_append, List.nil_append, List.append_nil, List.getElem?_cons_succ, List.getElem?_cons_zero, Option.some.injEq, exists_eq_left', exists_eq_left, ex2, ex3, exists_eq', List.set_cons_succ, List.set_cons_zero, Nat.reduceAdd, Nat.reduceSub, true_and, and_true, D.bl.injEq, D.int.injEq, D.str.injEq, D.ptr.injEq, D.tup.injEq, decide_eq_true_eq, beq_iff_eq, Bool.false_eq_true, if_true, if_false, reduceIte, wipeD, List.foldr_cons, List.foldr_nil, Nat.reduceLeDiff, List.cons.injEq, and_self, List.length_cons, List.length_nil]
  have hL := isL_same (C := fun _ => none) (p := a) hc
  generalize up (fun _ => none) a c = C0 at hL
  refine list_l (show itemsD C0 (.ptr a) (ns.map D.int) from hL) fun q hq => ?_
  try simp only [dSeq, dGetI_eq, Bool.not_true, Bool.not_false, dAsg, dOp, dVar, dC, gNm, gTp, gCn, gNl, dRet, dIf, dTest, dTru, dNot, dAnd, dOr, dNext, dDrop, dCons, dNil, dTup, dLst, dEmp, dEmpG, dPar, dPar3, dSetI, dCall, dCB, dBM, dBM0, dIfE, dNeg, dSl, dPart, dNoP, dAug, addI, dBreak, dCont, dAlt, dYes, dPairs, dDisp, gSubD, dBMd, addD_ii, addD_ss, addD_tt, subD_ii, mulD_ii, modD_ii, fdivD_ii, powD_ii, ltD_ii, leD_ii, gtD_ii, geD_ii, ltD_ss, leD_ss, eqR_ii, eqR_ss, eqR_tt, eqR_bb, abs_ii, max_ii, min_ii, truD_b, slD_t, slD_s, inR_t, List.map, List.length, List.replicate, List.cons_append, List.nil_append, List.append_nil, List.getElem?_cons_succ, List.getElem?_cons_zero, Option.some.injEq, exists_eq_left', exists_eq_left, ex2, ex3, exists_eq', List.set_cons_succ, List.set_cons_zero, Nat.reduceAdd, Nat.reduceSub, true_and, and_true, D.bl.injEq, D.int.injEq, D.str.injEq, D.ptr.injEq, D.tup.injEq, decide_eq_true_eq, beq_iff_eq, Bool.false_eq_true, if_true, if_false, reduceIte, wipeD, List.foldr_cons, List.foldr_nil, Nat.reduceLeDiff, List.cons.injEq, and_self, List.length_cons, List.length_nil]
  intro p hp
  have pq : p ≠ q := ne_fresh up_same hp
  have hL1 : isL (up (up C0 q (.lst (ns.map D.int))) p (.lst [.ptr q, .int 0, .int 3, .int 0])) a (ns.map D.int) := by
    refine isL_up_ne (isL_up_ne hL ?_) ?_
    · intro e; subst e; rcases hL with h | h <;> (rw [hq] at h; cases h)
    · intro e
      subst e
      rw [up_ne pq] at hp
      rcases hL with h | h <;> (rw [hp] at h; cases h)
  have nS : ¬ S2 p q a := by
    rintro (e | e)
    · subst e
      rw [up_ne pq] at hp
      rcases hL with h | h <;> (rw [hp] at h; cases h)
    · subst e; rcases hL with h | h <;> (rw [hq] at h; cases h)
  have hP : Pot (up (up C0 q (.lst (ns.map D.int))) p (.lst [.ptr q, .int 0, .int 3, .int 0])) p q 0 := ⟨ns, 0, 3, 0, up_same, by rw [up_ne (Ne.symm pq)]; exact up_same, pq, by decide, by decide, by decide, Nat.le_refl _, hl⟩
  generalize up (up C0 q (.lst (ns.map D.int))) p (.lst [.ptr q, .int 0, .int 3, .int 0]) = C1 at hL1 hP
  refine ⟨C1, Sub.refl _, ?_⟩
  unfold dFor
  try unfold dRng1
  try simp only [dSeq, dGetI_eq, Bool.not_true, Bool.not_false, dAsg, dOp, dVar, dC, gNm, gTp, gCn, gNl, dRet, dIf, dTest, dTru, dNot, dAnd, dOr, dNext, dDrop, dCons, dNil, dTup, dLst, dEmp, dEmpG, dPar, dPar3, dSetI, dCall, dCB, dBM, dBM0, dIfE, dNeg, dSl, dPart, dNoP, dAug, addI, dBreak, dCont, dAlt, dYes, dPairs, dDisp, gSubD, dBMd, addD_ii, addD_ss, addD_tt, subD_ii, mulD_ii, modD_ii, fdivD_ii, powD_ii, ltD_ii, leD_ii, gtD_ii, geD_ii, ltD_ss, leD_ss, eqR_ii, eqR_ss, eqR_tt, eqR_bb, abs_ii, max_ii, min_ii, truD_b, slD_t, slD_s, inR_t, List.map, List.length, List.replicate, List.cons_append, List.nil_append, List.append_nil, List.getElem?_cons_succ, List.getElem?_cons_zero, Option.some.injEq, exists_eq_left', exists_eq_left, ex2, ex3, exists_eq', List.set_cons_succ, List.set_cons_zero, Nat.reduceAdd, Nat.reduceSub, true_and, and_true, D.bl.injEq, D.int.injEq, D.str.injEq, D.ptr.injEq, D.tup.injEq, decide_eq_true_eq, beq_iff_eq, Bool.false_eq_true, if_true, if_false, reduceIte, wipeD, List.foldr_cons, List.foldr_nil, Nat.reduceLeDiff, List.cons.injEq, and_self, List.length_cons, List.length_nil]
  refine len_l hL1 ?_
  try simp only [dSeq, dGetI_eq, Bool.not_true, Bool.not_false, dAsg, dOp, dVar, dC, gNm, gTp, gCn, gNl, dRet, dIf, dTest, dTru, dNot, dAnd, dOr, dNext, dDrop, dCons, dNil, dTup, dLst, dEmp, dEmpG, dPar, dPar3, dSetI, dCall, dCB, dBM, dBM0, dIfE, dNeg, dSl, dPart, dNoP, dAug, addI, dBreak, dCont, dAlt, dYes, dPairs, dDisp, gSubD, dBMd, addD_ii, addD_ss, addD_tt, subD_ii, mulD_ii, modD_ii, fdivD_ii, powD_ii, ltD_ii, leD_ii, gtD_ii, geD_ii, ltD_ss, leD_ss, eqR_ii, eqR_ss, eqR_tt, eqR_bb, abs_ii, max_ii, min_ii, truD_b, slD_t, slD_s, inR_t, List.map, List.length, List.replicate, List.cons_append, List.nil_append, List.append_nil, List.getElem?_cons_succ, List.getElem?_cons_zero, Option.some.injEq, exists_eq_left', exists_eq_left, ex2, ex3, exists_eq', List.set_cons_succ, List.set_cons_zero, Nat.reduceAdd, Nat.reduceSub, true_and, and_true, D.bl.injEq, D.int.injEq, D.str.injEq, D.ptr.injEq, D.tup.injEq, decide_eq_true_eq, beq_iff_eq, Bool.false_eq_true, if_true, if_false, reduceIte, wipeD, List.foldr_cons, List.foldr_nil, Nat.reduceLeDiff, List.cons.injEq, and_self, List.length_cons, List.length_nil]
  rw [List.length_map]
  have hmm : ∃ t : Nat, t ≤ 5 ∧ (if (if (5 : Int) < ns.length then 5 else (ns.length : Int)) > 1 then (if (5 : Int) < ns.length then 5 else (ns.length : Int)) else 1) = (t : Int) := by
    refine ⟨((if (if (5 : Int) < ns.length then 5 else (ns.length : Int)) > 1 then (if (5 : Int) < ns.length then 5 else (ns.length : Int)) else 1)).toNat, ?_, ?_⟩
    · split <;> (try split) <;> omega
    · split <;> (try split) <;> omega
  obtain ⟨t, ht, et⟩ := hmm
  rw [et]
  refine ⟨by omega, by omega, ?_⟩
  refine ⟨fun i sl C2 => ∃ (x2 x3 x4 x5 x6 : Option D), sl = [some (.ptr a), some (.ptr p), x2, x3, x4, x5, x6] ∧ Pot C2 p q (2000 * i), ⟨none, none, none, none, none, rfl, hP⟩, fun _ _ _ _ _ => trivial, fun i x sl C2 e hp => ?_, fun sl C2 hp => ?_⟩
  · obtain ⟨hi, rfl⟩ := rng_at e
    have hi : i < t := by simpa using hi
    obtain ⟨x2, x3, x4, x5, x6, rfl, hP2⟩ := hp
    unfold l_law_1
    try simp only [dSeq, dGetI_eq, Bool.not_true, Bool.not_false, dAsg, dOp, dVar, dC, gNm, gTp, gCn, gNl, dRet, dIf, dTest, dTru, dNot, dAnd, dOr, dNext, dDrop, dCons, dNil, dTup, dLst, dEmp, dEmpG, dPar, dPar3, dSetI, dCall, dCB, dBM, dBM0, dIfE, dNeg, dSl, dPart, dNoP, dAug, addI, dBreak, dCont, dAlt, dYes, dPairs, dDisp, gSubD, dBMd, addD_ii, addD_ss, addD_tt, subD_ii, mulD_ii, modD_ii, fdivD_ii, powD_ii, ltD_ii, leD_ii, gtD_ii, geD_ii, ltD_ss, leD_ss, eqR_ii, eqR_ss, eqR_tt, eqR_bb, abs_ii, max_ii, min_ii, truD_b, slD_t, slD_s, inR_t, List.map, List.length, List.replicate, List.cons_append, List.nil_append, List.append_nil, List.getElem?_cons_succ, List.getElem?_cons_zero, Option.some.injEq, exists_eq_left', exists_eq_left, ex2, ex3, exists_eq', List.set_cons_succ, List.set_cons_zero, Nat.reduceAdd, Nat.reduceSub, true_and, and_true, D.bl.injEq, D.int.injEq, D.str.injEq, D.ptr.injEq, D.tup.injEq, decide_eq_true_eq, beq_iff_eq, Bool.false_eq_true, if_true, if_false, reduceIte, wipeD, List.foldr_cons, List.foldr_nil, Nat.reduceLeDiff, List.cons.injEq, and_self, List.length_cons, List.length_nil]
    intro z hz
    have nz := hP2.ne hz
    refine draw' (hP2.up nz) (by omega) (by decide) (by decide) fun u C3 hu hP3 k3 => ?_
    have cz := k3 _ _ nz up_same
    have big : ∃ g : Nat, 4 ≤ g ∧ g ≤ 29 ∧ [D.int 4, .int 8, .int 29][u]? = some (.int g) := by
      have : u = 0 ∨ u = 1 ∨ u = 2 := by omega
      rcases this with h | h | h
      · subst h; exact ⟨4, by decide, by decide, rfl⟩
      · subst h; exact ⟨8, by decide, by decide, rfl⟩
      · subst h; exact ⟨29, by decide, by decide, rfl⟩
    obtain ⟨g, g1, g2, eg⟩ := big
    refine ix_n (.inl cz) eg ?_
    refine draw' hP3 (by omega) (by omega) (by omega) fun v C4 hv hP4 k4 => ?_
    try simp only [dSeq, dGetI_eq, Bool.not_true, Bool.not_false, dAsg, dOp, dVar, dC, gNm, gTp, gCn, gNl, dRet, dIf, dTest, dTru, dNot, dAnd, dOr, dNext, dDrop, dCons, dNil, dTup, dLst, dEmp, dEmpG, dPar, dPar3, dSetI, dCall, dCB, dBM, dBM0, dIfE, dNeg, dSl, dPart, dNoP, dAug, addI, dBreak, dCont, dAlt, dYes, dPairs, dDisp, gSubD, dBMd, addD_ii, addD_ss, addD_tt, subD_ii, mulD_ii, modD_ii, fdivD_ii, powD_ii, ltD_ii, leD_ii, gtD_ii, geD_ii, ltD_ss, leD_ss, eqR_ii, eqR_ss, eqR_tt, eqR_bb, abs_ii, max_ii, min_ii, truD_b, slD_t, slD_s, inR_t, List.map, List.length, List.replicate, List.cons_append, List.nil_append, List.append_nil, List.getElem?_cons_succ, List.getElem?_cons_zero, Option.some.injEq, exists_eq_left', exists_eq_left, ex2, ex3, exists_eq', List.set_cons_succ, List.set_cons_zero, Nat.reduceAdd, Nat.reduceSub, true_and, and_true, D.bl.injEq, D.int.injEq, D.str.injEq, D.ptr.injEq, D.tup.injEq, decide_eq_true_eq, beq_iff_eq, Bool.false_eq_true, if_true, if_false, reduceIte, wipeD, List.foldr_cons, List.foldr_nil, Nat.reduceLeDiff, List.cons.injEq, and_self, List.length_cons, List.length_nil]
    rw [show ((2 : Int) + v) = ((2 + v : Nat) : Int) by omega]
    refine marks hP4 (by omega) (by omega) fun ms r C5 lm sm hr0 cr hP5 k5 => ?_
    try simp only [dSeq, dGetI_eq, Bool.not_true, Bool.not_false, dAsg, dOp, dVar, dC, gNm, gTp, gCn, gNl, dRet, dIf, dTest, dTru, dNot, dAnd, dOr, dNext, dDrop, dCons, dNil, dTup, dLst, dEmp, dEmpG, dPar, dPar3, dSetI, dCall, dCB, dBM, dBM0, dIfE, dNeg, dSl, dPart, dNoP, dAug, addI, dBreak, dCont, dAlt, dYes, dPairs, dDisp, gSubD, dBMd, addD_ii, addD_ss, addD_tt, subD_ii, mulD_ii, modD_ii, fdivD_ii, powD_ii, ltD_ii, leD_ii, gtD_ii, geD_ii, ltD_ss, leD_ss, eqR_ii, eqR_ss, eqR_tt, eqR_bb, abs_ii, max_ii, min_ii, truD_b, slD_t, slD_s, inR_t, List.map, List.length, List.replicate, List.cons_append, List.nil_append, List.append_nil, List.getElem?_cons_succ, List.getElem?_cons_zero, Option.some.injEq, exists_eq_left', exists_eq_left, ex2, ex3, exists_eq', List.set_cons_succ, List.set_cons_zero, Nat.reduceAdd, Nat.reduceSub, true_and, and_true, D.bl.injEq, D.int.injEq, D.str.injEq, D.ptr.injEq, D.tup.injEq, decide_eq_true_eq, beq_iff_eq, Bool.false_eq_true, if_true, if_false, reduceIte, wipeD, List.foldr_cons, List.foldr_nil, Nat.reduceLeDiff, List.cons.injEq, and_self, List.length_cons, List.length_nil]
    have nr := hP4.ne hr0
    refine len_l (.inl cr) ?_
    try simp only [dSeq, dGetI_eq, Bool.not_true, Bool.not_false, dAsg, dOp, dVar, dC, gNm, gTp, gCn, gNl, dRet, dIf, dTest, dTru, dNot, dAnd, dOr, dNext, dDrop, dCons, dNil, dTup, dLst, dEmp, dEmpG, dPar, dPar3, dSetI, dCall, dCB, dBM, dBM0, dIfE, dNeg, dSl, dPart, dNoP, dAug, addI, dBreak, dCont, dAlt, dYes, dPairs, dDisp, gSubD, dBMd, addD_ii, addD_ss, addD_tt, subD_ii, mulD_ii, modD_ii, fdivD_ii, powD_ii, ltD_ii, leD_ii, gtD_ii, geD_ii, ltD_ss, leD_ss, eqR_ii, eqR_ss, eqR_tt, eqR_bb, abs_ii, max_ii, min_ii, truD_b, slD_t, slD_s, inR_t, List.map, List.length, List.replicate, List.cons_append, List.nil_append, List.append_nil, List.getElem?_cons_succ, List.getElem?_cons_zero, Option.some.injEq, exists_eq_left', exists_eq_left, ex2, ex3, exists_eq', List.set_cons_succ, List.set_cons_zero, Nat.reduceAdd, Nat.reduceSub, true_and, and_true, D.bl.injEq, D.int.injEq, D.str.injEq, D.ptr.injEq, D.tup.injEq, decide_eq_true_eq, beq_iff_eq, Bool.false_eq_true, if_true, if_false, reduceIte, wipeD, List.foldr_cons, List.foldr_nil, Nat.reduceLeDiff, List.cons.injEq, and_self, List.length_cons, List.length_nil]
    rw [List.length_map]
    refine draw' hP5 (by omega) (by decide) (by decide) fun w C6 hw hP6 k6 => ?_
    try simp only [dSeq, dGetI_eq, Bool.not_true, Bool.not_false, dAsg, dOp, dVar, dC, gNm, gTp, gCn, gNl, dRet, dIf, dTest, dTru, dNot, dAnd, dOr, dNext, dDrop, dCons, dNil, dTup, dLst, dEmp, dEmpG, dPar, dPar3, dSetI, dCall, dCB, dBM, dBM0, dIfE, dNeg, dSl, dPart, dNoP, dAug, addI, dBreak, dCont, dAlt, dYes, dPairs, dDisp, gSubD, dBMd, addD_ii, addD_ss, addD_tt, subD_ii, mulD_ii, modD_ii, fdivD_ii, powD_ii, ltD_ii, leD_ii, gtD_ii, geD_ii, ltD_ss, leD_ss, eqR_ii, eqR_ss, eqR_tt, eqR_bb, abs_ii, max_ii, min_ii, truD_b, slD_t, slD_s, inR_t, List.map, List.length, List.replicate, List.cons_append, List.nil_append, List.append_nil, List.getElem?_cons_succ, List.getElem?_cons_zero, Option.some.injEq, exists_eq_left', exists_eq_left, ex2, ex3, exists_eq', List.set_cons_succ, List.set_cons_zero, Nat.reduceAdd, Nat.reduceSub, true_and, and_true, D.bl.injEq, D.int.injEq, D.str.injEq, D.ptr.injEq, D.tup.injEq, decide_eq_true_eq, beq_iff_eq, Bool.false_eq_true, if_true, if_false, reduceIte, wipeD, List.foldr_cons, List.foldr_nil, Nat.reduceLeDiff, List.cons.injEq, and_self, List.length_cons, List.length_nil]
    have cr6 := k6 _ _ nr cr
    refine sl_l (.inl cr6) fun s hs => ?_
    rw [show ((ms.length : Int) - w) = ((ms.length - w : Nat) : Int) by omega, cut_take, ← List.map_take]
    have ns' := hP6.ne hs
    have srr : s ≠ r := ne_fresh cr6 hs
    refine pairs (hP6.up ns') (by omega) up_same ns' (by rw [List.length_take]; omega) (by rw [List.length_take]; omega) fun es C7 le hP7 k7 => ?_
    try simp only [dSeq, dGetI_eq, Bool.not_true, Bool.not_false, dAsg, dOp, dVar, dC, gNm, gTp, gCn, gNl, dRet, dIf, dTest, dTru, dNot, dAnd, dOr, dNext, dDrop, dCons, dNil, dTup, dLst, dEmp, dEmpG, dPar, dPar3, dSetI, dCall, dCB, dBM, dBM0, dIfE, dNeg, dSl, dPart, dNoP, dAug, addI, dBreak, dCont, dAlt, dYes, dPairs, dDisp, gSubD, dBMd, addD_ii, addD_ss, addD_tt, subD_ii, mulD_ii, modD_ii, fdivD_ii, powD_ii, ltD_ii, leD_ii, gtD_ii, geD_ii, ltD_ss, leD_ss, eqR_ii, eqR_ss, eqR_tt, eqR_bb, abs_ii, max_ii, min_ii, truD_b, slD_t, slD_s, inR_t, List.map, List.length, List.replicate, List.cons_append, List.nil_append, List.append_nil, List.getElem?_cons_succ, List.getElem?_cons_zero, Option.some.injEq, exists_eq_left', exists_eq_left, ex2, ex3, exists_eq', List.set_cons_succ, List.set_cons_zero, Nat.reduceAdd, Nat.reduceSub, true_and, and_true, D.bl.injEq, D.int.injEq, D.str.injEq, D.ptr.injEq, D.tup.injEq, decide_eq_true_eq, beq_iff_eq, Bool.false_eq_true, if_true, if_false, reduceIte, wipeD, List.foldr_cons, List.foldr_nil, Nat.reduceLeDiff, List.cons.injEq, and_self, List.length_cons, List.length_nil]
    have cr7 := k7 _ _ nr (at_ne cr6 (Ne.symm srr))
    unfold dLc
    try unfold dOverT
    try simp only [dSeq, dGetI_eq, Bool.not_true, Bool.not_false, dAsg, dOp, dVar, dC, gNm, gTp, gCn, gNl, dRet, dIf, dTest, dTru, dNot, dAnd, dOr, dNext, dDrop, dCons, dNil, dTup, dLst, dEmp, dEmpG, dPar, dPar3, dSetI, dCall, dCB, dBM, dBM0, dIfE, dNeg, dSl, dPart, dNoP, dAug, addI, dBreak, dCont, dAlt, dYes, dPairs, dDisp, gSubD, dBMd, addD_ii, addD_ss, addD_tt, subD_ii, mulD_ii, modD_ii, fdivD_ii, powD_ii, ltD_ii, leD_ii, gtD_ii, geD_ii, ltD_ss, leD_ss, eqR_ii, eqR_ss, eqR_tt, eqR_bb, abs_ii, max_ii, min_ii, truD_b, slD_t, slD_s, inR_t, List.map, List.length, List.replicate, List.cons_append, List.nil_append, List.append_nil, List.getElem?_cons_succ, List.getElem?_cons_zero, Option.some.injEq, exists_eq_left', exists_eq_left, ex2, ex3, exists_eq', List.set_cons_succ, List.set_cons_zero, Nat.reduceAdd, Nat.reduceSub, true_and, and_true, D.bl.injEq, D.int.injEq, D.str.injEq, D.ptr.injEq, D.tup.injEq, decide_eq_true_eq, beq_iff_eq, Bool.false_eq_true, if_true, if_false, reduceIte, wipeD, List.foldr_cons, List.foldr_nil, Nat.reduceLeDiff, List.cons.injEq, and_self, List.length_cons, List.length_nil]
    refine ⟨fun i acc C' => acc = (es.take i).map edD ∧ Kp None C7 C', ⟨by simp, Kp.refl _⟩, fun _ _ _ _ _ => trivial, fun j x acc C' e hp hj => ?_, by rw [List.length_map, sizeLine_eq]; omega, fun acc C' bk hp hbk => ?_⟩
    · obtain ⟨rfl, kk⟩ := hp
      obtain ⟨b1, b2, ee, rfl⟩ := ed_at e
      try simp only [dSeq, dGetI_eq, Bool.not_true, Bool.not_false, dAsg, dOp, dVar, dC, gNm, gTp, gCn, gNl, dRet, dIf, dTest, dTru, dNot, dAnd, dOr, dNext, dDrop, dCons, dNil, dTup, dLst, dEmp, dEmpG, dPar, dPar3, dSetI, dCall, dCB, dBM, dBM0, dIfE, dNeg, dSl, dPart, dNoP, dAug, addI, dBreak, dCont, dAlt, dYes, dPairs, dDisp, gSubD, dBMd, addD_ii, addD_ss, addD_tt, subD_ii, mulD_ii, modD_ii, fdivD_ii, powD_ii, ltD_ii, leD_ii, gtD_ii, geD_ii, ltD_ss, leD_ss, eqR_ii, eqR_ss, eqR_tt, eqR_bb, abs_ii, max_ii, min_ii, truD_b, slD_t, slD_s, inR_t, List.map, List.length, List.replicate, List.cons_append, List.nil_append, List.append_nil, List.getElem?_cons_succ, List.getElem?_cons_zero, Option.some.injEq, exists_eq_left', exists_eq_left, ex2, ex3, exists_eq', List.set_cons_succ, List.set_cons_zero, Nat.reduceAdd, Nat.reduceSub, true_and, and_true, D.bl.injEq, D.int.injEq, D.str.injEq, D.ptr.injEq, D.tup.injEq, decide_eq_true_eq, beq_iff_eq, Bool.false_eq_true, if_true, if_false, reduceIte, wipeD, List.foldr_cons, List.foldr_nil, Nat.reduceLeDiff, List.cons.injEq, and_self, List.length_cons, List.length_nil]
      refine list_l (show itemsD C' (.tup [.str b1, .str b2]) [.str b1, .str b2] from rfl) fun y hy => ?_
      refine tuple_l (.inl up_same) ?_
      refine ⟨_, Sub.refl _, ?_, kk.new hy⟩
      rw [List.take_add_one, ee, List.map_append]
      rfl
    obtain ⟨rfl, k8⟩ := hp
    rw [List.length_map, List.take_length]
    refine tuple_l (.inl up_same) ?_
    try simp only [dSeq, dGetI_eq, Bool.not_true, Bool.not_false, dAsg, dOp, dVar, dC, gNm, gTp, gCn, gNl, dRet, dIf, dTest, dTru, dNot, dAnd, dOr, dNext, dDrop, dCons, dNil, dTup, dLst, dEmp, dEmpG, dPar, dPar3, dSetI, dCall, dCB, dBM, dBM0, dIfE, dNeg, dSl, dPart, dNoP, dAug, addI, dBreak, dCont, dAlt, dYes, dPairs, dDisp, gSubD, dBMd, addD_ii, addD_ss, addD_tt, subD_ii, mulD_ii, modD_ii, fdivD_ii, powD_ii, ltD_ii, leD_ii, gtD_ii, geD_ii, ltD_ss, leD_ss, eqR_ii, eqR_ss, eqR_tt, eqR_bb, abs_ii, max_ii, min_ii, truD_b, slD_t, slD_s, inR_t, List.map, List.length, List.replicate, List.cons_append, List.nil_append, List.append_nil, List.getElem?_cons_succ, List.getElem?_cons_zero, Option.some.injEq, exists_eq_left', exists_eq_left, ex2, ex3, exists_eq', List.set_cons_succ, List.set_cons_zero, Nat.reduceAdd, Nat.reduceSub, true_and, and_true, D.bl.injEq, D.int.injEq, D.str.injEq, D.ptr.injEq, D.tup.injEq, decide_eq_true_eq, beq_iff_eq, Bool.false_eq_true, if_true, if_false, reduceIte, wipeD, List.foldr_cons, List.foldr_nil, Nat.reduceLeDiff, List.cons.injEq, and_self, List.length_cons, List.length_nil]
    have k9 : Kp None C7 (up C' bk (.lst (es.map edD))) := k8.new hbk
    have hP9 := hP7.kp k9 fun _ _ h => h
    have cr9 := k9 _ _ (fun h => h) cr7
    generalize up C' bk (.lst (es.map edD)) = C9 at k9 hP9 cr9
    refine right hP9 (by omega) cr9 nr (by omega) (by omega) le fun C10 hP10 k10 => ?_
    try simp only [dSeq, dGetI_eq, Bool.not_true, Bool.not_false, dAsg, dOp, dVar, dC, gNm, gTp, gCn, gNl, dRet, dIf, dTest, dTru, dNot, dAnd, dOr, dNext, dDrop, dCons, dNil, dTup, dLst, dEmp, dEmpG, dPar, dPar3, dSetI, dCall, dCB, dBM, dBM0, dIfE, dNeg, dSl, dPart, dNoP, dAug, addI, dBreak, dCont, dAlt, dYes, dPairs, dDisp, gSubD, dBMd, addD_ii, addD_ss, addD_tt, subD_ii, mulD_ii, modD_ii, fdivD_ii, powD_ii, ltD_ii, leD_ii, gtD_ii, geD_ii, ltD_ss, leD_ss, eqR_ii, eqR_ss, eqR_tt, eqR_bb, abs_ii, max_ii, min_ii, truD_b, slD_t, slD_s, inR_t, List.map, List.length, List.replicate, List.cons_append, List.nil_append, List.append_nil, List.getElem?_cons_succ, List.getElem?_cons_zero, Option.some.injEq, exists_eq_left', exists_eq_left, ex2, ex3, exists_eq', List.set_cons_succ, List.set_cons_zero, Nat.reduceAdd, Nat.reduceSub, true_and, and_true, D.bl.injEq, D.int.injEq, D.str.injEq, D.ptr.injEq, D.tup.injEq, decide_eq_true_eq, beq_iff_eq, Bool.false_eq_true, if_true, if_false, reduceIte, wipeD, List.foldr_cons, List.foldr_nil, Nat.reduceLeDiff, List.cons.injEq, and_self, List.length_cons, List.length_nil]
    rw [eqD_refl_eds]
    refine ⟨okEq_eds es, (okEq_eds es).1, ?_⟩
    try simp only [dSeq, dGetI_eq, Bool.not_true, Bool.not_false, dAsg, dOp, dVar, dC, gNm, gTp, gCn, gNl, dRet, dIf, dTest, dTru, dNot, dAnd, dOr, dNext, dDrop, dCons, dNil, dTup, dLst, dEmp, dEmpG, dPar, dPar3, dSetI, dCall, dCB, dBM, dBM0, dIfE, dNeg, dSl, dPart, dNoP, dAug, addI, dBreak, dCont, dAlt, dYes, dPairs, dDisp, gSubD, dBMd, addD_ii, addD_ss, addD_tt, subD_ii, mulD_ii, modD_ii, fdivD_ii, powD_ii, ltD_ii, leD_ii, gtD_ii, geD_ii, ltD_ss, leD_ss, eqR_ii, eqR_ss, eqR_tt, eqR_bb, abs_ii, max_ii, min_ii, truD_b, slD_t, slD_s, inR_t, List.map, List.length, List.replicate, List.cons_append, List.nil_append, List.append_nil, List.getElem?_cons_succ, List.getElem?_cons_zero, Option.some.injEq, exists_eq_left', exists_eq_left, ex2, ex3, exists_eq', List.set_cons_succ, List.set_cons_zero, Nat.reduceAdd, Nat.reduceSub, true_and, and_true, D.bl.injEq, D.int.injEq, D.str.injEq, D.ptr.injEq, D.tup.injEq, decide_eq_true_eq, beq_iff_eq, Bool.false_eq_true, if_true, if_false, reduceIte, wipeD, List.foldr_cons, List.foldr_nil, Nat.reduceLeDiff, List.cons.injEq, and_self, List.length_cons, List.length_nil]
    have m0 : (ms.map D.str)[0]? = some (.str ms[0]) := by rw [List.getElem?_map, List.getElem?_eq_getElem (by omega)]; rfl
    have cr10 := k10 _ _ nr cr9
    refine ix_n (j := 0) (.inl cr10) m0 ?_
    refine around (es := []) (.inl rfl) (by decide) fun t1 C11 i1 k11 => ?_
    try simp only [dSeq, dGetI_eq, Bool.not_true, Bool.not_false, dAsg, dOp, dVar, dC, gNm, gTp, gCn, gNl, dRet, dIf, dTest, dTru, dNot, dAnd, dOr, dNext, dDrop, dCons, dNil, dTup, dLst, dEmp, dEmpG, dPar, dPar3, dSetI, dCall, dCB, dBM, dBM0, dIfE, dNeg, dSl, dPart, dNoP, dAug, addI, dBreak, dCont, dAlt, dYes, dPairs, dDisp, gSubD, dBMd, addD_ii, addD_ss, addD_tt, subD_ii, mulD_ii, modD_ii, fdivD_ii, powD_ii, ltD_ii, leD_ii, gtD_ii, geD_ii, ltD_ss, leD_ss, eqR_ii, eqR_ss, eqR_tt, eqR_bb, abs_ii, max_ii, min_ii, truD_b, slD_t, slD_s, inR_t, List.map, List.length, List.replicate, List.cons_append, List.nil_append, List.append_nil, List.getElem?_cons_succ, List.getElem?_cons_zero, Option.some.injEq, exists_eq_left', exists_eq_left, ex2, ex3, exists_eq', List.set_cons_succ, List.set_cons_zero, Nat.reduceAdd, Nat.reduceSub, true_and, and_true, D.bl.injEq, D.int.injEq, D.str.injEq, D.ptr.injEq, D.tup.injEq, decide_eq_true_eq, beq_iff_eq, Bool.false_eq_true, if_true, if_false, reduceIte, wipeD, List.foldr_cons, List.foldr_nil, Nat.reduceLeDiff, List.cons.injEq, and_self, List.length_cons, List.length_nil]
    refine ix_n (j := 0) (.inl (k11 _ _ (fun h => h) cr10)) m0 ?_
    try simp only [dSeq, dGetI_eq, Bool.not_true, Bool.not_false, dAsg, dOp, dVar, dC, gNm, gTp, gCn, gNl, dRet, dIf, dTest, dTru, dNot, dAnd, dOr, dNext, dDrop, dCons, dNil, dTup, dLst, dEmp, dEmpG, dPar, dPar3, dSetI, dCall, dCB, dBM, dBM0, dIfE, dNeg, dSl, dPart, dNoP, dAug, addI, dBreak, dCont, dAlt, dYes, dPairs, dDisp, gSubD, dBMd, addD_ii, addD_ss, addD_tt, subD_ii, mulD_ii, modD_ii, fdivD_ii, powD_ii, ltD_ii, leD_ii, gtD_ii, geD_ii, ltD_ss, leD_ss, eqR_ii, eqR_ss, eqR_tt, eqR_bb, abs_ii, max_ii, min_ii, truD_b, slD_t, slD_s, inR_t, List.map, List.length, List.replicate, List.cons_append, List.nil_append, List.append_nil, List.getElem?_cons_succ, List.getElem?_cons_zero, Option.some.injEq, exists_eq_left', exists_eq_left, ex2, ex3, exists_eq', List.set_cons_succ, List.set_cons_zero, Nat.reduceAdd, Nat.reduceSub, true_and, and_true, D.bl.injEq, D.int.injEq, D.str.injEq, D.ptr.injEq, D.tup.injEq, decide_eq_true_eq, beq_iff_eq, Bool.false_eq_true, if_true, if_false, reduceIte, wipeD, List.foldr_cons, List.foldr_nil, Nat.reduceLeDiff, List.cons.injEq, and_self, List.length_cons, List.length_nil]
    have e1 : t1 = [ms[0]].map D.str := i1.uniq ⟨[ms[0]], by simp, fun x => ⟨fun h => by rw [List.mem_singleton.mp h]; exact .base, fun h => by
      cases h with
      | base => exact List.mem_cons_self
      | step _ h => cases h⟩, by simp⟩
    subst e1
    have e2 := eqD_refl_strs [ms[0]]
    have e3 := ok_strs [ms[0]]
    simp only [List.map_cons, List.map_nil] at e2 e3 ⊢
    rw [e2]
    refine ⟨e3, e3.1, ?_⟩
    try simp only [dSeq, dGetI_eq, Bool.not_true, Bool.not_false, dAsg, dOp, dVar, dC, gNm, gTp, gCn, gNl, dRet, dIf, dTest, dTru, dNot, dAnd, dOr, dNext, dDrop, dCons, dNil, dTup, dLst, dEmp, dEmpG, dPar, dPar3, dSetI, dCall, dCB, dBM, dBM0, dIfE, dNeg, dSl, dPart, dNoP, dAug, addI, dBreak, dCont, dAlt, dYes, dPairs, dDisp, gSubD, dBMd, addD_ii, addD_ss, addD_tt, subD_ii, mulD_ii, modD_ii, fdivD_ii, powD_ii, ltD_ii, leD_ii, gtD_ii, geD_ii, ltD_ss, leD_ss, eqR_ii, eqR_ss, eqR_tt, eqR_bb, abs_ii, max_ii, min_ii, truD_b, slD_t, slD_s, inR_t, List.map, List.length, List.replicate, List.cons_append, List.nil_append, List.append_nil, List.getElem?_cons_succ, List.getElem?_cons_zero, Option.some.injEq, exists_eq_left', exists_eq_left, ex2, ex3, exists_eq', List.set_cons_succ, List.set_cons_zero, Nat.reduceAdd, Nat.reduceSub, true_and, and_true, D.bl.injEq, D.int.injEq, D.str.injEq, D.ptr.injEq, D.tup.injEq, decide_eq_true_eq, beq_iff_eq, Bool.false_eq_true, if_true, if_false, reduceIte, wipeD, List.foldr_cons, List.foldr_nil, Nat.reduceLeDiff, List.cons.injEq, and_self, List.length_cons, List.length_nil]
    exact ⟨C11, Sub.refl _, _, _, _, _, _, ⟨rfl, rfl, rfl, rfl, rfl⟩, (hP10.kp k11 fun _ _ h => h).mono (by omega)⟩
  · unfold r_law_1
    obtain ⟨x2, x3, x4, x5, x6, rfl, hP2⟩ := hp
    try simp only [dSeq, dGetI_eq, Bool.not_true, Bool.not_false, dAsg, dOp, dVar, dC, gNm, gTp, gCn, gNl, dRet, dIf, dTest, dTru, dNot, dAnd, dOr, dNext, dDrop, dCons, dNil, dTup, dLst, dEmp, dEmpG, dPar, dPar3, dSetI, dCall, dCB, dBM, dBM0, dIfE, dNeg, dSl, dPart, dNoP, dAug, addI, dBreak, dCont, dAlt, dYes, dPairs, dDisp, gSubD, dBMd, addD_ii, addD_ss, addD_tt, subD_ii, mulD_ii, modD_ii, fdivD_ii, powD_ii, ltD_ii, leD_ii, gtD_ii, geD_ii, ltD_ss, leD_ss, eqR_ii, eqR_ss, eqR_tt, eqR_bb, abs_ii, max_ii, min_ii, truD_b, slD_t, slD_s, inR_t, List.map, List.length, List.replicate, List.cons_append, List.nil_append, List.append_nil, List.getElem?_cons_succ, List.getElem?_cons_zero, Option.some.injEq, exists_eq_left', exists_eq_left, ex2, ex3, exists_eq', List.set_cons_succ, List.set_cons_zero, Nat.reduceAdd, Nat.reduceSub, true_and, and_true, D.bl.injEq, D.int.injEq, D.str.injEq, D.ptr.injEq, D.tup.injEq, decide_eq_true_eq, beq_iff_eq, Bool.false_eq_true, if_true, if_false, reduceIte, wipeD, List.foldr_cons, List.foldr_nil, Nat.reduceLeDiff, List.cons.injEq, and_self, List.length_cons, List.length_nil]
    exact ⟨C2, Sub.refl _⟩
end K06

open PySem PySem.W PyProof.Rows
set_option maxRecDepth 100000 in
set_option maxHeartbeats 0 in
theorem PySem.Challenge.cw_keptpages_k06_marks_within_marks_holds : PySem.Challenge.rw_keptpages_k06_marks_within_marks.Holds := by
  w_on; o_law; k_head; (case hw => w_witness2)
  k_fill
  refine KB.walk_kb (l := PySem.Challenge.rw_keptpages_k06_marks_within_marks) (n := 63) (k := 5) (x := "_law_script") K06.law_true rfl (by decide) rfl ⟨rfl, by decide, by decide⟩ (fun w h Y => PySem.W.kIn_of Y) ?hNoLists ?F
  case hNoLists =>
    intro w
    kernel_rfl
  case F =>
    intro w mg fa h KX G hmg
    refine' K06.all_mk KX G hmg ?a1 ?l1 ?c1 ?k1 ?a2 ?l2 ?c2 ?k2 ?a3 ?l3 ?c3 ?k3 ?a4 ?l4 ?c4 ?k4 ?a5 ?l5 ?c5 ?k5 ?a6 ?l6 ?c6 ?k6 ?a7 ?l7 ?c7 ?k7 ?a8 ?l8 ?c8 ?k8 ?a9 ?l9 ?c9 ?k9 ?a10 ?l10 ?c10 ?k10 ?a11 ?l11 ?c11 ?k11 ?a12 ?l12 ?c12 ?k12 ?a13 ?l13 ?c13 ?k13 ?z_abs ?z_bool ?z_isinstance ?z_len ?z_list ?z_max ?z_min ?z_range ?z_sorted ?z_tuple
    (case a1 => k_is); (case l1 => k_is); (case c1 => k_is); (case k1 => k_is); (case a2 => k_is); (case l2 => k_is); (case c2 => k_is); (case k2 => k_is); (case a3 => k_is); (case l3 => k_is); (case c3 => k_is); (case k3 => k_is); (case a4 => k_is); (case l4 => k_is); (case c4 => k_is); (case k4 => k_is); (case a5 => k_is); (case l5 => k_is); (case c5 => k_is); (case k5 => k_is); (case a6 => k_is); (case l6 => k_is); (case c6 => k_is); (case k6 => k_is); (case a7 => k_is); (case l7 => k_is); (case c7 => k_is); (case k7 => k_is); (case a8 => k_is); (case l8 => k_is); (case c8 => k_is); (case k8 => k_is); (case a9 => k_is); (case l9 => k_is); (case c9 => k_is); (case k9 => k_is); (case a10 => k_is); (case l10 => k_is); (case c10 => k_is); (case k10 => k_is); (case a11 => k_is); (case l11 => k_is); (case c11 => k_is); (case k11 => k_is); (case a12 => k_is); (case l12 => k_is); (case c12 => k_is); (case k12 => k_is); (case a13 => k_is); (case l13 => k_is); (case c13 => k_is); (case k13 => k_is); (case z_abs => k_is); (case z_bool => k_is); (case z_isinstance => k_is); (case z_len => k_is); (case z_list => k_is); (case z_max => k_is); (case z_min => k_is); (case z_range => k_is); (case z_sorted => k_is); (case z_tuple => k_is)
