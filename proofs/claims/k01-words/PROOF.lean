import PyProof.Rows.All
import Wide.All
import OpenK.AllK
import Wide.FinOn
import HandS.ForMost
import HandS.Words
import HandS.TupAny
import KE.KDictKeyed
import HandS.Flow
import HandS.IsInst
import HandS.Wide
import HandS.Walk
import PyProof.NeKinds
import HandS.Exc
import HandS.SetKeys
import KE.SortData
import KE.KDictCopyH
import PyProof.CollectStr
import HandS.More
import HandS.TupLe
import HandS.Style
import PyProof.ListStr
import HandS.Ends
import HandS.StrMore
import PyProof.StrOps2
import PyProof.RangeFor
import PySem.Challenge.RW_keptpages_k01_words_titles_paths
set_option Elab.async false
set_option linter.all false
set_option maxRecDepth 100000
set_option maxHeartbeats 4000000
/-! KB0: values as plain data over the hand layer; the stores of things that change; lifted readings. -/
namespace KB
open PySem PySem.Spec PyProof.Rows L2

/-- data: tuples are values; a thing that may change is told by its place -/
inductive D where
  | non | bl (b : Bool) | int (i : Int) | str (l : List Nat) | tup (ds : List D) | ptr (a : Addr) | ty (n : String)

abbrev DKey := Sum Int (List Nat)
abbrev Fs := List (Str × D)
/-- what stands at a place -/
inductive Cell where
  | lst (ds : List D) | fz (ds : List D) | dk (kvs : List (DKey × D)) | dt (kvs : List (List DKey × D)) | ins (C : Addr) (fs : Fs) | dg (kvs : List (D × D)) | raw (o : HO)
abbrev Cp := Addr → Option Cell
def up (C : Cp) (a : Addr) (c : Cell) : Cp := fun b => if b = a then some c else C b
theorem up_same {C : Cp} {a : Addr} {c : Cell} : up C a c a = some c := by unfold up; rw [if_pos rfl]
theorem up_ne {C : Cp} {a b : Addr} {c : Cell} (h : b ≠ a) : up C a c b = C b := by unfold up; rw [if_neg h]
abbrev Sl := List (Option D)
abbrev Exn := Addr × Fs
abbrev DQ := D → Cp → Prop
abbrev DE := Sl → Cp → DQ → Prop
abbrev DT := Sl → Cp → (Bool → Cp → Prop) → Prop
abbrev DA := Sl → Cp → (List D → Cp → Prop) → Prop
structure DEnds where
  nx : Sl → Cp → Prop
  rt : DQ
  bk : Sl → Cp → Prop := fun _ _ => False
  ct : Sl → Cp → Prop := fun _ _ => False
abbrev DS := DEnds → Sl → Cp → Prop
abbrev DG := D → Sl → Cp → (Sl → Cp → Prop) → Prop
abbrev DGs := List D → Sl → Cp → (Sl → Cp → Prop) → Prop
/-- a def: arguments, store, the end wanted, the exception wanted -/
abbrev DSp := List D → Cp → DQ → (Exn → Cp → Prop) → Prop

/-! ### data and values -/
def keyOf : DKey → Key
  | .inl i => .inl i
  | .inr l => .inr ⟨l.toArray⟩
def keyD : DKey → D
  | .inl i => .int i
  | .inr l => .str l
theorem keyOf_inj : ∀ {a b : DKey}, keyOf a = keyOf b → a = b
  | .inl i, .inl j, h => by rw [Sum.inl.inj h]
  | .inr l, .inr m, h => by
    have h : (⟨l.toArray⟩ : Str) = ⟨m.toArray⟩ := Sum.inr.inj h
    have e : l.toArray = m.toArray := congrArg Str.cps h
    have : l = m := by simpa using congrArg Array.toList e
    rw [this]
  | .inl _, .inr _, h => nomatch h
  | .inr _, .inl _, h => nomatch h
mutual
def Rep (K : PySem.W.Frag) (H : Hp) : D → V → Prop
  | .non, v => v = .non
  | .bl b, v => v = .bl b
  | .int i, v => v = .int i
  | .str l, v => v = .str ⟨l.toArray⟩
  | .ptr a, v => v = .ref a
  | .ty n, v => v = .ty n
  | .tup ds, v => ∃ a vs, v = .ref a ∧ SqT K H a vs ∧ Reps K H ds vs
def Reps (K : PySem.W.Frag) (H : Hp) : List D → List V → Prop
  | [], vs => vs = []
  | d :: ds, vs => ∃ v r, vs = v :: r ∧ Rep K H d v ∧ Reps K H ds r
end
/-- tuples and locked things stay -/
structure Tx (H H' : Hp) : Prop where
  t : ∀ a xs, H a = some (.tup xs) → H' a = some (.tup xs)
  f : ∀ a o u, H a = some (.frz o u) → H' a = some (.frz o u)
theorem Tx.refl (H : Hp) : Tx H H := ⟨fun _ _ h => h, fun _ _ _ h => h⟩
theorem Tx.trans {H H1 H2 : Hp} (a : Tx H H1) (b : Tx H1 H2) : Tx H H2 := ⟨fun _ _ h => b.t _ _ (a.t _ _ h), fun _ _ _ h => b.f _ _ _ (a.f _ _ _ h)⟩
theorem Tx.sqT {K : PySem.W.Frag} {H H' : Hp} {a : Addr} {xs : List V} (e : Tx H H') (h : SqT K H a xs) : SqT K H' a xs := by
  rcases h with (h | ⟨o, h⟩) | h
  · exact .inl (.inl (e.t _ _ h))
  · exact .inl (.inr ⟨o, e.f _ _ _ h⟩)
  · exact .inr h
mutual
theorem Rep.mono {K : PySem.W.Frag} {H H' : Hp} (e : Tx H H') : ∀ {d : D} {v : V}, Rep K H d v → Rep K H' d v
  | .non, _, h => h
  | .bl _, _, h => h
  | .int _, _, h => h
  | .str _, _, h => h
  | .ptr _, _, h => h
  | .ty _, _, h => h
  | .tup _, _, h => by
    obtain ⟨a, vs, e1, e2, e3⟩ := h
    exact ⟨a, vs, e1, e.sqT e2, Reps.mono e e3⟩
theorem Reps.mono {K : PySem.W.Frag} {H H' : Hp} (e : Tx H H') : ∀ {ds : List D} {vs : List V}, Reps K H ds vs → Reps K H' ds vs
  | [], _, h => h
  | _ :: _, _, h => by
    obtain ⟨v, r, e1, e2, e3⟩ := h
    exact ⟨v, r, e1, Rep.mono e e2, Reps.mono e e3⟩
end
theorem Reps.nil {K : PySem.W.Frag} {H : Hp} : Reps K H [] [] := rfl
theorem Reps.cons {K : PySem.W.Frag} {H : Hp} {d : D} {v : V} {ds : List D} {vs : List V} (h : Rep K H d v) (t : Reps K H ds vs) : Reps K H (d :: ds) (v :: vs) := ⟨v, vs, rfl, h, t⟩
theorem Reps.length {K : PySem.W.Frag} {H : Hp} : ∀ {ds : List D} {vs : List V}, Reps K H ds vs → ds.length = vs.length
  | [], _, h => by cases h; rfl
  | _ :: _, _, h => by
    obtain ⟨v, r, rfl, _, t⟩ := h
    rw [List.length_cons, List.length_cons, t.length]
theorem Reps.append {K : PySem.W.Frag} {H : Hp} : ∀ {ds es : List D} {vs ws : List V}, Reps K H ds vs → Reps K H es ws → Reps K H (ds ++ es) (vs ++ ws)
  | [], _, _, _, h, g => by cases h; exact g
  | _ :: _, _, _, _, h, g => by
    obtain ⟨v, r, rfl, a, t⟩ := h
    exact ⟨v, _, rfl, a, t.append g⟩
theorem Reps.get {K : PySem.W.Frag} {H : Hp} : ∀ {ds : List D} {vs : List V} {i : Nat} {d : D}, Reps K H ds vs → ds[i]? = some d → ∃ v, vs[i]? = some v ∧ Rep K H d v
  | [], _, i, d, h, e => by simp at e
  | x :: ds, _, 0, d, h, e => by
    obtain ⟨v, r, rfl, a, t⟩ := h
    have : x = d := by simpa using e
    subst this
    exact ⟨v, rfl, a⟩
  | x :: ds, _, i + 1, d, h, e => by
    obtain ⟨v, r, rfl, a, t⟩ := h
    obtain ⟨w, e1, e2⟩ := t.get (i := i) (d := d) (by simpa using e)
    exact ⟨w, by simpa using e1, e2⟩
theorem Reps.getV {K : PySem.W.Frag} {H : Hp} : ∀ {ds : List D} {vs : List V} {i : Nat} {v : V}, Reps K H ds vs → vs[i]? = some v → ∃ d, ds[i]? = some d ∧ Rep K H d v
  | [], _, i, v, h, e => by
    cases h
    simp at e
  | x :: ds, _, 0, v, h, e => by
    obtain ⟨w, r, rfl, a, t⟩ := h
    have : w = v := by simpa using e
    subst this
    exact ⟨x, rfl, a⟩
  | x :: ds, _, i + 1, v, h, e => by
    obtain ⟨w, r, rfl, a, t⟩ := h
    obtain ⟨d, e1, e2⟩ := t.getV (i := i) (v := v) (by simpa using e)
    exact ⟨d, by simpa using e1, e2⟩
theorem Reps.take {K : PySem.W.Frag} {H : Hp} : ∀ {ds : List D} {vs : List V} (n : Nat), Reps K H ds vs → Reps K H (ds.take n) (vs.take n)
  | _, _, 0, _ => rfl
  | [], _, _ + 1, h => by cases h; rfl
  | _ :: _, _, n + 1, h => by
    obtain ⟨v, r, rfl, a, t⟩ := h
    exact ⟨v, _, rfl, a, t.take n⟩
theorem Reps.drop {K : PySem.W.Frag} {H : Hp} : ∀ {ds : List D} {vs : List V} (n : Nat), Reps K H ds vs → Reps K H (ds.drop n) (vs.drop n)
  | _, _, 0, h => h
  | [], _, _ + 1, h => by cases h; rfl
  | _ :: _, _, n + 1, h => by
    obtain ⟨v, r, rfl, a, t⟩ := h
    exact t.drop n
theorem Reps.set {K : PySem.W.Frag} {H : Hp} {d : D} {v : V} (q : Rep K H d v) : ∀ {ds : List D} {vs : List V} (i : Nat), Reps K H ds vs → Reps K H (ds.set i d) (vs.set i v)
  | [], _, _, h => by cases h; rfl
  | _ :: _, _, 0, h => by
    obtain ⟨w, r, rfl, a, t⟩ := h
    exact ⟨v, r, rfl, q, t⟩
  | _ :: _, _, i + 1, h => by
    obtain ⟨w, r, rfl, a, t⟩ := h
    exact ⟨w, _, rfl, a, t.set q i⟩
theorem Reps.reverse {K : PySem.W.Frag} {H : Hp} : ∀ {ds : List D} {vs : List V}, Reps K H ds vs → Reps K H ds.reverse vs.reverse
  | [], _, h => by cases h; rfl
  | _ :: _, _, h => by
    obtain ⟨v, r, rfl, a, t⟩ := h
    rw [List.reverse_cons, List.reverse_cons]
    exact t.reverse.append (.cons a .nil)
theorem Reps.map {K : PySem.W.Frag} {H : Hp} {α : Type} (f : α → D) (g : α → V) (h : ∀ x, Rep K H (f x) (g x)) : ∀ l : List α, Reps K H (l.map f) (l.map g)
  | [] => rfl
  | x :: l => ⟨_, _, rfl, h x, Reps.map f g h l⟩
/-- of ints, of texts: the values -/
theorem Reps.ints {K : PySem.W.Frag} {H : Hp} : ∀ {ns : List Int} {vs : List V}, Reps K H (ns.map D.int) vs → vs = ns.map V.int
  | [], _, h => h
  | n :: ns, _, h => by
    obtain ⟨v, r, rfl, a, t⟩ := h
    have a : v = .int n := a
    rw [a, t.ints]
    rfl
theorem Reps.bools {K : PySem.W.Frag} {H : Hp} : ∀ {ns : List Bool} {vs : List V}, Reps K H (ns.map D.bl) vs → vs = ns.map V.bl
  | [], _, h => h
  | n :: ns, _, h => by
    obtain ⟨v, r, rfl, a, t⟩ := h
    have a : v = .bl n := a
    rw [a, t.bools]
    rfl
abbrev sOf (l : List Nat) : Str := ⟨l.toArray⟩
theorem Reps.strs {K : PySem.W.Frag} {H : Hp} : ∀ {ns : List (List Nat)} {vs : List V}, Reps K H (ns.map D.str) vs → vs = (ns.map sOf).map V.str
  | [], _, h => h
  | n :: ns, _, h => by
    obtain ⟨v, r, rfl, a, t⟩ := h
    have a : v = .str ⟨n.toArray⟩ := a
    rw [a, t.strs]
    rfl

/-! ### cells -/
def RepK {α β : Type} (f : α → β) (K : PySem.W.Frag) (H : Hp) : List (α × D) → List (β × V) → Prop := Paired fun p q => f p.1 = q.1 ∧ Rep K H p.2 q.2
theorem RepK.mono {α β : Type} {f : α → β} {K : PySem.W.Frag} {H H' : Hp} (e : Tx H H') {l : List (α × D)} {m : List (β × V)} (h : RepK f K H l m) : RepK f K H' l m := Paired.mapP h fun _ _ q => ⟨q.1, q.2.mono e⟩
mutual
/-- a key's own shape -/
def nk : D → NestedKey
  | .non => .none
  | .bl b => .num (if b = true then 1 else 0)
  | .int i => .num i
  | .str l => .text ⟨l.toArray⟩
  | .tup ds => .tup (nks ds)
  | .ptr _ => .none
  | .ty _ => .none
def nks : List D → List NestedKey
  | [] => []
  | d :: ds => nk d :: nks ds
end
mutual
/-- no places, no truths within -/
def flatG : D → Bool
  | .tup ds => flatGs ds
  | .ptr _ => false
  | .ty _ => false
  | .bl _ => false
  | _ => true
def flatGs : List D → Bool
  | [] => true
  | d :: ds => flatG d && flatGs ds
end
/-- a dict whose keys are tuples, by its entries: the keys' places and the values as they lie there -/
def DgObj (P : Program) (w : World) (a : Addr) (xs : List (NestedKey × Addr × Value)) : HO := .ext fun h =>
  ∃ o es ep, h.get? a = some o ∧ o.ExactDict ∧ o.data = .dict es ep ∧ es.toList = xs.map (entryOfKey (nestedKind P w)) ∧ (xs.map (·.1)).Nodup ∧ xs.length ≤ sizeLine ∧ (a == sysModules) = false
/-- a key: a tuple, no places within, not too deep -/
def keyG (d : D) : Prop := (∃ ds, d = .tup ds) ∧ (nk d).depth ≤ 8 ∧ flatG d = true
def RepG (K : PySem.W.Frag) (H : Hp) : List (D × D) → List (NestedKey × Addr × Value) → Prop := Paired fun p q => nk p.1 = q.1 ∧ Rep K H p.1 (.ref q.2.1) ∧ ∃ v, Rep K H p.2 v ∧ RelV v q.2.2
theorem RepG.mono {K : PySem.W.Frag} {H H' : Hp} (e : Tx H H') {l : List (D × D)} {m : List (NestedKey × Addr × Value)} (h : RepG K H l m) : RepG K H' l m := Paired.mapP h fun _ _ q => ⟨q.1, q.2.1.mono e, let ⟨v, a, b⟩ := q.2.2; ⟨v, a.mono e, b⟩⟩
def CellOk (P : Program) (w : World) (K : PySem.W.Frag) (H : Hp) (p : Addr) : Cell → Prop
  | .lst ds => ∃ vs, H p = some (.lst vs) ∧ Reps K H ds vs
  | .fz ds => ∃ o vs, H p = some (.frz o (.lst vs)) ∧ Reps K H ds vs
  | .dk kvs => ∃ ws, H p = some (.dK ws) ∧ RepK keyOf K H kvs ws
  | .dt kvs => ∃ ws, H p = some (.dT ws) ∧ RepK (fun k => k.map keyOf) K H kvs ws
  | .ins C fs => ∃ dx ws, H p = some (.ins C dx ws) ∧ RepK id K H fs ws
  | .dg kvs => ∃ xs, H p = some (DgObj P w p xs) ∧ RepG K H kvs xs ∧ ∀ q ∈ kvs, keyG q.1
  | .raw o => H p = some o
theorem CellOk.there {P : Program} {w : World} {K : PySem.W.Frag} {H : Hp} {p : Addr} {c : Cell} (h : CellOk P w K H p c) : H p ≠ none := by
  intro e
  cases c with
  | lst ds => obtain ⟨_, q, _⟩ := h; rw [e] at q; cases q
  | fz ds => obtain ⟨_, _, q, _⟩ := h; rw [e] at q; cases q
  | dk ds => obtain ⟨_, q, _⟩ := h; rw [e] at q; cases q
  | dt ds => obtain ⟨_, q, _⟩ := h; rw [e] at q; cases q
  | ins C fs => obtain ⟨_, _, q, _⟩ := h; rw [e] at q; cases q
  | dg kvs => obtain ⟨_, q, _⟩ := h; rw [e] at q; cases q
  | raw o =>
    have h : H p = some o := h
    rw [e] at h; cases h
theorem CellOk.keep {P : Program} {w : World} {K : PySem.W.Frag} {H H' : Hp} {p : Addr} {c : Cell} (h : CellOk P w K H p c) (e : Tx H H') (k : H' p = H p) : CellOk P w K H' p c := by
  cases c with
  | lst ds => obtain ⟨vs, q, r⟩ := h; exact ⟨vs, k.trans q, r.mono e⟩
  | fz ds => obtain ⟨o, vs, q, r⟩ := h; exact ⟨o, vs, k.trans q, r.mono e⟩
  | dk ds => obtain ⟨vs, q, r⟩ := h; exact ⟨vs, k.trans q, r.mono e⟩
  | dt ds => obtain ⟨vs, q, r⟩ := h; exact ⟨vs, k.trans q, r.mono e⟩
  | ins C fs => obtain ⟨o, vs, q, r⟩ := h; exact ⟨o, vs, k.trans q, r.mono e⟩
  | dg kvs => obtain ⟨xs, q, r, g⟩ := h; exact ⟨xs, k.trans q, r.mono e, g⟩
  | raw o => exact k.trans h
/-- what is not told of stays as it was -/
structure Stp (H : Hp) (C : Cp) (H' : Hp) (C' : Cp) : Prop where
  tx : Tx H H'
  hid : ∀ p o, H p = some o → C p = none → H' p = some o ∧ C' p = none
theorem Stp.refl (H : Hp) (C : Cp) : Stp H C H C := ⟨Tx.refl H, fun _ _ a b => ⟨a, b⟩⟩
theorem Stp.trans {H H1 H2 : Hp} {C C1 C2 : Cp} (a : Stp H C H1 C1) (b : Stp H1 C1 H2 C2) : Stp H C H2 C2 := ⟨a.tx.trans b.tx, fun p o e n => let ⟨e1, n1⟩ := a.hid p o e n; b.hid p o e1 n1⟩
/-- a store tells less than another -/
def Sub (C C' : Cp) : Prop := ∀ p c, C p = some c → C' p = some c
theorem Sub.refl (C : Cp) : Sub C C := fun _ _ h => h
theorem Sub.trans {C C1 C2 : Cp} (a : Sub C C1) (b : Sub C1 C2) : Sub C C2 := fun p c h => b p c (a p c h)
theorem Sub.none {C C' : Cp} (a : Sub C C') {p : Addr} (h : C' p = Option.none) : C p = Option.none := by
  cases e : C p with
  | none => rfl
  | some c => rw [a p c e] at h; cases h
theorem Sub.new {C : Cp} {p : Addr} {c : Cell} (h : C p = Option.none) : Sub C (up C p c) := fun q d e => by
  rw [up_ne]
  · exact e
  · intro z
    subst z
    rw [h] at e
    cases e
/-- what a def, or a block, began with -/
structure Bs where
  H : Hp
  C : Cp
  P : Program
  w : World
structure Rl (K : PySem.W.Frag) (B : Bs) (H : Hp) (C : Cp) : Prop where
  st : Stp B.H B.C H C
  ok : ∀ p c, C p = some c → CellOk B.P B.w K H p c
theorem Rl.fresh {K : PySem.W.Frag} {B : Bs} {H : Hp} {C : Cp} (r : Rl K B H C) {p : Addr} (h : H p = none) : C p = none := by
  cases e : C p with
  | none => rfl
  | some c => exact absurd h (r.ok p c e).there
theorem Rl.base {K : PySem.W.Frag} {B : Bs} {H : Hp} {C : Cp} (r : Rl K B H C) : Rl K ⟨H, C, B.P, B.w⟩ H C := ⟨Stp.refl H C, r.ok⟩
theorem Rl.rebase {K : PySem.W.Frag} {B : Bs} {H H' : Hp} {C C' : Cp} (r : Rl K B H C) (q : Rl K ⟨H, C, B.P, B.w⟩ H' C') : Rl K B H' C' := ⟨r.st.trans q.st, q.ok⟩
theorem Stp.less {H H' : Hp} {C C' C'' : Cp} (r : Stp H C H' C') (h : Sub C'' C') : Stp H C H' C'' := ⟨r.tx, fun p o e n => ⟨(r.hid p o e n).1, h.none (r.hid p o e n).2⟩⟩
/-- less is told -/
theorem Rl.less {K : PySem.W.Frag} {B : Bs} {H : Hp} {C C' : Cp} (r : Rl K B H C) (h : Sub C' C) : Rl K B H C' := ⟨r.st.less h, fun p c e => r.ok p c (h p c e)⟩
def Frz : Option HO → Prop
  | some (.tup _) => True
  | some (.frz _ _) => True
  | _ => False
theorem tx_upd {H : Hp} {p : Addr} {o : HO} (h : ¬ Frz (H p)) : Tx H (upd H p o) := by
  refine ⟨fun a xs e => ?_, fun a u xs e => ?_⟩
  · rw [upd_ne]
    · exact e
    · intro z
      subst z
      rw [e] at h
      exact h trivial
  · rw [upd_ne]
    · exact e
    · intro z
      subst z
      rw [e] at h
      exact h trivial
theorem tx_new {H : Hp} {p : Addr} {o : HO} (h : H p = none) : Tx H (upd H p o) := tx_upd (by rw [h]; exact id)
theorem stp_put {H : Hp} {C : Cp} {p : Addr} {o : HO} {c : Cell} (h : ¬ Frz (H p)) (hc : C p ≠ none ∨ H p = none) : Stp H C (upd H p o) (up C p c) := by
  refine ⟨tx_upd h, fun q u e n => ?_⟩
  have z : q ≠ p := by
    intro z
    subst z
    rcases hc with hc | hc
    · exact hc n
    · rw [hc] at e; cases e
  exact ⟨by rw [upd_ne z]; exact e, by rw [up_ne z]; exact n⟩
theorem stp_more {H : Hp} {C : Cp} {p : Addr} {o : HO} (h : H p = none) : Stp H C (upd H p o) C := ⟨tx_new h, fun q u e n => ⟨by rw [upd_ne (ne_of_none e h)]; exact e, n⟩⟩
/-- a cell is written or new -/
theorem Rl.put {K : PySem.W.Frag} {B : Bs} {H : Hp} {C : Cp} (r : Rl K B H C) {p : Addr} {o : HO} {c : Cell} (h : ¬ Frz (H p)) (hc : C p ≠ none ∨ H p = none) (new : CellOk B.P B.w K (upd H p o) p c) : Rl K B (upd H p o) (up C p c) := by
  refine ⟨r.st.trans (stp_put h hc), fun q d e => ?_⟩
  by_cases z : q = p
  · subst z
    rw [up_same] at e
    cases e
    exact new
  · rw [up_ne z] at e
    exact (r.ok q d e).keep (tx_upd h) (upd_ne z)
/-- something new that is not told of -/
theorem Rl.more {K : PySem.W.Frag} {B : Bs} {H : Hp} {C : Cp} (r : Rl K B H C) {p : Addr} {o : HO} (h : H p = none) : Rl K B (upd H p o) C := by
  refine ⟨r.st.trans (stp_more h), fun q d e => (r.ok q d e).keep (tx_new h) (upd_ne ?_)⟩
  intro z
  subst z
  exact (r.ok q d e).there h
theorem Rl.putNew {K : PySem.W.Frag} {B : Bs} {H : Hp} {C : Cp} (r : Rl K B H C) {p : Addr} {o : HO} {c : Cell} (h : H p = none) (new : CellOk B.P B.w K (upd H p o) p c) : Rl K B (upd H p o) (up C p c) := r.put (by rw [h]; exact id) (.inr h) new

/-! ### slots -/
def RepO (K : PySem.W.Frag) (H : Hp) (o : Option D) (x : Option V) : Prop := ∀ d, o = some d → ∃ v, x = some v ∧ Rep K H d v
def RepS (K : PySem.W.Frag) (H : Hp) (sl : Sl) (σ : L2.St) : Prop := Paired (RepO K H) sl σ
theorem RepO.mono {K : PySem.W.Frag} {H H' : Hp} (e : Tx H H') {o : Option D} {x : Option V} (h : RepO K H o x) : RepO K H' o x := fun d q => let ⟨v, e1, e2⟩ := h d q; ⟨v, e1, e2.mono e⟩
theorem RepS.mono {K : PySem.W.Frag} {H H' : Hp} (e : Tx H H') {sl : Sl} {σ : L2.St} (h : RepS K H sl σ) : RepS K H' sl σ := Paired.mapP h fun _ _ q => q.mono e
theorem RepS.get {K : PySem.W.Frag} {H : Hp} {sl : Sl} {σ : L2.St} {i : Nat} {d : D} (h : RepS K H sl σ) (e : sl[i]? = some (some d)) : ∃ v, σ[i]? = some (some v) ∧ Rep K H d v := by
  unfold RepS at h
  induction h generalizing i with
  | nil => simp at e
  | cons r t ih =>
    cases i with
    | zero =>
      simp only [List.length_cons, Nat.zero_lt_succ, getElem?_pos, List.getElem_cons_zero, Option.some.injEq] at e
      obtain ⟨v, q, h⟩ := r d e
      exact ⟨v, by rw [q]; rfl, h⟩
    | succ i =>
      obtain ⟨v, h1, h2⟩ := ih (by simpa using e)
      exact ⟨v, by simpa using h1, h2⟩
theorem RepS.set {K : PySem.W.Frag} {H : Hp} {o : Option D} {x : Option V} (r : RepO K H o x) {sl : Sl} {σ : L2.St} (i : Nat) (h : RepS K H sl σ) : RepS K H (sl.set i o) (σ.set i x) := by
  unfold RepS at h ⊢
  induction h generalizing i with
  | nil => exact .nil
  | cons q t ih =>
    cases i with
    | zero => exact .cons r t
    | succ i => exact .cons q (ih i)
theorem RepS.setD {K : PySem.W.Frag} {H : Hp} {d : D} {v : V} (r : Rep K H d v) {sl : Sl} {σ : L2.St} (i : Nat) (h : RepS K H sl σ) : RepS K H (sl.set i (some d)) (σ.set i (some v)) :=
  h.set (fun e q => by cases q; exact ⟨v, rfl, r⟩) i
def wipeD (sl : Sl) (vs : List Nat) : Sl := vs.foldr (fun v s => s.set v none) sl
theorem RepS.wipe {K : PySem.W.Frag} {H : Hp} {sl : Sl} {σ : L2.St} (h : RepS K H sl σ) : ∀ vs : List Nat, RepS K H (wipeD sl vs) (L2.wipe σ vs)
  | [] => h
  | v :: vs => (RepS.wipe h vs).set (fun d (q : Option.none = some d) => by cases q) v

/-! ### lifted readings -/
def lE (K : PySem.W.Frag) (B : Bs) (τ : DE) : TE := fun σ H Q => ∃ sl C Qd, RepS K H sl σ ∧ Rl K B H C ∧ τ sl C Qd ∧ ∀ v d H' C', Stp H C H' C' → Rl K B H' C' → Rep K H' d v → Qd d C' → Q v H'
def lT (K : PySem.W.Frag) (B : Bs) (τ : DT) : TT := fun σ H Q => ∃ sl C Qd, RepS K H sl σ ∧ Rl K B H C ∧ τ sl C Qd ∧ ∀ b H' C', Stp H C H' C' → Rl K B H' C' → Qd b C' → Q b H'
def lA (K : PySem.W.Frag) (B : Bs) (τ : DA) : TA := fun σ H Q => ∃ sl C Qd, RepS K H sl σ ∧ Rl K B H C ∧ τ sl C Qd ∧ ∀ vs ds H' C', Stp H C H' C' → Rl K B H' C' → Reps K H' ds vs → Qd ds C' → Q vs H'
structure EndsOk (K : PySem.W.Frag) (B : Bs) (H : Hp) (C : Cp) (Dd : DEnds) (D : Ends) : Prop where
  nx : ∀ σ sl H' C', Stp H C H' C' → Rl K B H' C' → RepS K H' sl σ → Dd.nx sl C' → D.nx σ H'
  rt : ∀ v d H' C', Stp H C H' C' → Rl K B H' C' → Rep K H' d v → Dd.rt d C' → D.rt v H'
  bk : ∀ σ sl H' C', Stp H C H' C' → Rl K B H' C' → RepS K H' sl σ → Dd.bk sl C' → D.bk σ H'
  ct : ∀ σ sl H' C', Stp H C H' C' → Rl K B H' C' → RepS K H' sl σ → Dd.ct sl C' → D.ct σ H'
theorem EndsOk.mono {K : PySem.W.Frag} {B : Bs} {H H1 : Hp} {C C1 : Cp} {Dd : DEnds} {D : Ends} (e : EndsOk K B H C Dd D) (t : Stp H C H1 C1) : EndsOk K B H1 C1 Dd D :=
  ⟨fun σ sl H' C' a => e.nx σ sl H' C' (t.trans a), fun σ sl H' C' a => e.rt σ sl H' C' (t.trans a), fun σ sl H' C' a => e.bk σ sl H' C' (t.trans a), fun σ sl H' C' a => e.ct σ sl H' C' (t.trans a)⟩
def lS (K : PySem.W.Frag) (B : Bs) (τ : DS) : TS := fun D σ H => ∃ sl C Dd, RepS K H sl σ ∧ Rl K B H C ∧ τ Dd sl C ∧ EndsOk K B H C Dd D
def lG (K : PySem.W.Frag) (B : Bs) (τ : DG) : TG := fun v σ H Q => ∃ d sl C Qd, Rep K H d v ∧ RepS K H sl σ ∧ Rl K B H C ∧ τ d sl C Qd ∧ ∀ σ' sl' H' C', Stp H C H' C' → Rl K B H' C' → RepS K H' sl' σ' → Qd sl' C' → Q σ' H'
def lGs (K : PySem.W.Frag) (B : Bs) (τ : DGs) : TGs := fun vs σ H Q => ∃ ds sl C Qd, Reps K H ds vs ∧ RepS K H sl σ ∧ Rl K B H C ∧ τ ds sl C Qd ∧ ∀ σ' sl' H' C', Stp H C H' C' → Rl K B H' C' → RepS K H' sl' σ' → Qd sl' C' → Q σ' H'

abbrev JE (X : Cx) (B : Bs) (e : Expr) (τ : DE) : Prop := PE X e (lE X.K B τ)
abbrev JT (X : Cx) (B : Bs) (e : Expr) (τ : DT) : Prop := PT X e (lT X.K B τ)
abbrev JW (X : Cx) (B : Bs) (e : Expr) (τ : DT) : Prop := PW X e (lT X.K B τ)
abbrev JA (X : Cx) (B : Bs) (es : List Expr) (τ : DA) : Prop := PA X es (lA X.K B τ)
abbrev JS (X : Cx) (B : Bs) (st : Stmt) (τ : DS) : Prop := PS X st (lS X.K B τ)
abbrev JSs (X : Cx) (B : Bs) (st : List Stmt) (τ : DS) : Prop := PSs X st (lS X.K B τ)
abbrev JG (X : Cx) (B : Bs) (e : Expr) (τ : DG) : Prop := PG X e (lG X.K B τ)
abbrev JGs (X : Cx) (B : Bs) (e : List Expr) (τ : DGs) : Prop := PGs X e (lGs X.K B τ)
section
variable {X : Cx} {B : Bs}
theorem PE.imp {e : Expr} {t t' : TE} (h : PE X e t) (i : ∀ σ H Q, t' σ H Q → t σ H Q) : PE X e t' := ⟨fun pins s σ H Q I q => h.run pins s σ H Q I (i σ H Q q)⟩
theorem PT.imp {e : Expr} {t t' : TT} (h : PT X e t) (i : ∀ σ H Q, t' σ H Q → t σ H Q) : PT X e t' := ⟨fun pins s σ H Q I q => h.run pins s σ H Q I (i σ H Q q)⟩
theorem PW.imp {e : Expr} {t t' : TT} (h : PW X e t) (i : ∀ σ H Q, t' σ H Q → t σ H Q) : PW X e t' := ⟨fun wh pins s σ H Q I q => h.run wh pins s σ H Q I (i σ H Q q)⟩
theorem PA.imp {e : List Expr} {t t' : TA} (h : PA X e t) (i : ∀ σ H Q, t' σ H Q → t σ H Q) : PA X e t' := ⟨fun pos pins s σ H Q I q => h.run pos pins s σ H Q I (i σ H Q q)⟩
theorem PS.imp {e : Stmt} {t t' : TS} (h : PS X e t) (i : ∀ D σ H, t' D σ H → t D σ H) : PS X e t' := ⟨fun pins s σ H D I q => h.run pins s σ H D I (i D σ H q)⟩
theorem PSs.imp {e : List Stmt} {t t' : TS} (h : PSs X e t) (i : ∀ D σ H, t' D σ H → t D σ H) : PSs X e t' := ⟨fun pins s σ H D I q => h.run pins s σ H D I (i D σ H q)⟩
theorem PG.imp {e : Expr} {t t' : TG} (h : PG X e t) (i : ∀ v σ H Q, t' v σ H Q → t v σ H Q) : PG X e t' := ⟨fun pins s σ H v u Q I r q => h.run pins s σ H v u Q I r (i v σ H Q q)⟩
theorem PGs.imp {e : List Expr} {t t' : TGs} (h : PGs X e t) (i : ∀ v σ H Q, t' v σ H Q → t v σ H Q) : PGs X e t' := ⟨fun pins s σ H v u Q I r q => h.run pins s σ H v u Q I r (i v σ H Q q)⟩

/-! ### names, constants -/
def dVar (i : Nat) : DE := fun s C Q => ∃ d, s[i]? = some (some d) ∧ Q d C
def dC (d : D) : DE := fun _ C Q => Q d C
theorem jv (i : Nat) {x : Str} {pos : Pos} (hN : X.N[i]? = some x := by rfl) (hv : Vis X.env.scope x := by first | exact Or.inl rfl | exact Or.inr (Or.inl rfl) | exact Or.inr (Or.inr rfl)) (hd : (x == ("__debug__" : Str)) = false := by decide)
    (hcd : (x == ("__classdict__" : Str)) = false := by decide) : JE X B (.Name x pos) (dVar i) := PE.imp (pe_var hN hv hd hcd) fun σ H Q h => by
  obtain ⟨sl, C, Qd, rs, rl, ⟨d, e, q⟩, k⟩ := h
  obtain ⟨v, e1, r⟩ := rs.get e
  exact ⟨v, e1, k v d H C (Stp.refl H C) rl r q⟩
theorem j_const {e : Expr} {v : V} (d : D) (h : PE X e (tC v)) (r : ∀ K H, Rep K H d v) : JE X B e (dC d) := PE.imp h fun σ H Q h => by
  obtain ⟨sl, C, Qd, rs, rl, q, k⟩ := h
  exact k v d H C (Stp.refl H C) rl (r _ _) q
theorem j_int {i j pos} : JE X B (.Constant (.int i) j pos) (dC (.int i)) := j_const _ pe_int fun _ _ => rfl
theorem j_bl {i j pos} : JE X B (.Constant (.bool i) j pos) (dC (.bl i)) := j_const _ pe_bl fun _ _ => rfl
theorem j_non {j pos} : JE X B (.Constant .none j pos) (dC .non) := j_const _ pe_non fun _ _ => rfl
/-- a text by its signs' numbers -/
theorem j_str {x : Str} {j pos} (l : List Nat) (h : x = ⟨l.toArray⟩ := by decide +kernel) : JE X B (.Constant (.str x) j pos) (dC (.str l)) := j_const _ pe_str fun _ _ => by
  show V.str x = _
  rw [h]
theorem j_globI {x : Str} {i : Int} {t : Tok} {pos : Pos} (hm : X.mg x = some (.int i t)) (hg : Gl X x := by rfl) (hd : (x == ("__debug__" : Str)) = false := by decide) : JE X B (.Name x pos) (dC (.int i)) := j_const _ (pe_glob (v := .int i) hg hm ⟨t, rfl⟩ hd) fun _ _ => rfl
theorem j_globS {x : Str} {z : Str} {t : Tok} {pos : Pos} (l : List Nat) (hm : X.mg x = some (.str z t)) (h : z = ⟨l.toArray⟩ := by decide +kernel) (hg : Gl X x := by rfl) (hd : (x == ("__debug__" : Str)) = false := by decide) : JE X B (.Name x pos) (dC (.str l)) := j_const _ (pe_glob (v := .str z) hg hm ⟨t, rfl⟩ hd) fun _ _ => by
  show V.str z = _
  rw [h]
end
end KB

/-! KB1: == of data. -/
namespace KB
open PySem PySem.Spec PyProof.Rows L2 SeqAt
mutual
def eqD : D → D → Bool
  | .non, .non => true
  | .bl a, .bl b => a == b
  | .bl a, .int j => (if a then 1 else 0) == j
  | .int i, .bl b => i == (if b then 1 else 0)
  | .int i, .int j => i == j
  | .str x, .str y => x == y
  | .tup xs, .tup ys => eqDs xs ys
  | _, _ => false
def eqDs : List D → List D → Bool
  | [], [] => true
  | x :: xs, y :: ys => eqD x y && eqDs xs ys
  | _, _ => false
end
mutual
/-- how deep; no places within -/
def dep : D → Nat
  | .tup xs => deps xs + 1
  | _ => 0
def deps : List D → Nat
  | [] => 0
  | x :: xs => max (dep x) (deps xs)
end
mutual
def npt : D → Bool
  | .tup xs => npts xs
  | .ptr _ => false
  | .ty _ => false
  | _ => true
def npts : List D → Bool
  | [] => true
  | x :: xs => npt x && npts xs
end
theorem deps_mem : ∀ {ds : List D} {d : D}, d ∈ ds → dep d ≤ deps ds
  | x :: xs, d, h => by
    unfold deps
    rcases List.mem_cons.mp h with rfl | h
    · omega
    · have := deps_mem h
      omega
theorem npts_mem : ∀ {ds : List D} {d : D}, npts ds = true → d ∈ ds → npt d = true
  | x :: xs, d, e, h => by
    unfold npts at e
    rw [Bool.and_eq_true] at e
    rcases List.mem_cons.mp h with rfl | h
    · exact e.1
    · exact npts_mem e.2 h
theorem npts_of : ∀ {ds : List D}, (∀ d ∈ ds, npt d = true) → npts ds = true
  | [], _ => rfl
  | x :: xs, h => by
    unfold npts
    rw [h x (by simp), npts_of fun d m => h d (by simp [m])]
    rfl
theorem deps_of : ∀ {ds : List D} {n : Nat}, (∀ d ∈ ds, dep d ≤ n) → deps ds ≤ n
  | [], _, _ => Nat.zero_le _
  | x :: xs, n, h => by
    unfold deps
    have h1 := h x List.mem_cons_self
    have h2 := deps_of fun d m => h d (List.mem_cons_of_mem _ m)
    omega
/-- what the tuples' rule tells is eqDs -/
theorem range_all_cons {f : Nat → Bool} {n : Nat} : (List.range (n + 1)).all f = (f 0 && (List.range n).all fun j => f (j + 1)) := by
  rw [List.range_succ_eq_map, List.all_cons, List.all_map]
  rfl
theorem eqDs_at : ∀ (ds es : List D), ((List.range (min ds.length es.length)).all (fun j => eqD (ds.getD j .non) (es.getD j .non)) && ds.length == es.length) = eqDs ds es
  | [], [] => rfl
  | [], _ :: _ => by
    unfold eqDs
    simp
  | _ :: _, [] => by
    unfold eqDs
    simp
  | x :: xs, y :: ys => by
    have ih := eqDs_at xs ys
    unfold eqDs
    rw [← ih, List.length_cons, List.length_cons, Nat.add_min_add_right, range_all_cons, Bool.and_assoc]
    have e : (xs.length + 1 == ys.length + 1) = (xs.length == ys.length) := by
      by_cases h : xs.length = ys.length
      · simp [h]
      · simp [h]
    rw [e]
    rfl
theorem getV_of {ds : List D} {vs : List V} {us : List Value} {K : PySem.W.Frag} {H : Hp} (r : Reps K H ds vs) (q : Vals vs us) {j : Nat} (h : j < us.length) : ∃ v, Rep K H (ds.getD j .non) v ∧ RelV v us[j] ∧ ds.getD j .non ∈ ds := by
  have hl : j < ds.length := by rw [r.length, q.length]; exact h
  obtain ⟨v, e1, e2⟩ := r.get (i := j) (d := ds[j]) (List.getElem?_eq_getElem hl)
  obtain ⟨u, e3, e4⟩ := q.get e1
  rw [List.getElem?_eq_getElem h] at e3
  cases e3
  have : ds.getD j .non = ds[j] := by rw [List.getD_eq_getElem?_getD, List.getElem?_eq_getElem hl]; rfl
  rw [this]
  exact ⟨v, e2, e4, List.getElem_mem hl⟩
section
variable {X : Cx} {pins : List (Addr × Obj)} {σ : L2.St} {H : Hp} {s : Shared}
theorem sOf_inj {x y : List Nat} (h : (⟨x.toArray⟩ : Str) = ⟨y.toArray⟩) : x = y := by simpa using congrArg Array.toList (congrArg Str.cps h)
mutual
theorem eqD_self : ∀ d : D, npt d = true → eqD d d = true
  | .non, _ => rfl
  | .bl b, _ => by unfold eqD; simp
  | .int i, _ => by unfold eqD; simp
  | .str l, _ => by unfold eqD; simp
  | .tup ds, h => by
    unfold eqD
    exact eqDs_self ds h
  | .ptr _, h => by unfold npt at h; cases h
  | .ty _, h => by unfold npt at h; cases h
theorem eqDs_self : ∀ ds : List D, npts ds = true → eqDs ds ds = true
  | [], _ => rfl
  | x :: xs, h => by
    unfold npts at h
    rw [Bool.and_eq_true] at h
    unfold eqDs
    rw [eqD_self x h.1, eqDs_self xs h.2]
    rfl
end
mutual
theorem rep_inj (I : Inv X pins σ H s) : ∀ (d e : D) (v : V), npt d = true → npt e = true → Rep X.K H d v → Rep X.K H e v → d = e
  | d, .ptr _, v, _, h, _, _ => by unfold npt at h; cases h
  | d, .ty _, v, _, h, _, _ => by unfold npt at h; cases h
  | .ptr _, _, v, h, _, _, _ => by unfold npt at h; cases h
  | .ty _, _, v, h, _, _, _ => by unfold npt at h; cases h
  | .non, e, v, _, _, h1, h2 => by
    cases h1
    cases e <;> first | rfl | (cases h2; done) | (obtain ⟨_, _, q, _⟩ := h2; cases q)
  | .bl b, e, v, _, _, h1, h2 => by
    cases h1
    cases e <;> first | (cases h2; rfl) | (cases h2; done) | (obtain ⟨_, _, q, _⟩ := h2; cases q)
  | .int b, e, v, _, _, h1, h2 => by
    cases h1
    cases e <;> first | (cases h2; rfl) | (cases h2; done) | (obtain ⟨_, _, q, _⟩ := h2; cases q)
  | .str b, e, v, _, _, h1, h2 => by
    cases h1
    cases e with
    | str c =>
      have h2 : V.str ⟨b.toArray⟩ = V.str ⟨c.toArray⟩ := h2
      rw [sOf_inj (V.str.inj h2)]
    | tup es => obtain ⟨_, _, q, _⟩ := h2; cases q
    | _ => cases h2
  | .tup ds, .tup es, v, n1, n2, h1, h2 => by
    obtain ⟨a, vs, rfl, q1, r1⟩ := h1
    obtain ⟨b, ws, e, q2, r2⟩ := h2
    cases e
    have := I.tuple_inj q1 q2
    subst this
    rw [reps_inj I ds es vs n1 n2 r1 r2]
  | .tup ds, .non, v, n1, n2, h1, h2 => by obtain ⟨_, _, rfl, _⟩ := h1; cases h2
  | .tup ds, .bl _, v, n1, n2, h1, h2 => by obtain ⟨_, _, rfl, _⟩ := h1; cases h2
  | .tup ds, .int _, v, n1, n2, h1, h2 => by obtain ⟨_, _, rfl, _⟩ := h1; cases h2
  | .tup ds, .str _, v, n1, n2, h1, h2 => by obtain ⟨_, _, rfl, _⟩ := h1; cases h2
theorem reps_inj (I : Inv X pins σ H s) : ∀ (ds es : List D) (vs : List V), npts ds = true → npts es = true → Reps X.K H ds vs → Reps X.K H es vs → ds = es
  | [], [], _, _, _, _, _ => rfl
  | [], _ :: _, vs, _, _, h1, h2 => by
    cases h1
    obtain ⟨_, _, q, _⟩ := h2
    cases q
  | _ :: _, [], vs, _, _, h1, h2 => by
    cases h2
    obtain ⟨_, _, q, _⟩ := h1
    cases q
  | d :: ds, e :: es, vs, n1, n2, h1, h2 => by
    unfold npts at n1 n2
    rw [Bool.and_eq_true] at n1 n2
    obtain ⟨v, r, rfl, a1, t1⟩ := h1
    obtain ⟨w, r2, q, a2, t2⟩ := h2
    cases q
    rw [rep_inj I d e v n1.1 n2.1 a1 a2, reps_inj I ds es r n1.2 n2.2 t1 t2]
end
theorem sarr_eq (x y : List Nat) : ((⟨x.toArray⟩ : Str) == ⟨y.toArray⟩) = (x == y) := by
  have : ((⟨x.toArray⟩ : Str) == ⟨y.toArray⟩) = (x.toArray == y.toArray) := by
    rw [Bool.eq_iff_iff, beq_iff_eq, beq_iff_eq]
    exact ⟨fun h => congrArg Str.cps h, fun h => by rw [h]⟩
  rw [this, Bool.eq_iff_iff, beq_iff_eq, beq_iff_eq]
  exact ⟨fun h => by simpa using congrArg Array.toList h, fun h => by rw [h]⟩
/-- == of data -/
theorem eqAt_D (I : Inv X pins σ H s) : ∀ (n : Nat) (d e : D) (A : Around) (x y : V) (u w : Value), dep d ≤ n → npt d = true → npt e = true → A.units + n < cLine → Rep X.K H d x → Rep X.K H e y → RelV x u → RelV y w → EqAt A s u w (eqD d e) := by
  intro n
  induction n with
  | zero =>
    intro d e A x y u w hd nd ne hA rd re ru rw'
    cases d with
    | tup ds => unfold dep at hd; omega
    | ptr a => exact absurd nd (by unfold npt; decide)
    | ty a => exact absurd nd (by unfold npt; decide)
    | non =>
      cases rd; cases ru
      cases e with
      | non => cases re; cases rw'; exact EqAt.same _
      | bl b => cases re; cases rw'; exact EqAt.none_bool b
      | int i => cases re; obtain ⟨t, rfl⟩ := rw'; exact EqAt.none_int i t
      | str l => cases re; obtain ⟨t, rfl⟩ := rw'; exact EqAt.none_str _ t
      | tup es =>
        obtain ⟨a, vs, rfl, hq, _⟩ := re
        cases rw'
        obtain ⟨its, _, p, _⟩ := I.tuple hq
        exact EqAt.none_tuple p (by omega)
      | ptr a => exact absurd ne (by unfold npt; decide)
      | ty a => exact absurd ne (by unfold npt; decide)
    | bl k =>
      cases rd; cases ru
      cases e with
      | non => cases re; cases rw'; exact EqAt.bool_none _
      | bl b => cases re; cases rw'; exact EqAt.bool_bool _ b
      | int i => cases re; obtain ⟨t, rfl⟩ := rw'; exact EqAt.bool_int _ i t
      | str l => cases re; obtain ⟨t, rfl⟩ := rw'; exact EqAt.bool_str _ _ t
      | tup es =>
        obtain ⟨a, vs, rfl, hq, _⟩ := re
        cases rw'
        obtain ⟨its, _, p, _⟩ := I.tuple hq
        exact EqAt.bool_tuple _ p (by omega)
      | ptr a => exact absurd ne (by unfold npt; decide)
      | ty a => exact absurd ne (by unfold npt; decide)
    | int k =>
      cases rd; obtain ⟨t0, rfl⟩ := ru
      cases e with
      | non => cases re; cases rw'; exact EqAt.int_none _ _
      | bl b => cases re; cases rw'; exact EqAt.int_bool _ _ b
      | int i => cases re; obtain ⟨t, rfl⟩ := rw'; exact EqAt.int_int _ _ i t
      | str l => cases re; obtain ⟨t, rfl⟩ := rw'; exact EqAt.int_str _ _ _ t
      | tup es =>
        obtain ⟨a, vs, rfl, hq, _⟩ := re
        cases rw'
        obtain ⟨its, _, p, _⟩ := I.tuple hq
        exact EqAt.int_tuple _ _ p (by omega)
      | ptr a => exact absurd ne (by unfold npt; decide)
      | ty a => exact absurd ne (by unfold npt; decide)
    | str k =>
      cases rd; obtain ⟨t0, rfl⟩ := ru
      cases e with
      | non => cases re; cases rw'; exact EqAt.str_none _ _
      | bl b => cases re; cases rw'; exact EqAt.str_bool _ _ b
      | int i => cases re; obtain ⟨t, rfl⟩ := rw'; exact EqAt.str_int _ _ i t
      | str l =>
        cases re; obtain ⟨t, rfl⟩ := rw'
        have h := EqAt.str_str (A := A) (s := s) ⟨k.toArray⟩ t0 ⟨l.toArray⟩ t
        rw [sarr_eq] at h
        exact h
      | tup es =>
        obtain ⟨a, vs, rfl, hq, _⟩ := re
        cases rw'
        obtain ⟨its, _, p, _⟩ := I.tuple hq
        exact EqAt.str_tuple _ _ p (by omega)
      | ptr a => exact absurd ne (by unfold npt; decide)
      | ty a => exact absurd ne (by unfold npt; decide)
  | succ n ih =>
    intro d e A x y u w hd nd ne hA rd re ru rw'
    cases d with
    | tup ds =>
      have hd : deps ds + 1 ≤ n + 1 := hd
      have nd : npts ds = true := nd
      obtain ⟨a, vs, rfl, hq, hr⟩ := rd
      cases ru
      obtain ⟨its, rv, p, _⟩ := I.tuple hq
      cases e with
      | non => cases re; cases rw'; exact EqAt.tuple_none p (by omega)
      | bl b => cases re; cases rw'; exact EqAt.tuple_bool b p (by omega)
      | int i => cases re; obtain ⟨t, rfl⟩ := rw'; exact EqAt.tuple_int i t p (by omega)
      | str l => cases re; obtain ⟨t, rfl⟩ := rw'; exact EqAt.tuple_str _ t p (by omega)
      | ptr a => exact absurd ne (by unfold npt; decide)
      | ty a => exact absurd ne (by unfold npt; decide)
      | tup es =>
        have ne : npts es = true := ne
        obtain ⟨b, ws, rfl, hq2, hr2⟩ := re
        cases rw'
        obtain ⟨its2, rv2, p2, _⟩ := I.tuple hq2
        have core : RcAt A s (.ref a) (.ref b) (eqDs ds es) := by
          have h := RcAt.tuples (A := A) (s := s) (e := fun j => eqD (ds.getD j .non) (es.getD j .non)) p p2 (by omega) (fun j h1 h2 => by
            have h1 : j < its.length := by simpa using h1
            have h2 : j < its2.length := by simpa using h2
            obtain ⟨v1, a1, a2, a3⟩ := getV_of hr rv h1
            obtain ⟨v2, b1, b2, b3⟩ := getV_of hr2 rv2 h2
            have m1 := deps_mem a3
            exact ih _ _ A.in1 v1 v2 _ _ (by omega) (npts_mem nd a3) (npts_mem ne b3) (by show A.units + 1 + n < cLine; omega) a1 b1 (by simpa using a2) (by simpa using b2))
          have l1 : its.toArray.size = ds.length := by rw [List.size_toArray, ← rv.length, ← hr.length]
          have l2 : its2.toArray.size = es.length := by rw [List.size_toArray, ← rv2.length, ← hr2.length]
          rw [l1, l2, eqDs_at] at h
          exact h
        by_cases hab : a = b
        · subst hab
          -- the same place: the rows are the same
          have hs : vs = ws := I.tuple_inj hq hq2
          subst hs
          have he : ds = es := reps_inj I ds es vs nd ne hr hr2
          subst he
          show EqAt A s _ _ (eqDs ds ds)
          rw [eqDs_self ds nd]
          exact EqAt.same _
        · exact EqAt.of_refs hab core
    | ptr a => exact absurd nd (by unfold npt; decide)
    | ty a => exact absurd nd (by unfold npt; decide)
    | non => exact ih _ _ A x y u w (by unfold dep; omega) nd ne (by omega) rd re ru rw'
    | bl k => exact ih _ _ A x y u w (by unfold dep; omega) nd ne (by omega) rd re ru rw'
    | int k => exact ih _ _ A x y u w (by unfold dep; omega) nd ne (by omega) rd re ru rw'
    | str k => exact ih _ _ A x y u w (by unfold dep; omega) nd ne (by omega) rd re ru rw'
end
end KB

/-! KB2: operators, tests, statements, loops, calls over data. -/
namespace KB
open PySem PySem.Spec PyProof.Rows L2 SeqAt
/-! ### operators by data -/
def lR (K : PySem.W.Frag) (B : Bs) (r : D → D → Cp → DQ → Prop) : R2 := fun x y H Q => ∃ dx dy C Qd, Rep K H dx x ∧ Rep K H dy y ∧ Rl K B H C ∧ r dx dy C Qd ∧ ∀ v d H' C', Stp H C H' C' → Rl K B H' C' → Rep K H' d v → Qd d C' → Q v H'
abbrev OpD (X : Cx) (B : Bs) (f : Value → Value → Sem Value) (r : D → D → Cp → DQ → Prop) : Prop := OpR X f (lR X.K B r)
def lU (K : PySem.W.Frag) (B : Bs) (r : D → Cp → DQ → Prop) : V → Hp → VK → Prop := fun x H Q => ∃ dx C Qd, Rep K H dx x ∧ Rl K B H C ∧ r dx C Qd ∧ ∀ v d H' C', Stp H C H' C' → Rl K B H' C' → Rep K H' d v → Qd d C' → Q v H'
def lC (K : PySem.W.Frag) (B : Bs) (r : List D → Cp → DQ → Prop) : List V → Hp → VK → Prop := fun xs H Q => ∃ ds C Qd, Reps K H ds xs ∧ Rl K B H C ∧ r ds C Qd ∧ ∀ v d H' C', Stp H C H' C' → Rl K B H' C' → Rep K H' d v → Qd d C' → Q v H'
abbrev CallD (X : Cx) (B : Bs) (f : Value) (r : List D → Cp → DQ → Prop) : Prop := CallR X f (lC X.K B r)
def lM (K : PySem.W.Frag) (B : Bs) (r : D → List D → Cp → DQ → Prop) : V → List V → Hp → VK → Prop := fun x xs H Q => ∃ d ds C Qd, Rep K H d x ∧ Reps K H ds xs ∧ Rl K B H C ∧ r d ds C Qd ∧ ∀ v e H' C', Stp H C H' C' → Rl K B H' C' → Rep K H' e v → Qd e C' → Q v H'
abbrev MtD (X : Cx) (B : Bs) (id : String) (r : D → List D → Cp → DQ → Prop) : Prop := MtR X id (lM X.K B r)

def addD : D → D → Cp → DQ → Prop
  | .int a, .int b, C, Q => Q (.int (a + b)) C
  | .str a, .str b, C, Q => a.length + b.length ≤ sizeLine ∧ Q (.str (a ++ b)) C
  | .tup a, .tup b, C, Q => a.length + b.length ≤ sizeLine ∧ Q (.tup (a ++ b)) C
  | .ptr a, .ptr b, C, Q => ∃ xs ys, C a = some (.lst xs) ∧ C b = some (.lst ys) ∧ xs.length + ys.length ≤ sizeLine ∧ ∀ p, C p = none → Q (.ptr p) (up C p (.lst (xs ++ ys)))
  | _, _, _, _ => False
def subD : D → D → Cp → DQ → Prop
  | .int a, .int b, C, Q => Q (.int (a - b)) C
  | _, _, _, _ => False
def mulD : D → D → Cp → DQ → Prop
  | .int a, .int b, C, Q => CMulW a b ∧ Q (.int (a * b)) C
  | .ptr a, .int k, C, Q => ∃ xs, C a = some (.lst xs) ∧ -(2 ^ 63) ≤ k ∧ k < 2 ^ 63 ∧ xs.length * k.toNat ≤ sizeLine ∧ ∀ p, C p = none → Q (.ptr p) (up C p (.lst (List.replicate k.toNat xs).flatten))
  | _, _, _, _ => False
def modD : D → D → Cp → DQ → Prop
  | .int a, .int b, C, Q => 0 < b ∧ Q (.int (a % b)) C
  | _, _, _, _ => False
def fdivD : D → D → Cp → DQ → Prop
  | .int a, .int b, C, Q => CDivW a b ∧ Q (.int (a / b)) C
  | _, _, _, _ => False
def powD : D → D → Cp → DQ → Prop
  | .int a, .int b, C, Q => CPow a b ∧ Q (.int (a ^ b.toNat)) C
  | _, _, _, _ => False
def ltD : D → D → Cp → DQ → Prop
  | .int a, .int b, C, Q => Q (.bl (decide (a < b))) C
  | .str a, .str b, C, Q => Q (.bl (decide (a < b))) C
  | _, _, _, _ => False
def leD : D → D → Cp → DQ → Prop
  | .int a, .int b, C, Q => Q (.bl (decide (a ≤ b))) C
  | .str a, .str b, C, Q => Q (.bl (!decide (b < a))) C
  | _, _, _, _ => False
def gtD : D → D → Cp → DQ → Prop
  | .int a, .int b, C, Q => Q (.bl (decide (b < a))) C
  | .str a, .str b, C, Q => Q (.bl (decide (b < a))) C
  | _, _, _, _ => False
def geD : D → D → Cp → DQ → Prop
  | .int a, .int b, C, Q => Q (.bl (decide (b ≤ a))) C
  | .str a, .str b, C, Q => Q (.bl (!decide (a < b))) C
  | _, _, _, _ => False
/-- what == may be asked of: data without places, of small depth; lists of such -/
def okEq (d : D) : Prop := npt d = true ∧ dep d ≤ 60
def okEqs (ds : List D) : Prop := npts ds = true ∧ deps ds ≤ 60
def isL (C : Cp) (p : Addr) (ds : List D) : Prop := C p = some (.lst ds) ∨ C p = some (.fz ds)
def eqR (neg : Bool) : D → D → Cp → DQ → Prop
  | .ptr p, .ptr q, C, Q => ∃ ds es, isL C p ds ∧ isL C q es ∧ okEqs ds ∧ npts es = true ∧ Q (.bl (if neg then !eqDs ds es else eqDs ds es)) C
  | .ptr p, d, C, Q => ∃ ds, isL C p ds ∧ npt d = true ∧ Q (.bl neg) C
  | d, .ptr p, C, Q => ∃ ds, isL C p ds ∧ npt d = true ∧ Q (.bl neg) C
  | d, e, C, Q => okEq d ∧ npt e = true ∧ Q (.bl (if neg then !eqD d e else eqD d e)) C
theorem isL.sq {K : PySem.W.Frag} {B : Bs} {H : Hp} {C : Cp} (r : Rl K B H C) {p : Addr} {ds : List D} (h : isL C p ds) : ∃ vs, SqL K H p vs ∧ Reps K H ds vs := by
  rcases h with h | h
  · obtain ⟨vs, e, q⟩ := r.ok _ _ h
    exact ⟨vs, .inl (.inl e), q⟩
  · obtain ⟨o, vs, e, q⟩ := r.ok _ _ h
    exact ⟨vs, .inl (.inr ⟨o, e⟩), q⟩
theorem Rl.cells {K : PySem.W.Frag} {B : Bs} {H : Hp} {C : Cp} (r : Rl K B H C) {p : Addr} {ds : List D} (h : C p = some (.lst ds)) : ∃ vs, H p = some (.lst vs) ∧ Reps K H ds vs := r.ok _ _ h
theorem CMulW_small {a b : Int} (h : (-(2 ^ 64) < a ∧ a < 2 ^ 64) ∧ -(2 ^ 64) < b ∧ b < 2 ^ 64) : CMulW a b := wide_mul (a := 64) (b := 64) (by omega) (by omega) (by decide) (by decide) (by decide)
theorem CDivW_small {a b : Int} (h : 0 < b ∧ b < 2 ^ 100) : CDivW a b := wide_div (b := 100) h.1 (by omega) (by decide) (by decide)
section
variable {X : Cx} {B : Bs} {pos : Pos} {a b c : Expr} {ta tb tc : DE}
theorem op_addD : OpD X B (binaryOp .Add) addD := by
  intro pins s σ H x y v u Q I rx ry h
  obtain ⟨dx, dy, C, Qd, r1, r2, rl, h, k⟩ := h
  cases dx with
  | int a =>
    cases dy with
    | int b =>
      cases r1; cases r2
      exact op_add pins s σ H _ _ v u Q I rx ry ⟨_, _, rfl, rfl, k _ (.int (a + b)) H C (Stp.refl _ _) rl rfl h⟩
    | _ => exact False.elim h
  | str a =>
    cases dy with
    | str b =>
      cases r1; cases r2
      refine op_add_str pins s σ H _ _ v u Q I rx ry ⟨_, _, rfl, rfl, ?_, k _ (.str (a ++ b)) H C (Stp.refl _ _) rl ?_ h.2⟩
      · show a.toArray.size + b.toArray.size ≤ sizeLine
        simpa using h.1
      · show V.str _ = V.str _
        congr 1
        exact TL.ext_tl (by rw [TL.tl_append])
    | _ => exact False.elim h
  | tup a =>
    cases dy with
    | tup b =>
      obtain ⟨p, vs, rfl, hp, hr⟩ := r1
      obtain ⟨q, ws, rfl, hq, hr2⟩ := r2
      refine op_catA pins s σ H _ _ v u Q I rx ry ⟨_, _, _, _, rfl, rfl, hp, hq, ?_, fun e => ?_, fun e e2 => ?_, fun e e2 t ht => ?_⟩
      · rw [← hr.length, ← hr2.length]
        exact h.1
      · subst e
        have : a = [] := List.length_eq_zero_iff.mp (by rw [hr.length] <;> rfl)
        subst this
        exact k _ (.tup ([] ++ b)) H C (Stp.refl _ _) rl ⟨_, _, rfl, hq, hr2⟩ h.2
      · subst e2
        have : b = [] := List.length_eq_zero_iff.mp (by rw [hr2.length] <;> rfl)
        subst this
        have h2 := h.2
        rw [List.append_nil] at h2
        exact k _ (.tup a) H C (Stp.refl _ _) rl ⟨_, _, rfl, hp, hr⟩ h2
      · exact k _ (.tup (a ++ b)) _ C (stp_more ht) (rl.more ht) ⟨t, _, rfl, .inl (.inl upd_same), (hr.append hr2).mono (tx_new ht)⟩ h.2
    | _ => exact False.elim h
  | ptr a =>
    cases dy with
    | ptr b =>
      cases r1; cases r2
      obtain ⟨xs, ys, ha, hb, hz, h⟩ := h
      obtain ⟨vs, e1, q1⟩ := rl.cells ha
      obtain ⟨ws, e2, q2⟩ := rl.cells hb
      refine op_cat pins s σ H _ _ v u Q I rx ry ⟨_, _, _, _, rfl, rfl, e1, e2, ?_, fun p hp => ?_⟩
      · rw [← q1.length, ← q2.length]
        exact hz
      · exact k _ (.ptr p) _ (up C p (.lst (xs ++ ys))) (stp_put (by rw [hp]; exact id) (.inr hp)) (rl.putNew hp ⟨_, upd_same, (q1.append q2).mono (tx_new hp)⟩) rfl (h p (rl.fresh hp))
    | _ => exact False.elim h
  | _ => exact False.elim h
theorem opI_D {f : Value → Value → Sem Value} {Cn : Int → Int → Prop} {g : Int → Int → V} {g' : Int → Int → D} (hr : OpR X f (rI Cn g)) (hg : ∀ i j K H, Rep K H (g' i j) (g i j)) {i j : Int} {pins : List (Addr × Obj)} {s : Shared} {σ : L2.St} {H : Hp} {C : Cp} {v u : Value} {Q : VK} {Qd : DQ}
    (I : Inv X pins σ H s) (rx : RelV (.int i) v) (ry : RelV (.int j) u) (rl : Rl X.K B H C) (hc : Cn i j) (h : Qd (g' i j) C) (k : ∀ v d H' C', Stp H C H' C' → Rl X.K B H' C' → Rep X.K H' d v → Qd d C' → Q v H') : wpAny (model X.prog X.w) X.A (f v u) (EP X pins σ Q) X.xe s :=
  hr pins s σ H _ _ v u Q I rx ry ⟨_, _, rfl, rfl, hc, k _ (g' i j) H C (Stp.refl _ _) rl (hg _ _ _ _) h⟩
theorem op_subD : OpD X B (binaryOp .Sub) subD := by
  intro pins s σ H x y v u Q I rx ry h
  obtain ⟨dx, dy, C, Qd, r1, r2, rl, h, k⟩ := h
  cases dx with
  | int a =>
    cases dy with
    | int b =>
      cases r1; cases r2
      exact op_sub pins s σ H _ _ v u Q I rx ry ⟨_, _, rfl, rfl, k _ (.int (a - b)) H C (Stp.refl _ _) rl rfl h⟩
    | _ => exact False.elim h
  | _ => exact False.elim h
theorem op_mulD : OpD X B (binaryOp .Mult) mulD := by
  intro pins s σ H x y v u Q I rx ry h
  obtain ⟨dx, dy, C, Qd, r1, r2, rl, h, k⟩ := h
  cases dx with
  | int a =>
    cases dy with
    | int b =>
      cases r1; cases r2
      exact opI_D (g' := fun i j => .int (i * j)) op_mulW (fun _ _ _ _ => rfl) I rx ry rl h.1 h.2 k
    | _ => exact False.elim h
  | ptr a =>
    cases dy with
    | int b =>
      cases r1; cases r2
      obtain ⟨xs, ha, h1, h2, h3, h⟩ := h
      obtain ⟨vs, e1, q1⟩ := rl.cells ha
      refine op_rep pins s σ H _ _ v u Q I rx ry ⟨_, _, _, rfl, rfl, e1, h1, h2, by rw [← q1.length]; exact h3, fun p hp => ?_⟩
      have q2 : ∀ n : Nat, Reps X.K H (List.replicate n xs).flatten (List.replicate n vs).flatten := by
        intro n
        induction n with
        | zero => exact .nil
        | succ n ih =>
          rw [List.replicate_succ, List.replicate_succ, List.flatten_cons, List.flatten_cons]
          exact q1.append ih
      exact k _ (.ptr p) _ (up C p (.lst _)) (stp_put (by rw [hp]; exact id) (.inr hp)) (rl.putNew hp ⟨_, upd_same, (q2 _).mono (tx_new hp)⟩) rfl (h p (rl.fresh hp))
    | _ => exact False.elim h
  | _ => exact False.elim h
theorem op_modD : OpD X B (binaryOp .Mod) modD := by
  intro pins s σ H x y v u Q I rx ry h
  obtain ⟨dx, dy, C, Qd, r1, r2, rl, h, k⟩ := h
  cases dx with
  | int a =>
    cases dy with
    | int b =>
      cases r1; cases r2
      exact opI_D (g' := fun i j => .int (i % j)) op_mod (fun _ _ _ _ => rfl) I rx ry rl h.1 h.2 k
    | _ => exact False.elim h
  | _ => exact False.elim h
theorem op_fdivD : OpD X B (binaryOp .FloorDiv) fdivD := by
  intro pins s σ H x y v u Q I rx ry h
  obtain ⟨dx, dy, C, Qd, r1, r2, rl, h, k⟩ := h
  cases dx with
  | int a =>
    cases dy with
    | int b =>
      cases r1; cases r2
      exact opI_D (g' := fun i j => .int (i / j)) op_fdivW (fun _ _ _ _ => rfl) I rx ry rl h.1 h.2 k
    | _ => exact False.elim h
  | _ => exact False.elim h
theorem op_powD : OpD X B (binaryOp .Pow) powD := by
  intro pins s σ H x y v u Q I rx ry h
  obtain ⟨dx, dy, C, Qd, r1, r2, rl, h, k⟩ := h
  cases dx with
  | int a =>
    cases dy with
    | int b =>
      cases r1; cases r2
      exact opI_D (g' := fun i j => .int (i ^ j.toNat)) op_pow (fun _ _ _ _ => rfl) I rx ry rl h.1 h.2 k
    | _ => exact False.elim h
  | _ => exact False.elim h
theorem op_ltD : OpD X B (compareOp .Lt) ltD := by
  intro pins s σ H x y v u Q I rx ry h
  obtain ⟨dx, dy, C, Qd, r1, r2, rl, h, k⟩ := h
  cases dx with
  | int a =>
    cases dy with
    | int b =>
      cases r1; cases r2
      exact op_lt pins s σ H _ _ v u Q I rx ry ⟨_, _, rfl, rfl, k _ (.bl _) H C (Stp.refl _ _) rl rfl h⟩
    | _ => exact False.elim h
  | str a =>
    cases dy with
    | str b =>
      cases r1; cases r2
      exact op_lt_str pins s σ H _ _ v u Q I rx ry ⟨_, _, rfl, rfl, k _ (.bl (decide (a < b))) H C (Stp.refl _ _) rl rfl h⟩
    | _ => exact False.elim h
  | _ => exact False.elim h
theorem op_leD : OpD X B (compareOp .LtE) leD := by
  intro pins s σ H x y v u Q I rx ry h
  obtain ⟨dx, dy, C, Qd, r1, r2, rl, h, k⟩ := h
  cases dx with
  | int a =>
    cases dy with
    | int b =>
      cases r1; cases r2
      exact op_le pins s σ H _ _ v u Q I rx ry ⟨_, _, rfl, rfl, k _ (.bl _) H C (Stp.refl _ _) rl rfl h⟩
    | _ => exact False.elim h
  | str a =>
    cases dy with
    | str b =>
      cases r1; cases r2
      exact op_le_str pins s σ H _ _ v u Q I rx ry ⟨_, _, rfl, rfl, k _ (.bl (!decide (b < a))) H C (Stp.refl _ _) rl rfl h⟩
    | _ => exact False.elim h
  | _ => exact False.elim h
theorem op_gtD : OpD X B (compareOp .Gt) gtD := by
  intro pins s σ H x y v u Q I rx ry h
  obtain ⟨dx, dy, C, Qd, r1, r2, rl, h, k⟩ := h
  cases dx with
  | int a =>
    cases dy with
    | int b =>
      cases r1; cases r2
      exact op_gt pins s σ H _ _ v u Q I rx ry ⟨_, _, rfl, rfl, k _ (.bl _) H C (Stp.refl _ _) rl rfl h⟩
    | _ => exact False.elim h
  | str a =>
    cases dy with
    | str b =>
      cases r1; cases r2
      exact op_gt_str pins s σ H _ _ v u Q I rx ry ⟨_, _, rfl, rfl, k _ (.bl (decide (b < a))) H C (Stp.refl _ _) rl rfl h⟩
    | _ => exact False.elim h
  | _ => exact False.elim h
theorem op_geD : OpD X B (compareOp .GtE) geD := by
  intro pins s σ H x y v u Q I rx ry h
  obtain ⟨dx, dy, C, Qd, r1, r2, rl, h, k⟩ := h
  cases dx with
  | int a =>
    cases dy with
    | int b =>
      cases r1; cases r2
      exact op_ge pins s σ H _ _ v u Q I rx ry ⟨_, _, rfl, rfl, k _ (.bl _) H C (Stp.refl _ _) rl rfl h⟩
    | _ => exact False.elim h
  | str a =>
    cases dy with
    | str b =>
      cases r1; cases r2
      exact op_ge_str pins s σ H _ _ v u Q I rx ry ⟨_, _, rfl, rfl, k _ (.bl (!decide (a < b))) H C (Stp.refl _ _) rl rfl h⟩
    | _ => exact False.elim h
  | _ => exact False.elim h
end
end KB

/-! KB3: == and != as operators. -/
namespace KB
open PySem PySem.Spec PyProof.Rows SeqAt
open L2 hiding op_eqD op_neD
section
variable {X : Cx} {pins : List (Addr × Obj)} {σ : L2.St} {H : Hp} {s : Shared}
theorem RcAt_D (I : L2.Inv X pins σ H s) (d e : D) (A : Around) (x y : V) (u w : Value) (hd : dep d ≤ 60) (nd : npt d = true) (ne : npt e = true) (hA : A.units + 60 < cLine) (rd : Rep X.K H d x) (re : Rep X.K H e y) (ru : RelV x u) (rw' : RelV y w) : RcAt A s u w (eqD d e) := by
  cases d with
  | ptr a => exact absurd nd (by unfold npt; decide)
  | ty a => exact absurd nd (by unfold npt; decide)
  | non =>
    cases rd; cases ru
    cases e with
    | ptr a => exact absurd ne (by unfold npt; decide)
    | ty a => exact absurd ne (by unfold npt; decide)
    | non =>
      cases re; cases rw'
      exact RcAt.none_none 
    | bl l =>
      cases re; cases rw'
      exact RcAt.none_bool _
    | int l =>
      cases re; obtain ⟨t, rfl⟩ := rw'
      exact RcAt.none_int _ _
    | str l =>
      cases re; obtain ⟨t, rfl⟩ := rw'
      exact RcAt.none_str _ _
    | tup es =>
      have ne : npts es = true := ne
      obtain ⟨b, ws, rfl, hq2, hr2⟩ := re
      cases rw'
      obtain ⟨its2, rv2, p2, _⟩ := I.tuple hq2
      exact RcAt.none_tuple  p2 (by omega)
  | bl k =>
    cases rd; cases ru
    cases e with
    | ptr a => exact absurd ne (by unfold npt; decide)
    | ty a => exact absurd ne (by unfold npt; decide)
    | non =>
      cases re; cases rw'
      exact RcAt.bool_none _
    | bl l =>
      cases re; cases rw'
      exact RcAt.bool_bool _ _
    | int l =>
      cases re; obtain ⟨t, rfl⟩ := rw'
      exact RcAt.bool_int _ _ _
    | str l =>
      cases re; obtain ⟨t, rfl⟩ := rw'
      exact RcAt.bool_str _ _ _
    | tup es =>
      have ne : npts es = true := ne
      obtain ⟨b, ws, rfl, hq2, hr2⟩ := re
      cases rw'
      obtain ⟨its2, rv2, p2, _⟩ := I.tuple hq2
      exact RcAt.bool_tuple _ p2 (by omega)
  | int k =>
    cases rd; obtain ⟨t0, rfl⟩ := ru
    cases e with
    | ptr a => exact absurd ne (by unfold npt; decide)
    | ty a => exact absurd ne (by unfold npt; decide)
    | non =>
      cases re; cases rw'
      exact RcAt.int_none _ _
    | bl l =>
      cases re; cases rw'
      exact RcAt.int_bool _ _ _
    | int l =>
      cases re; obtain ⟨t, rfl⟩ := rw'
      exact RcAt.int_int _ _ _ _
    | str l =>
      cases re; obtain ⟨t, rfl⟩ := rw'
      exact RcAt.int_str _ _ _ _
    | tup es =>
      have ne : npts es = true := ne
      obtain ⟨b, ws, rfl, hq2, hr2⟩ := re
      cases rw'
      obtain ⟨its2, rv2, p2, _⟩ := I.tuple hq2
      exact RcAt.int_tuple _ _ p2 (by omega)
  | str k =>
    cases rd; obtain ⟨t0, rfl⟩ := ru
    cases e with
    | ptr a => exact absurd ne (by unfold npt; decide)
    | ty a => exact absurd ne (by unfold npt; decide)
    | non =>
      cases re; cases rw'
      exact RcAt.str_none _ _
    | bl l =>
      cases re; cases rw'
      exact RcAt.str_bool _ _ _
    | int l =>
      cases re; obtain ⟨t, rfl⟩ := rw'
      exact RcAt.str_int _ _ _ _
    | str l =>
      cases re; obtain ⟨t, rfl⟩ := rw'
      have h := RcAt.str_str (A := A) (s := s) ⟨k.toArray⟩ t0 ⟨l.toArray⟩ t
      rw [sarr_eq] at h
      exact h
    | tup es =>
      have ne : npts es = true := ne
      obtain ⟨b, ws, rfl, hq2, hr2⟩ := re
      cases rw'
      obtain ⟨its2, rv2, p2, _⟩ := I.tuple hq2
      exact RcAt.str_tuple _ _ p2 (by omega)
  | tup ds =>
    have nd : npts ds = true := nd
    have hd : deps ds + 1 ≤ 60 := hd
    obtain ⟨a, vs, rfl, hq, hr⟩ := rd
    cases ru
    obtain ⟨its, rv, p, _⟩ := I.tuple hq
    cases e with
    | ptr a => exact absurd ne (by unfold npt; decide)
    | ty a => exact absurd ne (by unfold npt; decide)
    | non =>
      cases re; cases rw'
      exact RcAt.tuple_none  p (by omega)
    | bl l =>
      cases re; cases rw'
      exact RcAt.tuple_bool _ p (by omega)
    | int l =>
      cases re; obtain ⟨t, rfl⟩ := rw'
      exact RcAt.tuple_int _ _ p (by omega)
    | str l =>
      cases re; obtain ⟨t, rfl⟩ := rw'
      exact RcAt.tuple_str _ _ p (by omega)
    | tup es =>
      have ne : npts es = true := ne
      obtain ⟨b, ws, rfl, hq2, hr2⟩ := re
      cases rw'
      obtain ⟨its2, rv2, p2, _⟩ := I.tuple hq2
      have h := RcAt.tuples (A := A) (s := s) (e := fun j => eqD (ds.getD j .non) (es.getD j .non)) p p2 (by omega) (fun j h1 h2 => by
        have h1 : j < its.length := by simpa using h1
        have h2 : j < its2.length := by simpa using h2
        obtain ⟨v1, a1, a2, a3⟩ := getV_of hr rv h1
        obtain ⟨v2, b1, b2, b3⟩ := getV_of hr2 rv2 h2
        have m1 := deps_mem a3
        exact eqAt_D I 59 _ _ A.in1 v1 v2 _ _ (by omega) (npts_mem nd a3) (npts_mem ne b3) (by show A.units + 1 + 59 < cLine; omega) a1 b1 (by simpa using a2) (by simpa using b2))
      have l1 : its.toArray.size = ds.length := by rw [List.size_toArray, ← rv.length, ← hr.length]
      have l2 : its2.toArray.size = es.length := by rw [List.size_toArray, ← rv2.length, ← hr2.length]
      rw [l1, l2, eqDs_at] at h
      exact h
theorem RcAt_L (I : L2.Inv X pins σ H s) (ds es : List D) (A : Around) (p q : Addr) (hd : deps ds ≤ 60) (nd : npts ds = true) (ne : npts es = true) (hA : A.units + 70 < cLine) (rd : ∃ vs, SqL X.K H p vs ∧ Reps X.K H ds vs) (re : ∃ vs, SqL X.K H q vs ∧ Reps X.K H es vs) : RcAt A s (.ref p) (.ref q) (eqDs ds es) := by
  obtain ⟨vs, hq, hr⟩ := rd
  obtain ⟨ws, hq2, hr2⟩ := re
  obtain ⟨its, rv, pl, _⟩ := I.list hq
  obtain ⟨its2, rv2, pl2, _⟩ := I.list hq2
  have l1 : its.toArray.size = ds.length := by rw [List.size_toArray, ← rv.length, ← hr.length]
  have l2 : its2.toArray.size = es.length := by rw [List.size_toArray, ← rv2.length, ← hr2.length]
  by_cases hl : ds.length = es.length
  · have h := RcAt.lists (A := A) (s := s) (e := fun j => eqD (ds.getD j .non) (es.getD j .non)) pl.isList pl2.isList (by rw [l1, l2, hl]) (by omega) (fun j h1 h2 => by
      have h1 : j < its.length := by simpa using h1
      have h2 : j < its2.length := by simpa using h2
      obtain ⟨v1, a1, a2, a3⟩ := getV_of hr rv h1
      obtain ⟨v2, b1, b2, b3⟩ := getV_of hr2 rv2 h2
      have m1 := deps_mem a3
      exact eqAt_D I 60 _ _ A.in1 v1 v2 _ _ (by omega) (npts_mem nd a3) (npts_mem ne b3) (by show A.units + 1 + 60 < cLine; omega) a1 b1 (by simpa using a2) (by simpa using b2))
    have e := eqDs_at ds es
    rw [← hl, Nat.min_self, beq_self_eq_true, Bool.and_true] at e
    rw [l1, e] at h
    exact h
  · have e : eqDs ds es = false := by
      rw [← eqDs_at, beq_eq_false_iff_ne.mpr hl, Bool.and_false]
    rw [e]
    exact RcAt.lists_lengths pl.isList pl2.isList (by rw [l1, l2]; simpa using hl) (by omega)
theorem RcAt_Ld (I : L2.Inv X pins σ H s) (e : D) (A : Around) (p : Addr) (y : V) (w : Value) (ne : npt e = true) (hA : A.units + 70 < cLine) (rd : ∃ vs, SqL X.K H p vs) (re : Rep X.K H e y) (rw' : RelV y w) : RcAt A s (.ref p) w false := by
  obtain ⟨vs, hq⟩ := rd
  obtain ⟨its, rv, pl, _⟩ := I.list hq
  cases e with
  | ptr a => exact absurd ne (by unfold npt; decide)
  | ty a => exact absurd ne (by unfold npt; decide)
  | non => cases re; cases rw'; exact RcAt.list_none pl.isList (by omega)
  | bl b => cases re; cases rw'; exact RcAt.list_bool b pl.isList (by omega)
  | int i => cases re; obtain ⟨t, rfl⟩ := rw'; exact RcAt.list_int _ _ pl.isList (by omega)
  | str l => cases re; obtain ⟨t, rfl⟩ := rw'; exact RcAt.list_str _ _ pl.isList (by omega)
  | tup es =>
    obtain ⟨b, ws, rfl, hq2, hr2⟩ := re
    cases rw'
    obtain ⟨its2, rv2, p2, _⟩ := I.tuple hq2
    exact RcAt.list_tuple pl.isList p2 (by omega)
theorem RcAt_dL (I : L2.Inv X pins σ H s) (e : D) (A : Around) (p : Addr) (y : V) (w : Value) (ne : npt e = true) (hA : A.units + 70 < cLine) (rd : ∃ vs, SqL X.K H p vs) (re : Rep X.K H e y) (rw' : RelV y w) : RcAt A s w (.ref p) false := by
  obtain ⟨vs, hq⟩ := rd
  obtain ⟨its, rv, pl, _⟩ := I.list hq
  cases e with
  | ptr a => exact absurd ne (by unfold npt; decide)
  | ty a => exact absurd ne (by unfold npt; decide)
  | non => cases re; cases rw'; exact RcAt.none_list pl.isList (by omega)
  | bl b => cases re; cases rw'; exact RcAt.bool_list b pl.isList (by omega)
  | int i => cases re; obtain ⟨t, rfl⟩ := rw'; exact RcAt.int_list _ _ pl.isList (by omega)
  | str l => cases re; obtain ⟨t, rfl⟩ := rw'; exact RcAt.str_list _ _ pl.isList (by omega)
  | tup es =>
    obtain ⟨b, ws, rfl, hq2, hr2⟩ := re
    cases rw'
    obtain ⟨its2, rv2, p2, _⟩ := I.tuple hq2
    exact RcAt.tuple_list p2 pl.isList (by omega)
theorem RcNeAt_D (I : L2.Inv X pins σ H s) (d e : D) (A : Around) (x y : V) (u w : Value) (hd : dep d ≤ 60) (nd : npt d = true) (ne : npt e = true) (hA : A.units + 60 < cLine) (rd : Rep X.K H d x) (re : Rep X.K H e y) (ru : RelV x u) (rw' : RelV y w) : RcNeAt A s u w (!eqD d e) := by
  cases d with
  | ptr a => exact absurd nd (by unfold npt; decide)
  | ty a => exact absurd nd (by unfold npt; decide)
  | non =>
    cases rd; cases ru
    cases e with
    | ptr a => exact absurd ne (by unfold npt; decide)
    | ty a => exact absurd ne (by unfold npt; decide)
    | non =>
      cases re; cases rw'
      exact RcNeAt.none_none 
    | bl l =>
      cases re; cases rw'
      exact RcNeAt.none_bool _
    | int l =>
      cases re; obtain ⟨t, rfl⟩ := rw'
      exact RcNeAt.none_int _ _
    | str l =>
      cases re; obtain ⟨t, rfl⟩ := rw'
      exact RcNeAt.none_str _ _
    | tup es =>
      have ne : npts es = true := ne
      obtain ⟨b, ws, rfl, hq2, hr2⟩ := re
      cases rw'
      obtain ⟨its2, rv2, p2, _⟩ := I.tuple hq2
      exact RcNeAt.none_tuple  p2 (by omega)
  | bl k =>
    cases rd; cases ru
    cases e with
    | ptr a => exact absurd ne (by unfold npt; decide)
    | ty a => exact absurd ne (by unfold npt; decide)
    | non =>
      cases re; cases rw'
      exact RcNeAt.bool_none _
    | bl l =>
      cases re; cases rw'
      exact RcNeAt.bool_bool _ _
    | int l =>
      cases re; obtain ⟨t, rfl⟩ := rw'
      exact RcNeAt.bool_int _ _ _
    | str l =>
      cases re; obtain ⟨t, rfl⟩ := rw'
      exact RcNeAt.bool_str _ _ _
    | tup es =>
      have ne : npts es = true := ne
      obtain ⟨b, ws, rfl, hq2, hr2⟩ := re
      cases rw'
      obtain ⟨its2, rv2, p2, _⟩ := I.tuple hq2
      exact RcNeAt.bool_tuple _ p2 (by omega)
  | int k =>
    cases rd; obtain ⟨t0, rfl⟩ := ru
    cases e with
    | ptr a => exact absurd ne (by unfold npt; decide)
    | ty a => exact absurd ne (by unfold npt; decide)
    | non =>
      cases re; cases rw'
      exact RcNeAt.int_none _ _
    | bl l =>
      cases re; cases rw'
      exact RcNeAt.int_bool _ _ _
    | int l =>
      cases re; obtain ⟨t, rfl⟩ := rw'
      exact RcNeAt.int_int _ _ _ _
    | str l =>
      cases re; obtain ⟨t, rfl⟩ := rw'
      exact RcNeAt.int_str _ _ _ _
    | tup es =>
      have ne : npts es = true := ne
      obtain ⟨b, ws, rfl, hq2, hr2⟩ := re
      cases rw'
      obtain ⟨its2, rv2, p2, _⟩ := I.tuple hq2
      exact RcNeAt.int_tuple _ _ p2 (by omega)
  | str k =>
    cases rd; obtain ⟨t0, rfl⟩ := ru
    cases e with
    | ptr a => exact absurd ne (by unfold npt; decide)
    | ty a => exact absurd ne (by unfold npt; decide)
    | non =>
      cases re; cases rw'
      exact RcNeAt.str_none _ _
    | bl l =>
      cases re; cases rw'
      exact RcNeAt.str_bool _ _ _
    | int l =>
      cases re; obtain ⟨t, rfl⟩ := rw'
      exact RcNeAt.str_int _ _ _ _
    | str l =>
      cases re; obtain ⟨t, rfl⟩ := rw'
      have h := RcNeAt.str_str (A := A) (s := s) ⟨k.toArray⟩ t0 ⟨l.toArray⟩ t
      rw [sarr_eq] at h
      exact h
    | tup es =>
      have ne : npts es = true := ne
      obtain ⟨b, ws, rfl, hq2, hr2⟩ := re
      cases rw'
      obtain ⟨its2, rv2, p2, _⟩ := I.tuple hq2
      exact RcNeAt.str_tuple _ _ p2 (by omega)
  | tup ds =>
    have nd : npts ds = true := nd
    have hd : deps ds + 1 ≤ 60 := hd
    obtain ⟨a, vs, rfl, hq, hr⟩ := rd
    cases ru
    obtain ⟨its, rv, p, _⟩ := I.tuple hq
    cases e with
    | ptr a => exact absurd ne (by unfold npt; decide)
    | ty a => exact absurd ne (by unfold npt; decide)
    | non =>
      cases re; cases rw'
      exact RcNeAt.tuple_none  p (by omega)
    | bl l =>
      cases re; cases rw'
      exact RcNeAt.tuple_bool _ p (by omega)
    | int l =>
      cases re; obtain ⟨t, rfl⟩ := rw'
      exact RcNeAt.tuple_int _ _ p (by omega)
    | str l =>
      cases re; obtain ⟨t, rfl⟩ := rw'
      exact RcNeAt.tuple_str _ _ p (by omega)
    | tup es =>
      have ne : npts es = true := ne
      obtain ⟨b, ws, rfl, hq2, hr2⟩ := re
      cases rw'
      obtain ⟨its2, rv2, p2, _⟩ := I.tuple hq2
      have h := RcNeAt.tuples (A := A) (s := s) (e := fun j => eqD (ds.getD j .non) (es.getD j .non)) p p2 (by omega) (fun j h1 h2 => by
        have h1 : j < its.length := by simpa using h1
        have h2 : j < its2.length := by simpa using h2
        obtain ⟨v1, a1, a2, a3⟩ := getV_of hr rv h1
        obtain ⟨v2, b1, b2, b3⟩ := getV_of hr2 rv2 h2
        have m1 := deps_mem a3
        exact eqAt_D I 59 _ _ A.in1 v1 v2 _ _ (by omega) (npts_mem nd a3) (npts_mem ne b3) (by show A.units + 1 + 59 < cLine; omega) a1 b1 (by simpa using a2) (by simpa using b2))
      have l1 : its.toArray.size = ds.length := by rw [List.size_toArray, ← rv.length, ← hr.length]
      have l2 : its2.toArray.size = es.length := by rw [List.size_toArray, ← rv2.length, ← hr2.length]
      rw [l1, l2, eqDs_at] at h
      exact h
theorem RcNeAt_L (I : L2.Inv X pins σ H s) (ds es : List D) (A : Around) (p q : Addr) (hd : deps ds ≤ 60) (nd : npts ds = true) (ne : npts es = true) (hA : A.units + 70 < cLine) (rd : ∃ vs, SqL X.K H p vs ∧ Reps X.K H ds vs) (re : ∃ vs, SqL X.K H q vs ∧ Reps X.K H es vs) : RcNeAt A s (.ref p) (.ref q) (!eqDs ds es) := by
  obtain ⟨vs, hq, hr⟩ := rd
  obtain ⟨ws, hq2, hr2⟩ := re
  obtain ⟨its, rv, pl, _⟩ := I.list hq
  obtain ⟨its2, rv2, pl2, _⟩ := I.list hq2
  have l1 : its.toArray.size = ds.length := by rw [List.size_toArray, ← rv.length, ← hr.length]
  have l2 : its2.toArray.size = es.length := by rw [List.size_toArray, ← rv2.length, ← hr2.length]
  by_cases hl : ds.length = es.length
  · have h := RcNeAt.lists (A := A) (s := s) (e := fun j => eqD (ds.getD j .non) (es.getD j .non)) pl.isList pl2.isList (by rw [l1, l2, hl]) (by omega) (fun j h1 h2 => by
      have h1 : j < its.length := by simpa using h1
      have h2 : j < its2.length := by simpa using h2
      obtain ⟨v1, a1, a2, a3⟩ := getV_of hr rv h1
      obtain ⟨v2, b1, b2, b3⟩ := getV_of hr2 rv2 h2
      have m1 := deps_mem a3
      exact eqAt_D I 60 _ _ A.in1 v1 v2 _ _ (by omega) (npts_mem nd a3) (npts_mem ne b3) (by show A.units + 1 + 60 < cLine; omega) a1 b1 (by simpa using a2) (by simpa using b2))
    have e := eqDs_at ds es
    rw [← hl, Nat.min_self, beq_self_eq_true, Bool.and_true] at e
    rw [l1, e] at h
    exact h
  · have e : eqDs ds es = false := by
      rw [← eqDs_at, beq_eq_false_iff_ne.mpr hl, Bool.and_false]
    rw [e]
    exact RcNeAt.lists_lengths pl.isList pl2.isList (by rw [l1, l2]; simpa using hl) (by omega)
theorem RcNeAt_Ld (I : L2.Inv X pins σ H s) (e : D) (A : Around) (p : Addr) (y : V) (w : Value) (ne : npt e = true) (hA : A.units + 70 < cLine) (rd : ∃ vs, SqL X.K H p vs) (re : Rep X.K H e y) (rw' : RelV y w) : RcNeAt A s (.ref p) w true := by
  obtain ⟨vs, hq⟩ := rd
  obtain ⟨its, rv, pl, _⟩ := I.list hq
  cases e with
  | ptr a => exact absurd ne (by unfold npt; decide)
  | ty a => exact absurd ne (by unfold npt; decide)
  | non => cases re; cases rw'; exact RcNeAt.list_none pl.isList (by omega)
  | bl b => cases re; cases rw'; exact RcNeAt.list_bool b pl.isList (by omega)
  | int i => cases re; obtain ⟨t, rfl⟩ := rw'; exact RcNeAt.list_int _ _ pl.isList (by omega)
  | str l => cases re; obtain ⟨t, rfl⟩ := rw'; exact RcNeAt.list_str _ _ pl.isList (by omega)
  | tup es =>
    obtain ⟨b, ws, rfl, hq2, hr2⟩ := re
    cases rw'
    obtain ⟨its2, rv2, p2, _⟩ := I.tuple hq2
    exact RcNeAt.list_tuple pl.isList p2 (by omega)
theorem RcNeAt_dL (I : L2.Inv X pins σ H s) (e : D) (A : Around) (p : Addr) (y : V) (w : Value) (ne : npt e = true) (hA : A.units + 70 < cLine) (rd : ∃ vs, SqL X.K H p vs) (re : Rep X.K H e y) (rw' : RelV y w) : RcNeAt A s w (.ref p) true := by
  obtain ⟨vs, hq⟩ := rd
  obtain ⟨its, rv, pl, _⟩ := I.list hq
  cases e with
  | ptr a => exact absurd ne (by unfold npt; decide)
  | ty a => exact absurd ne (by unfold npt; decide)
  | non => cases re; cases rw'; exact RcNeAt.none_list pl.isList (by omega)
  | bl b => cases re; cases rw'; exact RcNeAt.bool_list b pl.isList (by omega)
  | int i => cases re; obtain ⟨t, rfl⟩ := rw'; exact RcNeAt.int_list _ _ pl.isList (by omega)
  | str l => cases re; obtain ⟨t, rfl⟩ := rw'; exact RcNeAt.str_list _ _ pl.isList (by omega)
  | tup es =>
    obtain ⟨b, ws, rfl, hq2, hr2⟩ := re
    cases rw'
    obtain ⟨its2, rv2, p2, _⟩ := I.tuple hq2
    exact RcNeAt.tuple_list p2 pl.isList (by omega)
end
section
variable {X : Cx} {B : Bs}
theorem op_eqD (hu : X.A.units + 70 < cLine) : OpD X B (compareOp .Eq) (eqR false) := by
  intro pins s σ H x y v u Q I rx ry h
  obtain ⟨dx, dy, C, Qd, r1, r2, rl, h, k⟩ := h
  have fin : ∀ b : Bool, RcAt X.A s v u b → Qd (.bl b) C → wpAny (model X.prog X.w) X.A (compareOp .Eq v u) (EP X pins σ Q) X.xe s := fun b hb hq => hb X.prog X.w _ _ ⟨.bl b, H, I, rfl, k _ (.bl b) H C (Stp.refl _ _) rl rfl hq⟩
  have gen : ∀ dx dy : D, Rep X.K H dx x → Rep X.K H dy y → okEq dx ∧ npt dy = true ∧ Qd (.bl (eqD dx dy)) C → wpAny (model X.prog X.w) X.A (compareOp .Eq v u) (EP X pins σ Q) X.xe s := fun dx dy a b ⟨⟨h1, h2⟩, h3, h4⟩ => fin _ (RcAt_D I dx dy X.A x y v u h2 h1 h3 (by omega) a b rx ry) h4
  cases dx with
  | ptr p =>
    cases r1; cases rx
    cases dy with
    | ptr q =>
      cases r2; cases ry
      obtain ⟨ds, es, h1, h2, ⟨h3, h4⟩, h5, h6⟩ := h
      exact fin _ (RcAt_L I ds es X.A p q h4 h3 h5 hu (h1.sq rl) (h2.sq rl)) h6
    | _ =>
      obtain ⟨ds, h1, h2, h3⟩ := h
      exact fin _ (RcAt_Ld I _ X.A p y u h2 hu (let ⟨vs, q, _⟩ := h1.sq rl; ⟨vs, q⟩) r2 ry) h3
  | _ =>
    cases dy with
    | ptr p =>
      cases r2; cases ry
      obtain ⟨ds, h1, h2, h3⟩ := h
      exact fin _ (RcAt_dL I _ X.A p x v h2 hu (let ⟨vs, q, _⟩ := h1.sq rl; ⟨vs, q⟩) r1 rx) h3
    | _ => exact gen _ _ r1 r2 h
theorem op_neD (hu : X.A.units + 70 < cLine) : OpD X B (compareOp .NotEq) (eqR true) := by
  intro pins s σ H x y v u Q I rx ry h
  obtain ⟨dx, dy, C, Qd, r1, r2, rl, h, k⟩ := h
  have fin : ∀ b : Bool, RcNeAt X.A s v u b → Qd (.bl b) C → wpAny (model X.prog X.w) X.A (compareOp .NotEq v u) (EP X pins σ Q) X.xe s := fun b hb hq => hb X.prog X.w _ _ ⟨.bl b, H, I, rfl, k _ (.bl b) H C (Stp.refl _ _) rl rfl hq⟩
  have gen : ∀ dx dy : D, Rep X.K H dx x → Rep X.K H dy y → okEq dx ∧ npt dy = true ∧ Qd (.bl (!eqD dx dy)) C → wpAny (model X.prog X.w) X.A (compareOp .NotEq v u) (EP X pins σ Q) X.xe s := fun dx dy a b ⟨⟨h1, h2⟩, h3, h4⟩ => fin _ (RcNeAt_D I dx dy X.A x y v u h2 h1 h3 (by omega) a b rx ry) h4
  cases dx with
  | ptr p =>
    cases r1; cases rx
    cases dy with
    | ptr q =>
      cases r2; cases ry
      obtain ⟨ds, es, h1, h2, ⟨h3, h4⟩, h5, h6⟩ := h
      exact fin _ (RcNeAt_L I ds es X.A p q h4 h3 h5 hu (h1.sq rl) (h2.sq rl)) h6
    | _ =>
      obtain ⟨ds, h1, h2, h3⟩ := h
      exact fin _ (RcNeAt_Ld I _ X.A p y u h2 hu (let ⟨vs, q, _⟩ := h1.sq rl; ⟨vs, q⟩) r2 ry) h3
  | _ =>
    cases dy with
    | ptr p =>
      cases r2; cases ry
      obtain ⟨ds, h1, h2, h3⟩ := h
      exact fin _ (RcNeAt_dL I _ X.A p x v h2 hu (let ⟨vs, q, _⟩ := h1.sq rl; ⟨vs, q⟩) r1 rx) h3
    | _ => exact gen _ _ r1 r2 h
end
end KB

/-! KB4: expressions, tests, statements over data. -/
namespace KB
open PySem PySem.Spec PyProof.Rows SeqAt
open L2 hiding op_eqD op_neD
theorem repB {K : PySem.W.Frag} {H : Hp} (b : Bool) : Rep K H (.bl b) (.bl b) := rfl
theorem repI {K : PySem.W.Frag} {H : Hp} (b : Int) : Rep K H (.int b) (.int b) := rfl
theorem repN {K : PySem.W.Frag} {H : Hp} : Rep K H .non .non := rfl
theorem repP {K : PySem.W.Frag} {H : Hp} (p : Addr) : Rep K H (.ptr p) (.ref p) := rfl
theorem repS {K : PySem.W.Frag} {H : Hp} (l : List Nat) : Rep K H (.str l) (.str ⟨l.toArray⟩) := rfl
section
variable {X : Cx} {B : Bs} {pos : Pos} {a b c : Expr} {ta tb tc : DE} {rest : List Expr}
/-! ### operators -/
def dOp (r : D → D → Cp → DQ → Prop) (ta tb : DE) : DE := fun s C Q => ta s C fun x C1 => tb s C1 fun y C2 => r x y C2 Q
theorem op_lift {K : PySem.W.Frag} {r : D → D → Cp → DQ → Prop} {σ : L2.St} {H : Hp} {Q : VK} (h : lE K B (dOp r ta tb) σ H Q) : tOp (lR K B r) (lE K B ta) (lE K B tb) σ H Q := by
  obtain ⟨sl, C, Qd, rs, rl, h, k⟩ := h
  exact ⟨sl, C, _, rs, rl, h, fun x dx H1 C1 st1 rl1 rx h1 => ⟨sl, C1, _, rs.mono st1.tx, rl1, h1, fun y dy H2 C2 st2 rl2 ry h2 => ⟨dx, dy, C2, Qd, rx.mono st2.tx, ry, rl2, h2, fun v d H' C' st => k v d H' C' ((st1.trans st2).trans st)⟩⟩⟩
theorem j_op {op : Operator} {r : D → D → Cp → DQ → Prop} (ho : OpD X B (binaryOp op) r) (ha : JE X B a ta) (hb : JE X B b tb) : JE X B (.BinOp a op b pos) (dOp r ta tb) := PE.imp (pe_op ho ha hb) fun _ _ _ h => op_lift h
theorem j_cmp {op : CmpOp} {r : D → D → Cp → DQ → Prop} (ho : OpD X B (compareOp op) r) (ha : JE X B a ta) (hb : JE X B b tb) (hm : behindInMarks op b = false := by first | exact nobehind _ (by decide) (by decide) | rfl) : JE X B (.Compare a [op] [b] pos) (dOp r ta tb) :=
  PE.imp (pe_cmpR ho ha hb hm) fun _ _ _ h => op_lift h
def dTest (t : DE) : DT := fun s C Q => t s C fun d C1 => ∃ b, d = .bl b ∧ Q b C1
theorem jt_cmp {op : CmpOp} {r : D → D → Cp → DQ → Prop} (ho : OpD X B (compareOp op) r) (ha : JE X B a ta) (hb : JE X B b tb) (hm : behindInMarks op b = false := by first | exact nobehind _ (by decide) (by decide) | rfl) : JT X B (.Compare a [op] [b] pos) (dTest (dOp r ta tb)) :=
  PT.imp (pt_cmpR ho ha hb hm) fun σ H Q h => by
    obtain ⟨sl, C, Qd, rs, rl, h, k⟩ := h
    refine op_lift (Q := fun x H' => ∃ k, x = .bl k ∧ Q k H') ⟨sl, C, _, rs, rl, h, fun v d H' C' st rl' r ⟨b, e, q⟩ => ?_⟩
    subst e
    exact ⟨b, r, k b H' C' st rl' q⟩
def dChain (r r' : D → D → Cp → DQ → Prop) (ta tb tc : DE) : DE := fun s C Q => ta s C fun x C1 => tb s C1 fun y C2 => r x y C2 fun z C3 => ∃ k, z = .bl k ∧ (if k = true then tc s C3 fun w C4 => r' y w C4 Q else Q (.bl false) C3)
theorem chain_lift {K : PySem.W.Frag} {r r' : D → D → Cp → DQ → Prop} {σ : L2.St} {H : Hp} {Q : VK} (h : lE K B (dChain r r' ta tb tc) σ H Q) : tChain (lR K B r) (lR K B r') (lE K B ta) (lE K B tb) (lE K B tc) σ H Q := by
  obtain ⟨sl, C, Qd, rs, rl, h, k⟩ := h
  refine ⟨sl, C, _, rs, rl, h, fun x dx H1 C1 st1 rl1 rx h1 => ⟨sl, C1, _, rs.mono st1.tx, rl1, h1, fun y dy H2 C2 st2 rl2 ry h2 => ⟨dx, dy, C2, _, rx.mono st2.tx, ry, rl2, h2, fun v d H3 C3 st3 rl3 rv ⟨kk, e, q⟩ => ?_⟩⟩⟩
  subst e
  refine ⟨kk, rv, ?_⟩
  cases kk with
  | true => exact ⟨sl, C3, _, rs.mono ((st1.trans st2).trans st3).tx, rl3, q, fun w dw H4 C4 st4 rl4 rw4 h4 => ⟨dy, dw, C4, Qd, ry.mono (st3.trans st4).tx, rw4, rl4, h4, fun v d H' C' st => k v d H' C' ((((st1.trans st2).trans st3).trans st4).trans st)⟩⟩
  | false => exact k _ _ H3 C3 ((st1.trans st2).trans st3) rl3 (repB _) q
theorem j_chain {op op' : CmpOp} {r r' : D → D → Cp → DQ → Prop} (ho : OpD X B (compareOp op) r) (ho' : OpD X B (compareOp op') r') (ha : JE X B a ta) (hb : JE X B b tb) (hc : JE X B c tc) (hm : lastMarks [op, op'] [b, c] = false := by with_unfolding_all rfl) :
    JE X B (.Compare a [op, op'] [b, c] pos) (dChain r r' ta tb tc) := PE.imp (pe_chain ho ho' ha hb hc hm) fun _ _ _ h => chain_lift h
theorem jt_chain {op op' : CmpOp} {r r' : D → D → Cp → DQ → Prop} (ho : OpD X B (compareOp op) r) (ho' : OpD X B (compareOp op') r') (ha : JE X B a ta) (hb : JE X B b tb) (hc : JE X B c tc) (hm : lastMarks [op, op'] [b, c] = false := by with_unfolding_all rfl) :
    JT X B (.Compare a [op, op'] [b, c] pos) (dTest (dChain r r' ta tb tc)) := PT.imp (pt_chain ho ho' ha hb hc hm) fun σ H Q h => by
  obtain ⟨sl, C, Qd, rs, rl, h, k⟩ := h
  refine chain_lift (Q := fun x H' => ∃ k, x = .bl k ∧ Q k H') ⟨sl, C, _, rs, rl, h, fun v d H' C' st rl' r ⟨b, e, q⟩ => ?_⟩
  subst e
  exact ⟨b, r, k b H' C' st rl' q⟩
/-! is None -/
def isNR (neg : Bool) : D → D → Cp → DQ → Prop := fun x y C Q => y = .non ∧ Q (.bl (match x with | .non => !neg | _ => neg)) C
theorem op_isND : OpD X B (compareOp .Is) (isNR false) := by
  intro pins s σ H x y v u Q I rx ry h
  obtain ⟨dx, dy, C, Qd, r1, r2, rl, ⟨e, h⟩, k⟩ := h
  subst e
  cases r2
  refine op_isN pins s σ H x _ v u Q I rx ry ⟨rfl, ?_⟩
  cases dx with
  | tup ds => obtain ⟨a, vs, rfl, _⟩ := r1; exact k _ _ H C (Stp.refl _ _) rl (repB _) h
  | _ => cases r1; exact k _ _ H C (Stp.refl _ _) rl (repB _) h
theorem op_isNND : OpD X B (compareOp .IsNot) (isNR true) := by
  intro pins s σ H x y v u Q I rx ry h
  obtain ⟨dx, dy, C, Qd, r1, r2, rl, ⟨e, h⟩, k⟩ := h
  subst e
  cases r2
  refine op_notN pins s σ H x _ v u Q I rx ry ⟨rfl, ?_⟩
  cases dx with
  | tup ds => obtain ⟨a, vs, rfl, _⟩ := r1; exact k _ _ H C (Stp.refl _ _) rl (repB _) h
  | _ => cases r1; exact k _ _ H C (Stp.refl _ _) rl (repB _) h

/-! ### tests -/
def truD (C : Cp) : D → Bool → Prop
  | .non, k => k = false
  | .bl b, k => k = b
  | .int i, k => k = (i != 0)
  | .str l, k => l.length ≤ sizeLine ∧ k = !l.isEmpty
  | .tup ds, k => k = !ds.isEmpty
  | .ptr p, k => (∃ ds, isL C p ds ∧ k = !ds.isEmpty) ∨ ∃ kvs, C p = some (.dk kvs) ∧ k = !kvs.isEmpty
  | .ty _, _ => False
theorem isEmpty_reps {K : PySem.W.Frag} {H : Hp} {ds : List D} {vs : List V} (r : Reps K H ds vs) : (!ds.isEmpty) = !vs.isEmpty := by
  have := r.length
  cases ds <;> cases vs <;> simp_all
theorem truD_ok {K : PySem.W.Frag} {H : Hp} {C : Cp} (rl : Rl K B H C) {d : D} {x : V} {k : Bool} (r : Rep K H d x) (h : truD C d k) : TruV K x H k := by
  cases d with
  | non => cases r; exact h
  | bl b => cases r; exact h
  | int i => cases r; exact h
  | str l =>
    cases r
    refine ⟨by simpa [Str.length] using h.1, ?_⟩
    rw [h.2]
    cases l with
    | nil => rfl
    | cons x l =>
      show true = (((l.length + 1 : Nat) : Int) != 0)
      symm
      rw [bne_iff_ne]
      omega
  | tup ds =>
    obtain ⟨a, vs, rfl, hq, hr⟩ := r
    have h : k = !ds.isEmpty := h
    exact .inr (.inl ⟨vs, hq, by rw [h, isEmpty_reps hr]⟩)
  | ptr p =>
    cases r
    rcases h with ⟨ds, hl, h⟩ | ⟨kvs, hl, h⟩
    · obtain ⟨vs, hq, hr⟩ := hl.sq rl
      exact .inl ⟨vs, hq, by rw [h, isEmpty_reps hr]⟩
    · obtain ⟨ws, e, q⟩ := rl.ok _ _ hl
      refine .inr (.inr ⟨ws, e, ?_⟩)
      rw [h]
      have := Paired.length q
      cases kvs <;> cases ws <;> simp_all
  | ty _ => exact h.elim
def dTru (t : DE) : DT := fun s C Q => t s C fun d C1 => ∃ k, truD C1 d k ∧ Q k C1
theorem jt_tru (ha : JE X B a ta) (he : ∀ whole, isTrue a X.env whole = (do let v ← whole; standAt a.pos; holding [v] (truthy v)) := by intro _; rfl) : JT X B a (dTru ta) := PT.imp (pt_truth ha he) fun σ H Q h => by
  obtain ⟨sl, C, Qd, rs, rl, h, k⟩ := h
  exact ⟨sl, C, _, rs, rl, h, fun v d H' C' st rl' r ⟨b, t, q⟩ => ⟨b, truD_ok rl' r t, k b H' C' st rl' q⟩⟩
def dAnd (t u : DT) : DT := fun s C Q => t s C fun c C1 => if c = true then u s C1 Q else Q false C1
def dOr (t u : DT) : DT := fun s C Q => t s C fun c C1 => if c = true then Q true C1 else u s C1 Q
def dNot (t : DT) : DT := fun s C Q => t s C fun c C1 => Q (!c) C1
variable {tA tB : DT}
theorem jw_and1 (ha : JT X B a tA) : JW X B (.BoolOp .And [a] pos) tA := pw_and1 ha
theorem jw_or1 (ha : JT X B a tA) : JW X B (.BoolOp .Or [a] pos) tA := pw_or1 ha
theorem jw_and (ha : JT X B a tA) (hb : JW X B (.BoolOp .And (b :: rest) pos) tB) : JW X B (.BoolOp .And (a :: b :: rest) pos) (dAnd tA tB) := PW.imp (pw_and ha hb) fun σ H Q h => by
  obtain ⟨sl, C, Qd, rs, rl, h, k⟩ := h
  refine ⟨sl, C, _, rs, rl, h, fun c H1 C1 st1 rl1 q => ?_⟩
  cases c with
  | true => exact ⟨sl, C1, Qd, rs.mono st1.tx, rl1, q, fun b H' C' st => k b H' C' (st1.trans st)⟩
  | false => exact k _ H1 C1 st1 rl1 q
theorem jw_or (ha : JT X B a tA) (hb : JW X B (.BoolOp .Or (b :: rest) pos) tB) : JW X B (.BoolOp .Or (a :: b :: rest) pos) (dOr tA tB) := PW.imp (pw_or ha hb) fun σ H Q h => by
  obtain ⟨sl, C, Qd, rs, rl, h, k⟩ := h
  refine ⟨sl, C, _, rs, rl, h, fun c H1 C1 st1 rl1 q => ?_⟩
  cases c with
  | false => exact ⟨sl, C1, Qd, rs.mono st1.tx, rl1, q, fun b H' C' st => k b H' C' (st1.trans st)⟩
  | true => exact k _ H1 C1 st1 rl1 q
theorem jt_w (h : JW X B a tA) : JT X B a tA := PW.pt h
theorem jt_not (ha : JT X B a tA) : JT X B (.UnaryOp .Not a pos) (dNot tA) := PT.imp (pt_not ha) fun σ H Q h => by
  obtain ⟨sl, C, Qd, rs, rl, h, k⟩ := h
  exact ⟨sl, C, _, rs, rl, h, fun c H1 C1 st1 rl1 q => k _ H1 C1 st1 rl1 q⟩
/-! as values -/
def dOrT (ta tb : DE) : DE := fun s C Q => ta s C fun x C1 => ∃ k, truD C1 x k ∧ if k = true then Q x C1 else tb s C1 Q
def dAndT (ta tb : DE) : DE := fun s C Q => ta s C fun x C1 => ∃ k, truD C1 x k ∧ if k = true then tb s C1 Q else Q x C1
def dNotT (ta : DE) : DE := fun s C Q => ta s C fun x C1 => ∃ k, truD C1 x k ∧ Q (.bl (!k)) C1
theorem j_one {op} (h : JE X B a ta) : JE X B (.BoolOp op [a] pos) ta := pe_one h
theorem j_or (ha : JE X B a ta) (hb : JE X B (.BoolOp .Or (b :: rest) pos) tb) : JE X B (.BoolOp .Or (a :: b :: rest) pos) (dOrT ta tb) := PE.imp (pe_orT ha hb) fun σ H Q h => by
  obtain ⟨sl, C, Qd, rs, rl, h, k⟩ := h
  refine ⟨sl, C, _, rs, rl, h, fun v d H1 C1 st1 rl1 r ⟨kk, t, q⟩ => ⟨kk, truD_ok rl1 r t, ?_⟩⟩
  cases kk with
  | true => exact k _ _ H1 C1 st1 rl1 r q
  | false => exact ⟨sl, C1, Qd, rs.mono st1.tx, rl1, q, fun v d H' C' st => k v d H' C' (st1.trans st)⟩
theorem j_and (ha : JE X B a ta) (hb : JE X B (.BoolOp .And (b :: rest) pos) tb) : JE X B (.BoolOp .And (a :: b :: rest) pos) (dAndT ta tb) := PE.imp (pe_andT ha hb) fun σ H Q h => by
  obtain ⟨sl, C, Qd, rs, rl, h, k⟩ := h
  refine ⟨sl, C, _, rs, rl, h, fun v d H1 C1 st1 rl1 r ⟨kk, t, q⟩ => ⟨kk, truD_ok rl1 r t, ?_⟩⟩
  cases kk with
  | false => exact k _ _ H1 C1 st1 rl1 r q
  | true => exact ⟨sl, C1, Qd, rs.mono st1.tx, rl1, q, fun v d H' C' st => k v d H' C' (st1.trans st)⟩
theorem j_not (ha : JE X B a ta) : JE X B (.UnaryOp .Not a pos) (dNotT ta) := PE.imp (pe_notT ha) fun σ H Q h => by
  obtain ⟨sl, C, Qd, rs, rl, h, k⟩ := h
  exact ⟨sl, C, _, rs, rl, h, fun v d H1 C1 st1 rl1 r ⟨kk, t, q⟩ => ⟨kk, truD_ok rl1 r t, k _ _ H1 C1 st1 rl1 (repB _) q⟩⟩
def dIfE (t : DT) (ta tb : DE) : DE := fun s C Q => t s C fun c C1 => if c = true then ta s C1 Q else tb s C1 Q
theorem j_ifExp (hc : JT X B c tA) (ha : JE X B a ta) (hb : JE X B b tb) : JE X B (.IfExp c a b pos) (dIfE tA ta tb) := PE.imp (pe_ifExp hc ha hb) fun σ H Q h => by
  obtain ⟨sl, C, Qd, rs, rl, h, k⟩ := h
  refine ⟨sl, C, _, rs, rl, h, fun cc H1 C1 st1 rl1 q => ?_⟩
  cases cc with
  | true => exact ⟨sl, C1, Qd, rs.mono st1.tx, rl1, q, fun v d H' C' st => k v d H' C' (st1.trans st)⟩
  | false => exact ⟨sl, C1, Qd, rs.mono st1.tx, rl1, q, fun v d H' C' st => k v d H' C' (st1.trans st)⟩
def dNeg (ta : DE) : DE := fun s C Q => ta s C fun x C1 => ∃ i, x = .int i ∧ Q (.int (-i)) C1
theorem j_neg (ha : JE X B a ta) : JE X B (.UnaryOp .USub a pos) (dNeg ta) := PE.imp (pe_un un_neg ha) fun σ H Q h => by
  obtain ⟨sl, C, Qd, rs, rl, h, k⟩ := h
  refine ⟨sl, C, _, rs, rl, h, fun v d H1 C1 st1 rl1 r ⟨i, e, q⟩ => ?_⟩
  subst e
  exact ⟨i, r, k _ (.int (-i)) H1 C1 st1 rl1 rfl q⟩

/-! ### arguments, displays -/
def dNil : DA := fun _ C Q => Q [] C
def dCons (t : DE) (u : DA) : DA := fun s C Q => t s C fun x C1 => u s C1 fun xs C2 => Q (x :: xs) C2
variable {es : List Expr} {tr : DA}
theorem jas_nil : JA X B [] dNil := PA.imp pa_nil fun σ H Q h => by
  obtain ⟨sl, C, Qd, rs, rl, h, k⟩ := h
  exact k [] [] H C (Stp.refl _ _) rl rfl h
theorem jas_cons (ha : JE X B a ta) (hr : JA X B es tr) (hs : starEach (a :: es) X.env = (false, eval a X.env) :: starEach es X.env := by rfl) : JA X B (a :: es) (dCons ta tr) := PA.imp (pa_cons ha hr hs) fun σ H Q h => by
  obtain ⟨sl, C, Qd, rs, rl, h, k⟩ := h
  refine ⟨sl, C, _, rs, rl, h, fun v d H1 C1 st1 rl1 r q => ⟨sl, C1, _, rs.mono st1.tx, rl1, q, fun vs ds H2 C2 st2 rl2 r2 q2 => ?_⟩⟩
  exact k _ _ H2 C2 (st1.trans st2) rl2 (.cons (r.mono st2.tx) r2) q2
def dTup (t : DA) : DE := fun s C Q => t s C fun ds C1 => ds.length ≤ 1000 ∧ Q (.tup ds) C1
def dLst (t : DA) : DE := fun s C Q => t s C fun ds C1 => ds.length ≤ 1000 ∧ ∀ p, C1 p = none → Q (.ptr p) (up C1 p (.lst ds))
theorem Rl.newL {K : PySem.W.Frag} {H : Hp} {C : Cp} (rl : Rl K B H C) {p : Addr} {ds : List D} {vs : List V} (hp : H p = none) (r : Reps K H ds vs) : Stp H C (upd H p (.lst vs)) (up C p (.lst ds)) ∧ Rl K B (upd H p (.lst vs)) (up C p (.lst ds)) :=
  ⟨stp_put (by rw [hp]; exact id) (.inr hp), rl.putNew hp ⟨vs, upd_same, r.mono (tx_new hp)⟩⟩
theorem Rl.newT {K : PySem.W.Frag} {H : Hp} {C : Cp} (rl : Rl K B H C) {p : Addr} {ds : List D} {vs : List V} (hp : H p = none) (r : Reps K H ds vs) : Stp H C (upd H p (.tup vs)) C ∧ Rl K B (upd H p (.tup vs)) C ∧ Rep K (upd H p (.tup vs)) (.tup ds) (.ref p) :=
  ⟨stp_more hp, rl.more hp, ⟨p, vs, rfl, .inl (.inl upd_same), r.mono (tx_new hp)⟩⟩
theorem sz1000 {n : Nat} (h : n ≤ 1000) : n ≤ sizeLine := Nat.le_trans h (by decide)
theorem j_tup {x1} (h : JA X B es tr) : JE X B (.Tuple es x1 pos) (dTup tr) := PE.imp (pe_tup h) fun σ H Q h => by
  obtain ⟨sl, C, Qd, rs, rl, h, k⟩ := h
  refine ⟨sl, C, _, rs, rl, h, fun vs ds H1 C1 st1 rl1 r ⟨hz, q⟩ => ⟨by rw [← r.length]; exact sz1000 hz, fun p hp => ?_⟩⟩
  obtain ⟨a1, a2, a3⟩ := rl1.newT hp r
  exact k _ _ _ C1 (st1.trans a1) a2 a3 q
theorem j_lst (h : JA X B es tr) : JE X B (.List es pos) (dLst tr) := PE.imp (pe_lst h) fun σ H Q h => by
  obtain ⟨sl, C, Qd, rs, rl, h, k⟩ := h
  refine ⟨sl, C, _, rs, rl, h, fun vs ds H1 C1 st1 rl1 r ⟨hz, q⟩ => ⟨by rw [← r.length]; exact sz1000 hz, fun p hp => ?_⟩⟩
  obtain ⟨a1, a2⟩ := rl1.newL hp r
  exact k _ _ _ _ (st1.trans a1) a2 (repP p) (q p (rl1.fresh hp))
def dEmp : DE := fun _ C Q => ∀ p, C p = none → Q (.ptr p) (up C p (.dk []))
def dEmpT : DE := fun _ C Q => ∀ p, C p = none → Q (.ptr p) (up C p (.dt []))
theorem j_emp : JE X B (.Dict [] [] pos) dEmp := PE.imp pe_dnewK fun σ H Q h p hp => by
  obtain ⟨sl, C, Qd, rs, rl, h, k⟩ := h
  exact k _ _ _ (up C p (.dk [])) (stp_put (by rw [hp]; exact id) (.inr hp)) (rl.putNew hp ⟨[], upd_same, .nil⟩) (repP p) (h p (rl.fresh hp))
theorem j_empT : JE X B (.Dict [] [] pos) dEmpT := PE.imp pe_dnewT fun σ H Q h p hp => by
  obtain ⟨sl, C, Qd, rs, rl, h, k⟩ := h
  exact k _ _ _ (up C p (.dt [])) (stp_put (by rw [hp]; exact id) (.inr hp)) (rl.putNew hp ⟨[], upd_same, .nil⟩) (repP p) (h p (rl.fresh hp))

/-! ### items, slices -/
def ixD : D → D → Cp → DQ → Prop
  | .tup ds, .int i, C, Q => ∃ d, atI ds i = some d ∧ Q d C
  | .str l, .int i, C, Q => l.length ≤ sizeLine ∧ ∃ c, atI l i = some c ∧ Q (.str [c]) C
  | .ptr p, .int i, C, Q => ∃ ds d, isL C p ds ∧ atI ds i = some d ∧ Q d C
  | _, _, _, _ => False
theorem atI_reps {K : PySem.W.Frag} {H : Hp} {ds : List D} {vs : List V} {i : Int} {d : D} (r : Reps K H ds vs) (h : atI ds i = some d) : ∃ v, atI vs i = some v ∧ Rep K H d v := by
  unfold atI at h ⊢
  rw [← r.length]
  cases e : ixN ds.length i with
  | none => rw [e] at h; cases h
  | some j =>
    rw [e] at h
    obtain ⟨v, e1, e2⟩ := r.get (show ds[j]? = some d from h)
    exact ⟨v, e1, e2⟩
theorem ix_D : IxR X (lR X.K B ixD) := by
  intro value slice pins s σ H x y v u Q I rx ry h hs
  obtain ⟨dx, dy, C, Qd, r1, r2, rl, h, k⟩ := h
  cases dx with
  | tup ds =>
    cases dy with
    | int i =>
      obtain ⟨a, vs, rfl, hq, hr⟩ := r1
      cases r2
      obtain ⟨d, e, q⟩ := h
      obtain ⟨w, e1, e2⟩ := atI_reps hr e
      exact ix_tup value slice pins s σ H _ _ v u Q I rx ry ⟨_, _, _, _, rfl, rfl, hq, e1, k _ d H C (Stp.refl _ _) rl e2 q⟩ hs
    | _ => exact False.elim h
  | str l =>
    cases dy with
    | int i =>
      cases r1; cases r2
      obtain ⟨hz, c, e, q⟩ := h
      exact ix_str value slice pins s σ H _ _ v u Q I rx ry ⟨_, _, c, rfl, rfl, by simpa [Str.length] using hz, e, k _ (.str [c]) H C (Stp.refl _ _) rl rfl q⟩ hs
    | _ => exact False.elim h
  | ptr p =>
    cases dy with
    | int i =>
      cases r1; cases r2
      obtain ⟨ds, d, hl, e, q⟩ := h
      obtain ⟨vs, hq, hr⟩ := hl.sq rl
      obtain ⟨w, e1, e2⟩ := atI_reps hr e
      exact ix_list value slice pins s σ H _ _ v u Q I rx ry ⟨_, _, _, _, rfl, rfl, hq, e1, k _ d H C (Stp.refl _ _) rl e2 q⟩ hs
    | _ => exact False.elim h
  | _ => exact False.elim h
theorem j_ix (ha : JE X B a ta) (hb : JE X B b tb) (hs : PlainIx b := by exact fun _ _ => rfl) : JE X B (.Subscript a b pos) (dOp ixD ta tb) := PE.imp (pe_ix ix_D ha hb hs) fun _ _ _ h => op_lift h
/-! parts -/
abbrev DO := Sl → Cp → (Option Int → Cp → Prop) → Prop
def lO (K : PySem.W.Frag) (B : Bs) (τ : DO) : TO := fun σ H Q => ∃ sl C Qd, RepS K H sl σ ∧ Rl K B H C ∧ τ sl C Qd ∧ ∀ o H' C', Stp H C H' C' → Rl K B H' C' → Qd o C' → Q o H'
abbrev JO (X : Cx) (B : Bs) (e : Option Expr) (τ : DO) : Prop := PO X e (lO X.K B τ)
theorem PO.imp {e : Option Expr} {t t' : TO} (h : PO X e t) (i : ∀ σ H Q, t' σ H Q → t σ H Q) : PO X e t' := ⟨fun pins s σ H Q I q => h.run pins s σ H Q I (i σ H Q q)⟩
def dNoP : DO := fun _ C Q => Q none C
def dPart (t : DE) : DO := fun s C Q => t s C fun x C1 => ∃ i, x = .int i ∧ Q (some i) C1
theorem jo_none : JO X B none dNoP := PO.imp po_none fun σ H Q h => by
  obtain ⟨sl, C, Qd, rs, rl, h, k⟩ := h
  exact k _ H C (Stp.refl _ _) rl h
theorem jo_some (ha : JE X B a ta) : JO X B (some a) (dPart ta) := PO.imp (po_some ha) fun σ H Q h => by
  obtain ⟨sl, C, Qd, rs, rl, h, k⟩ := h
  refine ⟨sl, C, _, rs, rl, h, fun v d H1 C1 st1 rl1 r ⟨i, e, q⟩ => ?_⟩
  subst e
  exact ⟨i, r, k _ H1 C1 st1 rl1 q⟩
def cutL {α : Type} (xs : List α) (lo hi : Option Int) : List α := (xs.drop (HT.sIx xs.length 0 lo)).take (HT.sIx xs.length xs.length hi - HT.sIx xs.length 0 lo)
theorem cutL_whole {α : Type} (xs : List α) {lo hi : Option Int} (h : HT.sIx xs.length 0 lo = 0 ∧ HT.sIx xs.length xs.length hi = xs.length) : cutL xs lo hi = xs := by
  unfold cutL
  rw [h.1, h.2]
  simp
def slD (x : D) (lo hi : Option Int) (C : Cp) (Q : DQ) : Prop := match x with
  | .tup ds => Q (.tup (cutL ds lo hi)) C
  | .str l => l.length ≤ sizeLine ∧ Q (.str (cutL l lo hi)) C
  | .ptr p => ∃ ds, isL C p ds ∧ ∀ q, C q = none → Q (.ptr q) (up C q (.lst (cutL ds lo hi)))
  | _ => False
def lSl (K : PySem.W.Frag) (B : Bs) : V → Option Int → Option Int → Hp → VK → Prop := fun x lo hi H Q => ∃ dx C Qd, Rep K H dx x ∧ Rl K B H C ∧ slD dx lo hi C Qd ∧ ∀ v d H' C', Stp H C H' C' → Rl K B H' C' → Rep K H' d v → Qd d C' → Q v H'
theorem sl_D : SlR X (lSl X.K B) := by
  intro pins s σ H x v vl vu lo hi sl Q I rx hs pl pu h
  obtain ⟨dx, C, Qd, r1, rl, h, k⟩ := h
  cases dx with
  | tup ds =>
    obtain ⟨a, vs, rfl, hq, hr⟩ := r1
    have h : Qd (.tup (cutL ds lo hi)) C := h
    refine sl_tupA pins s σ H _ v vl vu lo hi sl Q I rx hs pl pu ⟨a, vs, rfl, hq, fun e => ?_, fun e p hp => ?_⟩
    · rw [← hr.length] at e
      rw [cutL_whole ds e] at h
      exact k _ (.tup ds) H C (Stp.refl _ _) rl ⟨a, vs, rfl, hq, hr⟩ h
    · have hr2 : Reps X.K H (cutL ds lo hi) (cutV vs lo hi) := by
        unfold cutL cutV
        rw [← hr.length]
        exact (hr.drop _).take _
      obtain ⟨a1, a2, a3⟩ := rl.newT hp hr2
      exact k _ _ _ C a1 a2 a3 h
  | str l =>
    cases r1
    refine sl_str pins s σ H _ v vl vu lo hi sl Q I rx hs pl pu ⟨_, rfl, by simpa [Str.length] using h.1, k _ (.str (cutL l lo hi)) H C (Stp.refl _ _) rl ?_ h.2⟩
    show V.str _ = V.str _
    rfl
  | ptr p =>
    cases r1
    obtain ⟨ds, hl, h⟩ := h
    obtain ⟨vs, hq, hr⟩ := hl.sq rl
    refine sl_list pins s σ H _ v vl vu lo hi sl Q I rx hs pl pu ⟨p, vs, rfl, hq, fun q hqn => ?_⟩
    have hr2 : Reps X.K H (cutL ds lo hi) (cutV vs lo hi) := by
      unfold cutL cutV
      rw [← hr.length]
      exact (hr.drop _).take _
    obtain ⟨a1, a2⟩ := rl.newL hqn hr2
    exact k _ _ _ _ a1 a2 (repP q) (h q (rl.fresh hqn))
  | _ => exact False.elim h
def dSl (te : DE) (tl th : DO) : DE := fun s C Q => te s C fun x C1 => tl s C1 fun l C2 => th s C2 fun u C3 => slD x l u C3 Q
theorem j_slice {lo hi : Option Expr} {tl th : DO} {p2 : Pos} (ha : JE X B a ta) (hl : JO X B lo tl) (hu : JO X B hi th) : JE X B (.Subscript a (.Slice lo hi none p2) pos) (dSl ta tl th) := PE.imp (pe_slice sl_D ha hl hu) fun σ H Q h => by
  obtain ⟨sl, C, Qd, rs, rl, h, k⟩ := h
  exact ⟨sl, C, _, rs, rl, h, fun x dx H1 C1 st1 rl1 rx h1 => ⟨sl, C1, _, rs.mono st1.tx, rl1, h1, fun l H2 C2 st2 rl2 h2 => ⟨sl, C2, _, rs.mono (st1.trans st2).tx, rl2, h2, fun u H3 C3 st3 rl3 h3 => ⟨dx, C3, Qd, rx.mono (st2.trans st3).tx, rl3, h3, fun v d H' C' st => k v d H' C' (((st1.trans st2).trans st3).trans st)⟩⟩⟩⟩

/-! ### statements -/
variable {st : Stmt} {sts : List Stmt} {tS uS : DS}
def dNext : DS := fun D s C => D.nx s C
def dSeq (t u : DS) : DS := fun D s C => t { D with nx := u D } s C
theorem jss_nil : JSs X B [] dNext := PSs.imp pss_nil fun D σ H h => by
  obtain ⟨sl, C, Dd, rs, rl, h, k⟩ := h
  exact k.nx σ sl H C (Stp.refl _ _) rl rs h
theorem EndsOk.seq {K : PySem.W.Frag} {H : Hp} {C : Cp} {Dd : DEnds} {D : Ends} (k : EndsOk K B H C Dd D) (u : DS) : EndsOk K B H C { Dd with nx := u Dd } { D with nx := lS K B u D } :=
  ⟨fun σ sl H' C' st rl rs q => ⟨sl, C', Dd, rs, rl, q, k.mono st⟩, k.rt, k.bk, k.ct⟩
theorem jss_cons (h1 : JS X B st tS) (h2 : JSs X B sts uS) : JSs X B (st :: sts) (dSeq tS uS) := PSs.imp (pss_cons h1 h2) fun D σ H h => by
  obtain ⟨sl, C, Dd, rs, rl, h, k⟩ := h
  exact ⟨sl, C, _, rs, rl, h, k.seq uS⟩
theorem jss_one (h1 : JS X B st tS) : JSs X B [st] tS := PSs.imp (pss_one h1) fun D σ H h => h
def dBreak : DS := fun D s C => D.bk s C
def dCont : DS := fun D s C => D.ct s C
theorem js_pass : JS X B (.Pass pos) dNext := PS.imp ps_pass fun D σ H h => by
  obtain ⟨sl, C, Dd, rs, rl, h, k⟩ := h
  exact k.nx σ sl H C (Stp.refl _ _) rl rs h
theorem js_break : JS X B (.Break pos) dBreak := PS.imp ps_break fun D σ H h => by
  obtain ⟨sl, C, Dd, rs, rl, h, k⟩ := h
  exact k.bk σ sl H C (Stp.refl _ _) rl rs h
theorem js_continue : JS X B (.Continue pos) dCont := PS.imp ps_continue fun D σ H h => by
  obtain ⟨sl, C, Dd, rs, rl, h, k⟩ := h
  exact k.ct σ sl H C (Stp.refl _ _) rl rs h
def dDrop (t : DE) : DS := fun D s C => t s C fun _ C1 => D.nx s C1
theorem js_expr (ha : JE X B a ta) (hs : swapsWith a none pos.line X.env = pure false := by rfl) : JS X B (.Expr a pos) (dDrop ta) := PS.imp (ps_expr ha hs) fun D σ H h => by
  obtain ⟨sl, C, Dd, rs, rl, h, k⟩ := h
  exact ⟨sl, C, _, rs, rl, h, fun v d H1 C1 st1 rl1 r q => k.nx σ sl H1 C1 st1 rl1 (rs.mono st1.tx) q⟩
/-- a def's end: what is not wanted any more may be let go -/
def dRet (t : DE) : DS := fun D s C => t s C D.rt
theorem js_ret (ha : JE X B a ta) : JS X B (.Return (some a) pos) (dRet ta) := PS.imp (ps_ret ha) fun D σ H h => by
  obtain ⟨sl, C, Dd, rs, rl, h, k⟩ := h
  exact ⟨sl, C, _, rs, rl, h, fun v d H1 C1 st1 rl1 r q => k.rt v d H1 C1 st1 rl1 r q⟩
def dIf (c : DT) (t u : DS) : DS := fun D s C => c s C fun b C1 => if b = true then t D s C1 else u D s C1
theorem js_if {p q : List Stmt} (hc : JT X B c tA) (ha : JSs X B p tS) (hb : JSs X B q uS) : JS X B (.If c p q pos) (dIf tA tS uS) := PS.imp (ps_if hc ha hb) fun D σ H h => by
  obtain ⟨sl, C, Dd, rs, rl, h, k⟩ := h
  refine ⟨sl, C, _, rs, rl, h, fun b H1 C1 st1 rl1 q => ?_⟩
  cases b with
  | true => exact ⟨sl, C1, Dd, rs.mono st1.tx, rl1, q, k.mono st1⟩
  | false => exact ⟨sl, C1, Dd, rs.mono st1.tx, rl1, q, k.mono st1⟩
/-- code that is not reached -/
def dNever : DS := fun _ _ _ => False
theorem js_never : JS X B st dNever := PS.imp ps_never fun D σ H h => by
  obtain ⟨sl, C, Dd, rs, rl, h, k⟩ := h
  exact h.elim
theorem jss_never : JSs X B sts dNever := PSs.imp pss_never fun D σ H h => by
  obtain ⟨sl, C, Dd, rs, rl, h, k⟩ := h
  exact h.elim
/-! targets -/
def gNm (i : Nat) : DG := fun d s C Q => Q (s.set i (some d)) C
theorem jg_name {i : Nat} {x : Str} (hN : X.N.Nodup) (hi : X.N[i]? = some x := by rfl) (hx : Loc X.env.scope x := by first | exact .inl rfl | exact .inr rfl) (hf : X.fn x = true ∨ X.env.scope.names.lookup x = some .local := by first | exact .inl rfl | exact .inr rfl | assumption) : JG X B (.Name x pos) (gNm i) := PG.imp (pg_name hN hi hx hf) fun v σ H Q h => by
  obtain ⟨d, sl, C, Qd, r, rs, rl, h, k⟩ := h
  exact k _ _ H C (Stp.refl _ _) rl (rs.setD r i) h
def gNl : DGs := fun ds s C Q => ds = [] ∧ Q s C
def gCn (t : DG) (u : DGs) : DGs := fun ds s C Q => ∃ d r, ds = d :: r ∧ t d s C fun s' C' => u r s' C' Q
theorem jgs_nil : JGs X B [] gNl := PGs.imp pgs_nil fun v σ H Q h => by
  obtain ⟨d, sl, C, Qd, r, rs, rl, ⟨e, h⟩, k⟩ := h
  subst e
  cases r
  exact ⟨rfl, k _ _ H C (Stp.refl _ _) rl rs h⟩
theorem jgs_cons {g : DG} {gs : DGs} (h1 : JG X B a g) (h2 : JGs X B es gs) (hs : (assignEach (a :: es) X.env).map (·.2) = assign a X.env :: (assignEach es X.env).map (·.2) := by rfl) : JGs X B (a :: es) (gCn g gs) := PGs.imp (pgs_cons h1 h2 hs) fun v σ H Q h => by
  obtain ⟨ds, sl, C, Qd, r, rs, rl, ⟨d, dr, e, h⟩, k⟩ := h
  subst e
  obtain ⟨w, vr, rfl, r1, r2⟩ := r
  exact ⟨w, vr, rfl, d, sl, C, _, r1, rs, rl, h, fun σ' sl' H' C' st rl' rs' q => ⟨dr, sl', C', Qd, r2.mono st.tx, rs', rl', q, fun a b c d e => k a b c d (st.trans e)⟩⟩
def gTp (n : Nat) (t : DGs) : DG := fun d s C Q => ∃ ds, d = .tup ds ∧ ds.length = n ∧ t ds s C Q
theorem jg_tup {k : Nat} {t : DGs} {n : Nat} (hc : X.calm = true) (h : JGs X B es t) (hn : (assignEach es X.env).length = n := by rfl) (hst : (assignEach es X.env).findIdx? (·.1) = none := by rfl) : JG X B (.Tuple es k pos) (gTp n t) := PG.imp (pg_tup hc h hn hst) fun v σ H Q h => by
  obtain ⟨d, sl, C, Qd, r, rs, rl, ⟨ds, e, hl, h⟩, k⟩ := h
  subst e
  obtain ⟨a, vs, rfl, hq, hr⟩ := r
  exact ⟨a, vs, rfl, hq, by rw [← hr.length]; exact hl, ds, sl, C, Qd, hr, rs, rl, h, k⟩
def dAsg (te : DE) (g : DG) : DS := fun D s C => te s C fun x C1 => g x s C1 D.nx
theorem js_asg {tg : Expr} {g : DG} (ha : JE X B a ta) (hg : JG X B tg g) (hs : swapsWithSole [tg] a pos.line X.env = pure false := by rfl) (hw : swappedStores [tg] a X.env = pure none := by rfl) (h1 : (assignEach [tg] X.env).map (·.2) = [assign tg X.env] := by rfl) : JS X B (.Assign [tg] a pos) (dAsg ta g) := PS.imp (ps_asg ha hg hs hw h1) fun D σ H h => by
  obtain ⟨sl, C, Dd, rs, rl, h, k⟩ := h
  exact ⟨sl, C, _, rs, rl, h, fun v d H1 C1 st1 rl1 r q => ⟨d, sl, C1, _, r, rs.mono st1.tx, rl1, q, fun σ' sl' H' C' st rl' rs' q' => k.nx σ' sl' H' C' (st1.trans st) rl' rs' q'⟩⟩
theorem js_set {i : Nat} {x : Str} {pos' : Pos} (hN : X.N.Nodup) (ha : JE X B a ta) (hi : X.N[i]? = some x := by rfl) (hx : Loc X.env.scope x := by first | exact .inl rfl | exact .inr rfl) (hs : swapsWith a (some (.Name x pos')) pos.line X.env = pure false := by rfl) (hf : X.fn x = true ∨ X.env.scope.names.lookup x = some .local := by first | exact .inl rfl | exact .inr rfl | assumption) :
    JS X B (.Assign [.Name x pos'] a pos) (dAsg ta (gNm i)) := PS.imp (ps_set hN hi hx ha hs hf) fun D σ H h => by
  obtain ⟨sl, C, Dd, rs, rl, h, k⟩ := h
  exact ⟨sl, C, _, rs, rl, h, fun v d H1 C1 st1 rl1 r q => k.nx _ _ H1 C1 st1 rl1 ((rs.mono st1.tx).setD r i) q⟩
/-- a, b = e1, e2, the names two different locals -/
def dPar (i j : Nat) (ta : DA) : DS := fun D s C => ta s C fun ds C1 => ∃ v w, ds = [v, w] ∧ D.nx ((s.set i (some v)).set j (some w)) C1
end
end KB

/-! KB5: loops, comprehensions, calls over data. -/
namespace KB
open PySem PySem.Spec PyProof.Rows SeqAt
open L2 hiding op_eqD op_neD
/-- what is walked: the items, what must stay of the store for that -/
abbrev DI := Sl → Cp → (List D → (Cp → Prop) → Cp → Prop) → Prop
structure WalkD (K : PySem.W.Frag) (B : Bs) (J : It) (items : List D) (ok : Cp → Prop) : Prop where
  goes : ∀ i H C, i < items.length → Rl K B H C → ok C → J.go i H
  stops : ∀ H C, Rl K B H C → ok C → J.stop items.length H
  yields : ∀ i H C x H', i < items.length → Rl K B H C → ok C → J.yld i H x H' → Stp H C H' C ∧ Rl K B H' C ∧ ∃ d, items[i]? = some d ∧ Rep K H' d x
def lI (K : PySem.W.Frag) (B : Bs) (τ : DI) : TI := fun σ H R => ∃ sl C Qd, RepS K H sl σ ∧ Rl K B H C ∧ τ sl C Qd ∧ ∀ items ok H' C' J, Stp H C H' C' → Rl K B H' C' → WalkD K ⟨H', C', B.P, B.w⟩ J items ok → Qd items ok C' → R J H'
abbrev JI (X : Cx) (B : Bs) (tg e : Expr) (τ : DI) : Prop := PI X tg e (lI X.K B τ)
theorem PI.imp {X : Cx} {tg e : Expr} {t t' : TI} (h : PI X tg e t) (i : ∀ σ H R, t' σ H R → t σ H R) : PI X tg e t' := ⟨fun pins s σ H R I q => h.run pins s σ H R I (i σ H R q)⟩
section
variable {X : Cx} {B : Bs} {pos : Pos} {a b c tg e : Expr} {ta tb tc : DE} {rest es : List Expr} {tr : DA} {K : PySem.W.Frag}
theorem walkD_same {J : It} {items : List D} {ok : Cp → Prop} {G : Hp → Prop} {Y : Hp → List V → Prop} (w : ∀ vs, Walk J vs.length (fun H => Y H vs) (YAt vs)) (hg : ∀ H C, Rl K B H C → ok C → ∃ vs, Y H vs ∧ Reps K H items vs) : WalkD K B J items ok where
  goes := fun i H C hi rl o => by
    obtain ⟨vs, g1, g2⟩ := hg H C rl o
    exact (w vs).goes i H (by rw [← g2.length]; exact hi) g1
  stops := fun H C rl o => by
    obtain ⟨vs, g1, g2⟩ := hg H C rl o
    rw [g2.length]
    exact (w vs).stops H g1
  yields := fun i H C x H' hi rl o y => by
    obtain ⟨vs, g1, g2⟩ := hg H C rl o
    obtain ⟨e, hx⟩ := (w vs).yields i H x H' (by rw [← g2.length]; exact hi) g1 y
    subst e
    obtain ⟨d, e1, e2⟩ := g2.getV hx
    exact ⟨Stp.refl _ _, rl, d, e1, e2⟩
theorem Rl.repsL {H : Hp} {C : Cp} (rl : Rl K B H C) {p : Addr} {ds : List D} (h : isL C p ds) : ∃ vs, Rd H p (.lst vs) ∧ Reps K H ds vs := by
  rcases h with h | h
  · obtain ⟨vs, e, q⟩ := rl.ok _ _ h
    exact ⟨vs, .inl e, q⟩
  · obtain ⟨o, vs, e, q⟩ := rl.ok _ _ h
    exact ⟨vs, .inr ⟨o, e⟩, q⟩
/-- over a list: it must stand as it is -/
def dOver (t : DE) : DI := fun s C R => t s C fun x C1 => match x with
  | .ptr p => ∃ ds, isL C1 p ds ∧ R ds (fun C => isL C p ds) C1
  | _ => False
theorem ji_list (ha : JE X B a ta) : JI X B tg a (dOver ta) := PI.imp (pi_list ha) fun σ H R h => by
  obtain ⟨sl, C, Qd, rs, rl, h, k⟩ := h
  refine ⟨sl, C, _, rs, rl, h, fun v d H1 C1 st1 rl1 r q => ?_⟩
  cases d with
  | ptr p =>
    cases r
    obtain ⟨ds, hl, q⟩ := q
    obtain ⟨vs, hq, hr⟩ := hl.sq rl1
    exact ⟨p, rfl, ⟨vs, hq⟩, k ds _ H1 C1 _ st1 rl1 (walkD_same (G := fun _ => True) (Y := fun H vs => SqL X.K H p vs) (fun vs => walk_list) fun H C rl o => isL.sq rl o) q⟩
  | _ => exact False.elim q
/-- over a tuple -/
def dOverT (t : DE) : DI := fun s C R => t s C fun x C1 => match x with
  | .tup ds => R ds (fun _ => True) C1
  | _ => False
theorem ji_tup (ha : JE X B a ta) : JI X B tg a (dOverT ta) := PI.imp (pi_tup ha) fun σ H R h => by
  obtain ⟨sl, C, Qd, rs, rl, h, k⟩ := h
  refine ⟨sl, C, _, rs, rl, h, fun v d H1 C1 st1 rl1 r q => ?_⟩
  cases d with
  | tup ds =>
    obtain ⟨p, vs, rfl, hq, hr⟩ := r
    exact ⟨p, rfl, ⟨vs, hq⟩, k ds _ H1 C1 _ st1 rl1 (walkD_same (G := fun _ => True) (Y := fun H vs => SqT X.K H p vs) (fun vs => walk_tup) fun H C rl o => ⟨vs, rl.st.tx.sqT hq, hr.mono rl.st.tx⟩) q⟩
  | _ => exact False.elim q
/-- over a text -/
def dOverS (t : DE) : DI := fun s C R => t s C fun x C1 => match x with
  | .str l => R (l.map fun c => .str [c]) (fun _ => True) C1
  | _ => False
theorem ji_str (ha : JE X B a ta) : JI X B tg a (dOverS ta) := PI.imp (pi_str ha) fun σ H R h => by
  obtain ⟨sl, C, Qd, rs, rl, h, k⟩ := h
  refine ⟨sl, C, _, rs, rl, h, fun v d H1 C1 st1 rl1 r q => ?_⟩
  cases d with
  | str l =>
    cases r
    refine ⟨⟨l.toArray⟩, rfl, k _ _ H1 C1 _ st1 rl1 ⟨fun i H C hi rl o => ?_, fun H C rl o => ?_, fun i H C x H' hi rl o y => ?_⟩ q⟩
    · exact walk_str.goes i H (by simpa using hi) trivial
    · have := (walk_str (z := ⟨l.toArray⟩)).stops H trivial
      simpa using this
    · obtain ⟨e, c, hc, hx⟩ := walk_str.yields i H x H' (by simpa using hi) trivial y
      subst e hx
      refine ⟨Stp.refl _ _, rl, .str [c], ?_, rfl⟩
      have hc : l.toArray[i]? = some c := hc
      rw [List.getElem?_map]
      simp at hc
      rw [hc]
      rfl
  | _ => exact False.elim q
/-- over a range -/
def rngD (lo : Int) (n : Nat) : List D := (List.range n).map fun (i : Nat) => D.int (lo + (i : Int))
theorem rngD_len {lo : Int} {n : Nat} : (rngD lo n).length = n := by simp [rngD]
theorem rngD_get {lo : Int} {n i : Nat} (h : i < n) : (rngD lo n)[i]? = some (.int (lo + (i : Int))) := by simp [rngD, h]
theorem walkD_rng {lo : Int} {n : Nat} : WalkD K B (Itr lo n) (rngD lo n) (fun _ => True) where
  goes := fun i H C hi rl o => walk_range.goes i H (by rw [rngD_len] at hi; exact hi) trivial
  stops := fun H C rl o => by rw [rngD_len]; exact walk_range.stops H trivial
  yields := fun i H C x H' hi rl o y => by
    rw [rngD_len] at hi
    obtain ⟨e, hx⟩ := walk_range.yields i H x H' hi trivial y
    subst e hx
    exact ⟨Stp.refl _ _, rl, _, rngD_get hi, rfl⟩
def dRng1 (t : DA) : DI := fun s C R => t s C fun ds C1 => ∃ j : Int, ds = [.int j] ∧ -(2 ^ 62) ≤ j ∧ j < 2 ^ 62 ∧ R (rngD 0 j.toNat) (fun _ => True) C1
def dRng2 (t : DA) : DI := fun s C R => t s C fun ds C1 => ∃ i j : Int, ds = [.int i, .int j] ∧ (-(2 ^ 62) ≤ i ∧ i < 2 ^ 62 ∧ -(2 ^ 62) ≤ j ∧ j < 2 ^ 62) ∧ R (rngD i (j - i).toNat) (fun _ => True) C1
theorem ji_range1 {p : Pos} (hm : X.mg "range" = none) (ha : JA X B [a] tr) (hg : Gl X "range" := by rfl) (hs : starEach [a] X.env = [(false, eval a X.env)] := by rfl) : JI X B tg (.Call (.Name "range" p) [a] [] pos) (dRng1 tr) := PI.imp (pi_range1 hg hm ha hs) fun σ H R h => by
  obtain ⟨sl, C, Qd, rs, rl, h, k⟩ := h
  refine ⟨sl, C, _, rs, rl, h, fun vs ds H1 C1 st1 rl1 r ⟨j, e, h1, h2, q⟩ => ?_⟩
  subst e
  obtain ⟨v, r2, rfl, hv, hn⟩ := r
  cases hv; cases hn
  exact ⟨j, rfl, h1, h2, k _ _ H1 C1 _ st1 rl1 walkD_rng q⟩
theorem ji_range2 {p : Pos} (hm : X.mg "range" = none) (ha : JA X B [a, b] tr) (hg : Gl X "range" := by rfl) (hs : starEach [a, b] X.env = [(false, eval a X.env), (false, eval b X.env)] := by rfl) (hs2 : starEach [b] X.env = [(false, eval b X.env)] := by rfl) :
    JI X B tg (.Call (.Name "range" p) [a, b] [] pos) (dRng2 tr) := PI.imp (pi_range2 hg hm ha hs hs2) fun σ H R h => by
  obtain ⟨sl, C, Qd, rs, rl, h, k⟩ := h
  refine ⟨sl, C, _, rs, rl, h, fun vs ds H1 C1 st1 rl1 r ⟨i, j, e, h1, q⟩ => ?_⟩
  subst e
  obtain ⟨v, r2, rfl, hv, w, r3, rfl, hw, hn⟩ := r
  cases hv; cases hw; cases hn
  exact ⟨i, j, rfl, h1, k _ _ H1 C1 _ st1 rl1 walkD_rng q⟩
/-! pairs -/
def pairD (xs ys : List D) : List D := (xs.zip ys).map fun p => .tup [p.1, p.2]
theorem walkD_pair {J : It} {xs ys : List D} {ok : Cp → Prop} (hw : ∀ H C, Rl K B H C → ok C → ∃ (n : Nat) (G : Hp → Prop) (f g : Nat → Option V), n = min xs.length ys.length ∧ G H ∧ Walk J n G (YPair f g) ∧
    (∀ i v, i < n → f i = some v → ∃ d, xs[i]? = some d ∧ Rep K H d v) ∧ ∀ i v, g i = some v → ∃ d, ys[i]? = some d ∧ Rep K H d v) : WalkD K B J (pairD xs ys) ok where
  goes := fun i H C hi rl o => by
    obtain ⟨n, G, f, g, hn, hG, w, _, _⟩ := hw H C rl o
    exact w.goes i H (by simp [pairD] at hi; omega) hG
  stops := fun H C rl o => by
    obtain ⟨n, G, f, g, hn, hG, w, _, _⟩ := hw H C rl o
    have := w.stops H hG
    rw [hn] at this
    simpa [pairD] using this
  yields := fun i H C x H' hi rl o y => by
    obtain ⟨n, G, f, g, hn, hG, w, hf, hg⟩ := hw H C rl o
    have hi2 : i < n := by simp [pairD] at hi; omega
    obtain ⟨T, x1, x2, rfl, nT, rfl, f1, f2⟩ := w.yields i H x H' hi2 hG y
    obtain ⟨d1, a1, a2⟩ := hf i x1 hi2 f1
    obtain ⟨d2, b1, b2⟩ := hg i x2 f2
    obtain ⟨s1, s2, s3⟩ := rl.newT nT (.cons a2 (.cons b2 .nil))
    refine ⟨s1, s2, _, ?_, s3⟩
    have hz : (xs.zip ys)[i]? = some (d1, d2) := List.getElem?_zip_eq_some.mpr ⟨a1, b1⟩
    simp [pairD, hz]
def dZip (t : DA) : DI := fun s C R => t s C fun ds C1 => ∃ p q xs ys, ds = [.ptr p, .ptr q] ∧ isL C1 p xs ∧ isL C1 q ys ∧ R (pairD xs ys) (fun C => isL C p xs ∧ isL C q ys) C1
theorem ji_zip {e2 : Expr} {p tpos : Pos} {elts : List Expr} {kk : Nat} (hm : X.mg "zip" = none) (ha : JA X B [a, e2] tr) (hg : Gl X "zip" := by rfl) (hs : starEach [a, e2] X.env = (false, eval a X.env) :: starEach [e2] X.env := by rfl) (hpl : (backTo pos (starEach [e2] X.env)).any (·.1) = false := by rfl) :
    JI X B (.Tuple elts kk tpos) (.Call (.Name "zip" p) [a, e2] [] pos) (dZip tr) := PI.imp (pi_zip hg hm ha hs hpl) fun σ H R h => by
  obtain ⟨sl, C, Qd, rs, rl, h, k⟩ := h
  refine ⟨sl, C, _, rs, rl, h, fun vs ds H1 C1 st1 rl1 r ⟨pa, pb, xs, ys, e, h1, h2, q⟩ => ?_⟩
  subst e
  obtain ⟨v, r2, rfl, hv, w, r3, rfl, hw, hn⟩ := r
  cases hv; cases hw; cases hn
  obtain ⟨ws, g1, g2⟩ := isL.sq rl1 h1
  obtain ⟨zs, g3, g4⟩ := isL.sq rl1 h2
  exact ⟨pa, pb, ws, zs, rfl, g1, g3, k _ _ H1 C1 _ st1 rl1 (walkD_pair fun H C rl o => by
    obtain ⟨ws, g1, g2⟩ := isL.sq rl o.1
    obtain ⟨zs, g3, g4⟩ := isL.sq rl o.2
    exact ⟨_, _, _, _, by rw [g2.length, g4.length], ⟨g1, g3⟩, walk_zip rfl, fun i v _ h => g2.getV h, fun i v h => g4.getV h⟩) q⟩
def dEnum (t : DA) : DI := fun s C R => t s C fun ds C1 => ∃ p xs, ds = [.ptr p] ∧ isL C1 p xs ∧ R (pairD (rngD 0 xs.length) xs) (fun C => isL C p xs) C1
theorem ji_enum {p tpos : Pos} {elts : List Expr} {kk : Nat} (hm : X.mg "enumerate" = none) (ha : JA X B [a] tr) (hg : Gl X "enumerate" := by rfl) (hs : starEach [a] X.env = [(false, eval a X.env)] := by rfl) :
    JI X B (.Tuple elts kk tpos) (.Call (.Name "enumerate" p) [a] [] pos) (dEnum tr) := PI.imp (pi_enum hg hm ha hs) fun σ H R h => by
  obtain ⟨sl, C, Qd, rs, rl, h, k⟩ := h
  refine ⟨sl, C, _, rs, rl, h, fun vs ds H1 C1 st1 rl1 r ⟨pa, xs, e, h1, q⟩ => ?_⟩
  subst e
  obtain ⟨v, r2, rfl, hv, hn⟩ := r
  cases hv; cases hn
  obtain ⟨ws, g1, g2⟩ := isL.sq rl1 h1
  exact ⟨pa, ws, rfl, g1, k _ _ H1 C1 _ st1 rl1 (walkD_pair fun H C rl o => by
    obtain ⟨ws, g1, g2⟩ := isL.sq rl o
    refine ⟨ws.length, _, _, _, by rw [rngD_len, g2.length, Nat.min_self], g1, walk_enum, fun i v hi h => ?_, fun i v h => g2.getV h⟩
    have h : V.int (i : Int) = v := Option.some.inj h
    subst h
    refine ⟨.int (0 + (i : Int)), rngD_get (by rw [g2.length]; exact hi), ?_⟩
    rw [Int.zero_add]
    rfl) q⟩

/-! ### for -/
variable {src : DI} {g : DG} {tS uS : DS} {tA : DT}
/-- Pv by the turn; behind a turn what is not wanted may be let go -/
def dFor (src : DI) (g : DG) (tb : DS) : DS := fun D s C => src s C fun items ok C1 => ∃ Pv : Nat → Sl → Cp → Prop, Pv 0 s C1 ∧ (∀ i s C, i ≤ items.length → Pv i s C → ok C) ∧
  (∀ i x s C, items[i]? = some x → Pv i s C → g x s C fun s2 C2 => tb { D with nx := fun s' C' => ∃ C'', Sub C'' C' ∧ Pv (i + 1) s' C'', ct := fun s' C' => ∃ C'', Sub C'' C' ∧ Pv (i + 1) s' C'', bk := D.nx } s2 C2) ∧ ∀ s C, Pv items.length s C → D.nx s C
theorem js_for {body : List Stmt} (hp : PassesOwn (model X.prog X.w) X.A X.env X.xe) (hc : X.calm = true) (hi : JI X B tg a src) (hg : JG X B tg g) (hb : JSs X B body tS) (hs : ∀ x, foldedSetIterable a X.env x = pure x := by intro _; rfl) : JS X B (.For tg a body [] pos) (dFor src g tS) := PS.imp (ps_for hp hc hi hg hb hs) fun D σ H h => by
  obtain ⟨sl, C, Dd, rs, rl, h, k⟩ := h
  refine ⟨sl, C, _, rs, rl, h, fun items ok H1 C1 J st1 rl1 w ⟨Pv, h0, hok, hstep, hd⟩ => ?_⟩
  refine ⟨fun i m σ H => m = items.length - i ∧ i ≤ items.length ∧ ∃ sl C, RepS X.K H sl σ ∧ Rl X.K B H C ∧ Stp H1 C1 H C ∧ Pv i sl C, ⟨_, rfl, Nat.zero_le _, sl, C1, rs.mono st1.tx, rl1, Stp.refl _ _, h0⟩, ?_⟩
  rintro i m σ2 H2 ⟨rfl, hi2, sl2, C2, rs2, rl2, st2, hp2⟩
  have rb : Rl X.K ⟨H1, C1, B.P, B.w⟩ H2 C2 := ⟨st2, rl2.ok⟩
  have o := hok i sl2 C2 hi2 hp2
  by_cases hlt : i < items.length
  · refine .inr ⟨w.goes i H2 C2 hlt rb o, fun σ' H' => ∃ sl C, RepS X.K H' sl σ' ∧ Rl X.K B H' C ∧ Stp H1 C1 H' C ∧ Pv (i + 1) sl C, fun σ' H' q => ⟨items.length - (i + 1), by omega, rfl, hlt, q⟩, fun x H' y => ?_⟩
    obtain ⟨s3, r3, d, e, rd⟩ := w.yields i H2 C2 x H' hlt rb o y
    have rl3 : Rl X.K B H' C2 := ⟨rl2.st.trans s3, r3.ok⟩
    refine ⟨d, sl2, C2, _, rd, rs2.mono s3.tx, rl3, hstep i d sl2 C2 e hp2, fun σ' sl' H3 C3 st3 rl4 rs3 q => ?_⟩
    refine ⟨sl', C3, _, rs3, rl4, q, ⟨fun σ sl H' C' st rl rs q => ?_, fun v d H' C' st => k.rt v d H' C' ((((st1.trans st2).trans s3).trans st3).trans st), fun σ sl H' C' st => k.nx σ sl H' C' ((((st1.trans st2).trans s3).trans st3).trans st), fun σ sl H' C' st rl rs q => ?_⟩⟩
    · obtain ⟨C'', hs, q⟩ := q
      exact ⟨sl, C'', rs, rl.less hs, ((((st2.trans s3).trans st3).trans st).less hs), q⟩
    · obtain ⟨C'', hs, q⟩ := q
      exact ⟨sl, C'', rs, rl.less hs, ((((st2.trans s3).trans st3).trans st).less hs), q⟩
  · have e : i = items.length := by omega
    subst e
    exact .inl ⟨w.stops H2 C2 rb o, k.nx _ _ H2 C2 (st1.trans st2) rl2 rs2 (hd _ _ hp2)⟩
/-- while, by a word and a measure -/
def dWhile (c : DT) (tb : DS) : DS := fun D s C => ∃ W : Nat → Sl → Cp → Prop, (∃ m, W m s C) ∧ ∀ m s C, W m s C → c s C fun b C1 => if b = true then tb { D with nx := fun s' C' => ∃ m', m' < m ∧ ∃ C'', Sub C'' C' ∧ W m' s' C'', ct := fun s' C' => ∃ m', m' < m ∧ ∃ C'', Sub C'' C' ∧ W m' s' C'', bk := D.nx } s C1 else D.nx s C1
theorem js_while {body : List Stmt} (hp : PassesOwn (model X.prog X.w) X.A X.env X.xe) (hc : JT X B c tA) (hb : JSs X B body tS) : JS X B (.While c body [] pos) (dWhile tA tS) := PS.imp (ps_while hp hc hb) fun D σ H h => by
  obtain ⟨sl, C, Dd, rs, rl, ⟨W, ⟨m0, w0⟩, turn⟩, k⟩ := h
  refine ⟨fun m σ' H' => ∃ sl' C', RepS X.K H' sl' σ' ∧ Rl X.K B H' C' ∧ Stp H C H' C' ∧ W m sl' C', ⟨m0, sl, C, rs, rl, Stp.refl _ _, w0⟩, ?_⟩
  rintro m σ1 H1 ⟨sl1, C1, rs1, rl1, st1, w1⟩
  refine ⟨sl1, C1, _, rs1, rl1, turn m sl1 C1 w1, fun b H2 C2 st2 rl2 q => ?_⟩
  cases b with
  | true =>
    refine ⟨fun σ' H' => ∃ m', m' < m ∧ ∃ sl' C', RepS X.K H' sl' σ' ∧ Rl X.K B H' C' ∧ Stp H C H' C' ∧ W m' sl' C', fun σ' H' q => q, ?_⟩
    refine ⟨sl1, C2, _, rs1.mono st2.tx, rl2, q, ⟨fun σ sl H' C' st rl rs q => ?_, fun v d H' C' st => k.rt v d H' C' ((st1.trans st2).trans st), fun σ sl H' C' st => k.nx σ sl H' C' ((st1.trans st2).trans st), fun σ sl H' C' st rl rs q => ?_⟩⟩
    · obtain ⟨m', hm, C'', hs, q⟩ := q
      exact ⟨m', hm, sl, C'', rs, rl.less hs, ((st1.trans st2).trans st).less hs, q⟩
    · obtain ⟨m', hm, C'', hs, q⟩ := q
      exact ⟨m', hm, sl, C'', rs, rl.less hs, ((st1.trans st2).trans st).less hs, q⟩
  | false => exact k.nx _ _ H2 C2 (st1.trans st2) rl2 (rs1.mono st2.tx) q
/-! ### comprehensions -/
theorem wipe_at {σ : L2.St} {i : Nat} {x : Option V} : ∀ {vs : List Nat}, i ∈ vs → wipe (σ.set i x) vs = wipe σ vs
  | v :: vs, h => by
    unfold wipe
    by_cases hm : i ∈ vs
    · rw [wipe_at hm]
    · have e : i = v := by
        rcases List.mem_cons.mp h with e | e
        · exact e
        · exact absurd e hm
      subst e
      have : ∀ ws : List Nat, i ∉ ws → wipe (σ.set i x) ws = (wipe σ ws).set i x := by
        intro ws
        induction ws with
        | nil => intro _; rfl
        | cons w ws ih =>
          intro hn
          have h1 : i ≠ w := fun e => hn (by simp [e])
          have h2 : i ∉ ws := fun e => hn (by simp [e])
          show (wipe (σ.set i x) ws).set w none = ((wipe σ ws).set w none).set i x
          rw [ih h2, List.set_comm _ _ h1]
      rw [this vs hm, List.set_set]
theorem wipe_get {σ : L2.St} : ∀ (vs : List Nat) (i : Nat), (wipe σ vs)[i]? = if i ∈ vs ∧ i < σ.length then some none else σ[i]?
  | [], i => by simp [wipe]
  | v :: vs, i => by
    show ((wipe σ vs).set v none)[i]? = _
    rw [List.getElem?_set, wipe_get vs i, wipe_length]
    by_cases e : v = i
    · subst e
      by_cases hl : v < σ.length
      · simp [hl]
      · simp [hl, List.getElem?_eq_none (Nat.le_of_not_lt hl)]
    · have e2 : ¬ i = v := fun z => e z.symm
      simp [e, e2]
theorem wipe_idem (σ : L2.St) (vs : List Nat) : wipe (wipe σ vs) vs = wipe σ vs := by
  apply List.ext_getElem?
  intro i
  rw [wipe_get, wipe_length, wipe_get]
  by_cases h : i ∈ vs ∧ i < σ.length
  · rw [if_pos h, if_pos h]
  · rw [if_neg h]
def lGv (K : PySem.W.Frag) (B : Bs) (vs : List Nat) (τ : DG) : TG := fun v σ H Q => ∃ d sl C Qd, Rep K H d v ∧ RepS K H sl σ ∧ Rl K B H C ∧ τ d sl C Qd ∧ ∀ σ' sl' H' C', Stp H C H' C' → Rl K B H' C' → RepS K H' sl' σ' → wipe σ' vs = wipe σ vs → Qd sl' C' → Q σ' H'
def lGsv (K : PySem.W.Frag) (B : Bs) (vs : List Nat) (τ : DGs) : TGs := fun v σ H Q => ∃ d sl C Qd, Reps K H d v ∧ RepS K H sl σ ∧ Rl K B H C ∧ τ d sl C Qd ∧ ∀ σ' sl' H' C', Stp H C H' C' → Rl K B H' C' → RepS K H' sl' σ' → wipe σ' vs = wipe σ vs → Qd sl' C' → Q σ' H'
def GL (K : PySem.W.Frag) (B : Bs) (vs : List Nat) (g : TG) (τ : DG) : Prop := ∀ v σ H Q, lGv K B vs τ v σ H Q → g v σ H Q
def GLs (K : PySem.W.Frag) (B : Bs) (vs : List Nat) (g : TGs) (τ : DGs) : Prop := ∀ v σ H Q, lGsv K B vs τ v σ H Q → g v σ H Q
theorem gl_name {vs : List Nat} {i : Nat} (h : i ∈ vs := by decide) : GL K B vs (gName i) (gNm i) := fun v σ H Q ⟨d, sl, C, Qd, r, rs, rl, q, k⟩ => k _ _ H C (Stp.refl _ _) rl (rs.setD r i) (wipe_at h) q
theorem gls_nil {vs : List Nat} : GLs K B vs gNil gNl := fun v σ H Q ⟨d, sl, C, Qd, r, rs, rl, ⟨e, q⟩, k⟩ => by
  subst e
  cases r
  exact ⟨rfl, k _ _ H C (Stp.refl _ _) rl rs rfl q⟩
theorem gls_cons {vs : List Nat} {g : TG} {gs : TGs} {τ : DG} {τs : DGs} (h1 : GL K B vs g τ) (h2 : GLs K B vs gs τs) : GLs K B vs (gCons g gs) (gCn τ τs) := fun v σ H Q ⟨d, sl, C, Qd, r, rs, rl, ⟨x, xr, e, q⟩, k⟩ => by
  subst e
  obtain ⟨w, vr, rfl, r1, r2⟩ := r
  exact ⟨w, vr, rfl, h1 _ _ _ _ ⟨x, sl, C, _, r1, rs, rl, q, fun σ' sl' H' C' st rl' rs' hw q => h2 _ _ _ _ ⟨xr, sl', C', Qd, r2.mono st.tx, rs', rl', q, fun a b c d e f g hw2 => k a b c d (st.trans e) f g (hw2.trans hw)⟩⟩⟩
theorem gl_tup {vs : List Nat} {n : Nat} {gs : TGs} {τs : DGs} (h : GLs K B vs gs τs) : GL K B vs (gTup K n gs) (gTp n τs) := fun v σ H Q ⟨d, sl, C, Qd, r, rs, rl, ⟨ds, e, hl, q⟩, k⟩ => by
  subst e
  obtain ⟨a, ws, rfl, hq, hr⟩ := r
  exact ⟨a, ws, rfl, hq, by rw [← hr.length]; exact hl, h _ _ _ _ ⟨ds, sl, C, Qd, hr, rs, rl, q, k⟩⟩
theorem stp_hid {H0 H1 H : Hp} {C0 C1 C : Cp} {p : Addr} {o : HO} (a : Stp H0 C0 H1 C1) (h1 : H1 p = none) (b : Stp H1 C1 H C) (hp : ¬ Frz (H p)) : Stp H0 C0 (upd H p o) C := by
  refine ⟨(a.tx.trans b.tx).trans (tx_upd hp), fun q u e n => ?_⟩
  obtain ⟨e1, n1⟩ := a.hid q u e n
  obtain ⟨e2, n2⟩ := b.hid q u e1 n1
  exact ⟨by rw [upd_ne (ne_of_none e1 h1)]; exact e2, n2⟩
/-- the list so far is hidden; Pv by the turn and it; behind a turn what is not wanted may be let go -/
def dLc (src : DI) (g : DG) (tt : DT) (te : DE) (vs : List Nat) : DE := fun s C Q => src s C fun items ok C1 => ∃ Pv : Nat → List D → Cp → Prop, Pv 0 [] C1 ∧ (∀ i acc C, i ≤ items.length → Pv i acc C → ok C) ∧
  (∀ i x acc C, items[i]? = some x → Pv i acc C → acc.length ≤ i → g x (wipeD s vs) C fun s2 C2 => tt s2 C2 fun b C3 => if b = true then te s2 C3 fun y C4 => ∃ C'', Sub C'' C4 ∧ Pv (i + 1) (acc ++ [y]) C'' else ∃ C'', Sub C'' C3 ∧ Pv (i + 1) acc C'') ∧
  items.length < sizeLine ∧ ∀ acc C p, Pv items.length acc C → C p = none → Q (.ptr p) (up C p (.lst acc))
abbrev JTs (X : Cx) (B : Bs) (ifs : List Expr) (τ : DT) : Prop := PTs X ifs (lT X.K B τ)
def dYes : DT := fun _ C Q => Q true C
theorem jts_nil : JTs X B [] dYes := by
  refine ⟨fun pins s σ H Q I h => pts_nil.run pins s σ H Q I ?_⟩
  obtain ⟨sl, C, Qd, rs, rl, h, k⟩ := h
  exact k _ H C (Stp.refl _ _) rl h
theorem jts_one (h : JT X B c tA) : JTs X B [c] tA := pts_one h
theorem lc_lift {vs : List Nat} {g : TG} {τg : DG} {tt : DT} {te : DE} {σ : L2.St} {H : Hp} {Q : VK} (hg : GL K B vs g τg) (h : lE K B (dLc src τg tt te vs) σ H Q) : tLc (lI K B src) g (lT K B tt) (lE K B te) vs σ H Q := by
  obtain ⟨sl, C, Qd, rs, rl, h, k⟩ := h
  refine ⟨sl, C, _, rs, rl, h, fun items ok H1 C1 J st1 rl1 w ⟨Pv, h0, hok, hstep, hz, hd⟩ D hD => ?_⟩
  have c1 : C1 D = none := rl1.fresh hD
  refine ⟨fun i m H => m = items.length - i ∧ i ≤ items.length ∧ ∃ acc vacc C, H D = some (.lst vacc) ∧ Reps K H acc vacc ∧ Rl K B H C ∧ Stp H1 C1 H C ∧ C D = none ∧ acc.length ≤ i ∧ Pv i acc C,
    ⟨_, rfl, Nat.zero_le _, [], [], C1, upd_same, .nil, rl1.more hD, stp_more hD, c1, Nat.le_refl _, h0⟩, ?_⟩
  rintro i m H2 ⟨rfl, hi2, acc, vacc, C2, eD, ra, rl2, st2, cD, hl, hp2⟩
  have rb : Rl K ⟨H1, C1, B.P, B.w⟩ H2 C2 := ⟨st2, rl2.ok⟩
  have o := hok i acc C2 hi2 hp2
  by_cases hlt : i < items.length
  · refine .inr ⟨w.goes i H2 C2 hlt rb o, fun H' => ∃ acc vacc C, H' D = some (.lst vacc) ∧ Reps K H' acc vacc ∧ Rl K B H' C ∧ Stp H1 C1 H' C ∧ C D = none ∧ acc.length ≤ i + 1 ∧ Pv (i + 1) acc C, fun H' q => ⟨items.length - (i + 1), by omega, rfl, hlt, q⟩, fun x H' y => ?_⟩
    obtain ⟨s3, r3, d, e, rd⟩ := w.yields i H2 C2 x H' hlt rb o y
    have rl3 : Rl K B H' C2 := ⟨rl2.st.trans s3, r3.ok⟩
    refine hg _ _ _ _ ⟨d, wipeD sl vs, C2, _, rd, (rs.wipe vs).mono ((st1.trans st2).trans s3).tx, rl3, hstep i d acc C2 e hp2 hl, fun σ' sl' H3 C3 st3 rl4 rs3 hw q => ⟨by rw [hw, wipe_idem], ?_⟩⟩
    refine ⟨sl', C3, _, rs3, rl4, q, fun b H4 C4 st4 rl5 q => ?_⟩
    have s24 : Stp H2 C2 H4 C4 := (s3.trans st3).trans st4
    cases b with
    | true =>
      refine ⟨sl', C4, _, rs3.mono st4.tx, rl5, q, fun v dv H5 C5 st5 rl6 rv ⟨C6, hs, q⟩ => ?_⟩
      have s25 : Stp H2 C2 H5 C5 := s24.trans st5
      obtain ⟨e5, n5⟩ := s25.hid D _ eD cD
      have nf : ¬ Frz (H5 D) := by rw [e5]; exact id
      refine ⟨vacc, e5, ?_, acc ++ [dv], vacc ++ [v], C6, upd_same, (Reps.append (ra.mono s25.tx) (.cons rv .nil)).mono (tx_upd nf), ?_, ?_, hs.none n5, by rw [List.length_append]; show acc.length + 1 ≤ i + 1; omega, q⟩
      · rw [← ra.length]
        omega
      · have st' : Stp B.H B.C (upd H5 D (.lst (vacc ++ [v]))) C6 := (stp_hid rl1.st hD (st2.trans s25) nf).less hs
        refine ⟨st', fun p c e => ?_⟩
        have hp : p ≠ D := by
          intro z
          subst z
          rw [hs.none n5] at e
          cases e
        exact (rl6.ok p c (hs p c e)).keep (tx_upd nf) (upd_ne hp)
      · exact (stp_hid (Stp.refl H1 C1) hD (st2.trans s25) nf).less hs
    | false =>
      obtain ⟨C6, hs, q⟩ := q
      obtain ⟨e5, n5⟩ := s24.hid D _ eD cD
      exact ⟨acc, vacc, C6, e5, ra.mono s24.tx, rl5.less hs, (st2.trans s24).less hs, hs.none n5, by omega, q⟩
  · have e : i = items.length := by omega
    subst e
    refine .inl ⟨w.stops H2 C2 rb o, k _ _ H2 (up C2 D (.lst acc)) ?_ ⟨?_, fun p c e => ?_⟩ (repP D) (hd acc C2 D hp2 cD)⟩
    · refine st1.trans ⟨st2.tx, fun p u e n => ?_⟩
      obtain ⟨a1, a2⟩ := st2.hid p u e n
      exact ⟨a1, by rw [up_ne (ne_of_none e hD)]; exact a2⟩
    · refine rl1.st.trans ⟨st2.tx, fun p u e n => ?_⟩
      obtain ⟨a1, a2⟩ := st2.hid p u e n
      exact ⟨a1, by rw [up_ne (ne_of_none e hD)]; exact a2⟩
    · by_cases hp : p = D
      · subst hp
        rw [up_same] at e
        cases e
        exact ⟨vacc, eD, ra⟩
      · rw [up_ne hp] at e
        exact rl2.ok p c e
theorem j_lc {elt : Expr} {ifs : List Expr} {scope : Scope} (own : List (Str × Nat)) {g : TG} {τg : DG} {tt : DT} {te : DE} (hc : X.calm = true) (hN : X.N.Nodup) (hi : JI X B tg a src) (hgl : GL X.K B (own.map (·.2)) g τg)
    (hg : ∀ (s : Shared) (H : Hp) (C : Addr) (cl : List (Str × Addr)) (fp : List Addr), PG (X.blk s H scope (compEnvC scope cl C X.env) fp) tg g)
    (ht : ∀ (s : Shared) (H : Hp) (C : Addr) (cl : List (Str × Addr)) (fp : List Addr), JTs (X.blk s H scope (compEnvC scope cl C X.env) fp) B ifs tt)
    (he : ∀ (s : Shared) (H : Hp) (C : Addr) (cl : List (Str × Addr)) (fp : List Addr), JE (X.blk s H scope (compEnvC scope cl C X.env) fp) B elt te) (ok : blkC X.N X.env.scope scope own = true := by decide +kernel) (hs : ∀ x, foldedSetIterable a X.env x = pure x := by intro _; rfl) :
    JE X B (.ListComp elt [⟨tg, a, ifs, 0⟩] scope pos) (dLc src τg tt te (own.map (·.2))) := PE.imp (pe_lc hc hN hi (blkOk_by ok) hg ht he hs) fun _ _ _ h => lc_lift hgl h
theorem js_setLc {i : Nat} {y : Str} {py spos : Pos} {elt : Expr} {ifs : List Expr} {scope : Scope} (own : List (Str × Nat)) {g : TG} {τg : DG} {tt : DT} {te : DE} (hc : X.calm = true) (hN : X.N.Nodup) (hi : JI X B tg a src) (hgl : GL X.K B (own.map (·.2)) g τg)
    (hg : ∀ (s : Shared) (H : Hp) (C : Addr) (cl : List (Str × Addr)) (fp : List Addr), PG (X.blk s H scope (compEnvC scope cl C X.env) fp) tg g)
    (ht : ∀ (s : Shared) (H : Hp) (C : Addr) (cl : List (Str × Addr)) (fp : List Addr), JTs (X.blk s H scope (compEnvC scope cl C X.env) fp) B ifs tt)
    (he : ∀ (s : Shared) (H : Hp) (C : Addr) (cl : List (Str × Addr)) (fp : List Addr), JE (X.blk s H scope (compEnvC scope cl C X.env) fp) B elt te)
    (hsw : swapsWith (.ListComp elt [⟨tg, a, ifs, 0⟩] scope pos) (some (.Name y py)) spos.line X.env = pure true)
    (hy : X.N[i]? = some y := by rfl) (hyl : X.env.scope.names.lookup y = some .local := by rfl) (ok : blkC X.N X.env.scope scope own = true := by decide +kernel) (hs : ∀ x, foldedSetIterable a X.env x = pure x := by intro _; rfl) :
    JS X B (.Assign [.Name y py] (.ListComp elt [⟨tg, a, ifs, 0⟩] scope pos) spos) (dAsg (dLc src τg tt te (own.map (·.2))) (gNm i)) := PS.imp (ps_setLc hc hN hy hyl hsw hi (blkOk_by ok) hg ht he hs) fun D σ H h => by
  obtain ⟨sl, C, Dd, rs, rl, h, k⟩ := h
  exact lc_lift (Q := fun x H1 => gName i x σ H1 D.nx) hgl ⟨sl, C, _, rs, rl, h, fun v d H1 C1 st1 rl1 r q => k.nx _ _ H1 C1 st1 rl1 ((rs.mono st1.tx).setD r i) q⟩
end
end KB

/-! KB6: defs, calls, built-ins, methods over data. -/
namespace KB
open PySem PySem.Spec PyProof.Rows SeqAt
open L2 hiding op_eqD op_neD
/-! ### defs -/
/-- a def that raises nothing: its promise by data -/
def lSp (P : Program) (w : World) (K : PySem.W.Frag) (n : Nat) (F : DSp) : Sp := fun vs H Q _ => vs.length = n ∧ ∃ ds C Qd, Reps K H ds vs ∧ (∀ p c, C p = some c → CellOk P w K H p c) ∧ F ds C Qd (fun _ _ => False) ∧ ∀ v d H' C', Stp H C H' C' → (∀ p c, C' p = some c → CellOk P w K H' p c) → Rep K H' d v → Qd d C' → Q v H'
/-- a body as a def: n names, the parameters first; what is not wanted at its end is let go -/
def runD (np n : Nat) (rd : DS) : DSp := fun ds C Q _ => ds.length = np ∧ rd { nx := fun _ C' => ∃ C'', Sub C'' C' ∧ Q .non C'', rt := fun d C' => ∃ C'', Sub C'' C' ∧ Q d C'' } (ds.map some ++ List.replicate (n - ds.length) none) C
theorem reps_start {K : PySem.W.Frag} {H : Hp} : ∀ {ds : List D} {vs : List V}, Reps K H ds vs → RepS K H (ds.map some) (vs.map some)
  | [], _, h => by cases h; exact .nil
  | d :: ds, _, h => by
    obtain ⟨v, r, rfl, a, t⟩ := h
    exact .cons (fun e q => by cases q; exact ⟨v, rfl, a⟩) (reps_start t)
theorem paired_append {α β : Type} {F : α → β → Prop} : ∀ {a c : List α} {b d : List β}, Paired F a b → Paired F c d → Paired F (a ++ c) (b ++ d)
  | _, _, _, _, .nil, h => h
  | _, _, _, _, .cons r t, h => .cons r (paired_append t h)
theorem reps_none {K : PySem.W.Frag} {H : Hp} : ∀ n : Nat, RepS K H (List.replicate n none) (List.replicate n none)
  | 0 => .nil
  | n + 1 => .cons (fun e q => nomatch q) (reps_none n)
section
variable {P : Program} {w : World} {K : PySem.W.Frag} {mg : Str → Option Value} {base : Heap}
/-- the context of a def's body, as the rules want it -/
structure CtxOk (X : Cx) (P : Program) (w : World) (K : PySem.W.Frag) (mg : Str → Option Value) (base : Heap) (k : Nat) : Prop where
  hP : X.prog = P
  hw : X.w = w
  hK : X.K = K
  hm : X.mg = mg
  hb : X.base = base
  hr : Room k X.A
  hc : X.calm = true
theorem fnok_of {x qual : Str} {st : Stmt} {f : Addr} {fd : FuncData} {N ps : List Str} {k n : Nat} {rd : DS} (F : Fun K x qual st f fd) (S : FnScope N ps (defScope st)) (hn : ps.length = n)
    (hbody : ∀ (cdv : Value) (A : Around) (outer : List Env) (s : Shared) (H : Hp) (E : XK) (B : Bs), B.P = P → B.w = w → Room k (A.deeper (envOfC qual (defScope st) s.heap.objs.size f cdv)) →
      JSs (cxOf CX0 P w K mg base N qual (defScope st) f cdv A outer s H E).nox B (defBody st) rd) : FnOk P w K mg base CX0 (k + 1) f fd ps (lSp P w K n (runD n N.length rd)) := by
  refine F.ok S (fun vs H Q E h => h.1.trans hn.symm) (fun cdv A outer s H vs Q E hr h => ?_)
  obtain ⟨hl, ds, C, Qd, r, ok, ⟨hl2, h⟩, k⟩ := h
  refine ⟨_, hbody cdv A outer s H E ⟨H, C, P, w⟩ rfl rfl hr, ds.map some ++ List.replicate (N.length - ds.length) none, C, _, ?_, ⟨Stp.refl _ _, ok⟩, h, ⟨fun σ sl H' C' st rl rs q => ?_, fun v d H' C' st rl r q => ?_, fun _ _ _ _ _ _ _ q => q.elim, fun _ _ _ _ _ _ _ q => q.elim⟩⟩
  · unfold L2.start
    rw [r.length]
    exact paired_append (reps_start r) (reps_none _)
  · obtain ⟨C'', hs, q⟩ := q
    exact k _ _ H' C'' (st.less hs) (fun p c e => rl.ok p c (hs p c e)) repN q
  · obtain ⟨C'', hs, q⟩ := q
    exact k _ _ H' C'' (st.less hs) (fun p c e => rl.ok p c (hs p c e)) r q
end
section
variable {X : Cx} {B : Bs} {pos : Pos} {a b c tg e o : Expr} {ta tb tc to ty tv : DE} {rest es : List Expr} {tr : DA} {K : PySem.W.Frag}
/-- f(..), dd the defaults -/
def dCall (F : DSp) (dd : List D) (t : DA) : DE := fun s C Q => t s C fun ds C1 => F (ds ++ dd) C1 Q fun _ _ => False
theorem call_lift {n : Nat} {F : DSp} {dd : List D} {dvs : List V} {σ : L2.St} {H : Hp} {Q : VK} (hd : ∀ H, Reps K H dd dvs) (hl : ∀ ds C Q E, F ds C Q E → ds.length = n) (h : lE K B (dCall F dd tr) σ H Q) : tCall (lSp B.P B.w K n F) dvs E0 (lA K B tr) σ H Q := by
  obtain ⟨sl, C, Qd, rs, rl, h, k⟩ := h
  refine ⟨sl, C, _, rs, rl, h, fun vs ds H1 C1 st1 rl1 r q => ?_⟩
  have r2 := r.append (hd H1)
  exact ⟨by rw [← r2.length]; exact hl _ _ _ _ q, ds ++ dd, C1, Qd, r2, rl1.ok, q, fun v d H' C' st ok r q => k v d H' C' (st1.trans st) ⟨rl1.st.trans st, ok⟩ r q⟩
theorem j_call {k n : Nat} {f : Addr} {fd : FuncData} {ps : List Str} {F : DSp} {ds : List Value} {x : Str} {p : Pos} (dd : List D) {dvs : List V} (G : FnOk X.prog X.w X.K X.mg X.base CX0 k f fd ps (lSp B.P B.w X.K n F)) (hr : Room k X.A) (hm : X.mg x = some (.ref f)) (hk : PySem.W.keepIn X.K (.ref f) = true) (hb : Binds X.K fd ps ds)
    (hl : ∀ ds C Q E, F ds C Q E → ds.length = n) (hd : Vals dvs ds) (hdd : ∀ H, Reps X.K H dd dvs) (ha : JA X B (e :: es) tr) (hg : Gl X x := by rfl) (hdb : (x == ("__debug__" : Str)) = false := by decide)
    (he : starEach (e :: es) X.env = (false, eval e X.env) :: starEach es X.env := by rfl) (hpl : (backTo pos (starEach es X.env)).any (·.1) = false := by rfl) : JE X B (.Call (.Name x p) (e :: es) [] pos) (dCall F dd tr) :=
  PE.imp (pe_call G hr hg hm hk hb hd pass0 ha hdb he hpl) fun _ _ _ h => call_lift hdd hl h
/-! ### built-ins by name -/
def dCB (r : List D → Cp → DQ → Prop) (t : DA) : DE := fun s C Q => t s C fun ds C1 => r ds C1 Q
theorem cb_lift {r : List D → Cp → DQ → Prop} {σ : L2.St} {H : Hp} {Q : VK} (h : lE K B (dCB r tr) σ H Q) : tCB (lC K B r) (lA K B tr) σ H Q := by
  obtain ⟨sl, C, Qd, rs, rl, h, k⟩ := h
  exact ⟨sl, C, _, rs, rl, h, fun vs ds H1 C1 st1 rl1 r q => ⟨ds, C1, Qd, r, rl1, q, fun v d H' C' st => k v d H' C' (st1.trans st)⟩⟩
theorem j_callB {x : Str} {p : Pos} {id : String} {r : List D → Cp → DQ → Prop} (hc : CallD X B (.builtin id) r) (hm : X.mg x = none) (hv : bootBuiltins x = some (.builtin id)) (ha : JA X B (e :: es) tr) (hg : Gl X x := by rfl) (hn : x ≠ "__name__" := by decide) (hdb : (x == ("__debug__" : Str)) = false := by decide)
    (he : starEach (e :: es) X.env = (false, eval e X.env) :: starEach es X.env := by rfl) (hpl : (backTo pos (starEach es X.env)).any (·.1) = false := by rfl) : JE X B (.Call (.Name x p) (e :: es) [] pos) (dCB r tr) := PE.imp (pe_callB hc hg hm hv ha hn hdb he hpl) fun _ _ _ h => cb_lift h
theorem j_callTy {x : Str} {p : Pos} {T : String} {r : List D → Cp → DQ → Prop} (hc : CallD X B (.type T) r) (hm : X.mg x = none) (hv : bootBuiltins x = some (.type T)) (ha : JA X B (e :: es) tr) (hg : Gl X x := by rfl) (hn : x ≠ "__name__" := by decide) (hdb : (x == ("__debug__" : Str)) = false := by decide)
    (he : starEach (e :: es) X.env = (false, eval e X.env) :: starEach es X.env := by rfl) (hpl : (backTo pos (starEach es X.env)).any (·.1) = false := by rfl) : JE X B (.Call (.Name x p) (e :: es) [] pos) (dCB r tr) := PE.imp (pe_callTy hc hg hm hv ha hn hdb he hpl) fun _ _ _ h => cb_lift h
def lenD (C : Cp) : D → Nat → Prop
  | .tup ds, n => n = ds.length
  | .str l, n => l.length ≤ sizeLine ∧ n = l.length
  | .ptr p, n => ∃ ds, isL C p ds ∧ n = ds.length
  | _, _ => False
def lenR : List D → Cp → DQ → Prop := fun ds C Q => ∃ d n, ds = [d] ∧ lenD C d n ∧ Q (.int (n : Int)) C
theorem call_lenD0 : CallD X B (.builtin "len") lenR := by
  intro pins s σ H xs us Q I rx h
  obtain ⟨ds, C, Qd, r, rl, ⟨d, n, e, hl, h⟩, k⟩ := h
  subst e
  obtain ⟨v, r2, rfl, hv, hn⟩ := r
  cases hn
  cases d with
  | tup ds =>
    obtain ⟨p, vs, rfl, hq, hr⟩ := hv
    have hl : n = ds.length := hl
    subst hl
    exact call_len_seq pins s σ H _ us Q I rx ⟨p, vs, rfl, .inr hq, k _ (.int _) H C (Stp.refl _ _) rl (by rw [hr.length]; exact repI _) h⟩
  | str l =>
    cases hv
    obtain ⟨hz, hl⟩ := hl
    subst hl
    exact call_len_str pins s σ H _ us Q I rx ⟨_, rfl, by simpa [Str.length] using hz, k _ (.int _) H C (Stp.refl _ _) rl (by show V.int _ = V.int _; simp [Str.length]) h⟩
  | ptr p =>
    cases hv
    obtain ⟨ds, hl, e⟩ := hl
    subst e
    obtain ⟨vs, hq, hr⟩ := hl.sq rl
    exact call_len_seq pins s σ H _ us Q I rx ⟨p, vs, rfl, .inl hq, k _ (.int _) H C (Stp.refl _ _) rl (by rw [hr.length]; exact repI _) h⟩
  | _ => exact False.elim hl
def lenKR : List D → Cp → DQ → Prop := fun ds C Q => ∃ p kvs, ds = [.ptr p] ∧ C p = some (.dk kvs) ∧ Q (.int (kvs.length : Int)) C
def absR : List D → Cp → DQ → Prop := fun ds C Q => ∃ i, ds = [.int i] ∧ Q (.int (if i < 0 then -i else i)) C
theorem call_absD : CallD X B (.builtin "abs") absR := by
  intro pins s σ H xs us Q I rx h
  obtain ⟨ds, C, Qd, r, rl, ⟨i, e, h⟩, k⟩ := h
  subst e
  obtain ⟨v, r2, rfl, hv, hn⟩ := r
  cases hn; cases hv
  exact call_abs pins s σ H _ us Q I rx ⟨i, rfl, k _ (.int _) H C (Stp.refl _ _) rl rfl h⟩
def max2R : List D → Cp → DQ → Prop := fun ds C Q => ∃ i j, ds = [.int i, .int j] ∧ Q (.int (if j > i then j else i)) C
def min2R : List D → Cp → DQ → Prop := fun ds C Q => ∃ i j, ds = [.int i, .int j] ∧ Q (.int (if j < i then j else i)) C
theorem call_max2D (hc : X.calm = true) : CallD X B (.builtin "max") max2R := by
  intro pins s σ H xs us Q I rx h
  obtain ⟨ds, C, Qd, r, rl, ⟨i, j, e, h⟩, k⟩ := h
  subst e
  obtain ⟨v, r2, rfl, hv, w, r3, rfl, hw, hn⟩ := r
  cases hn; cases hv; cases hw
  exact call_max2 hc pins s σ H _ us Q I rx ⟨i, j, rfl, k _ (.int _) H C (Stp.refl _ _) rl rfl h⟩
theorem call_min2D (hc : X.calm = true) : CallD X B (.builtin "min") min2R := by
  intro pins s σ H xs us Q I rx h
  obtain ⟨ds, C, Qd, r, rl, ⟨i, j, e, h⟩, k⟩ := h
  subst e
  obtain ⟨v, r2, rfl, hv, w, r3, rfl, hw, hn⟩ := r
  cases hn; cases hv; cases hw
  exact call_min2 hc pins s σ H _ us Q I rx ⟨i, j, rfl, k _ (.int _) H C (Stp.refl _ _) rl rfl h⟩
def intR : List D → Cp → DQ → Prop := fun ds C Q => (∃ i, ds = [.int i] ∧ Q (.int i) C) ∨ ∃ b, ds = [.bl b] ∧ Q (.int (if b = true then 1 else 0)) C
theorem call_intD : CallD X B (.type "int") intR := by
  intro pins s σ H xs us Q I rx h
  obtain ⟨ds, C, Qd, r, rl, h, k⟩ := h
  rcases h with ⟨i, e, h⟩ | ⟨i, e, h⟩
  · subst e
    obtain ⟨v, r2, rfl, hv, hn⟩ := r
    cases hn; cases hv
    exact call_int1 pins s σ H _ us Q I rx (.inl ⟨i, rfl, k _ (.int _) H C (Stp.refl _ _) rl rfl h⟩)
  · subst e
    obtain ⟨v, r2, rfl, hv, hn⟩ := r
    cases hn; cases hv
    exact call_int1 pins s σ H _ us Q I rx (.inr ⟨i, rfl, k _ (.int _) H C (Stp.refl _ _) rl rfl h⟩)
/-- any, all of a list of truths -/
def anyR : List D → Cp → DQ → Prop := fun ds C Q => ∃ (p : Addr) (bs : List Bool), ds = [.ptr p] ∧ isL C p (bs.map D.bl) ∧ Q (.bl (bs.any id)) C
def allR : List D → Cp → DQ → Prop := fun ds C Q => ∃ (p : Addr) (bs : List Bool), ds = [.ptr p] ∧ isL C p (bs.map D.bl) ∧ Q (.bl (bs.all id)) C
theorem call_anyD (hc : X.calm = true) : CallD X B (.builtin "any") anyR := by
  intro pins s σ H xs us Q I rx h
  obtain ⟨ds, C, Qd, r, rl, ⟨p, bs, e, hl, h⟩, k⟩ := h
  subst e
  obtain ⟨v, r2, rfl, hv, hn⟩ := r
  cases hn; cases hv
  obtain ⟨vs, hq, hr⟩ := hl.sq rl
  rw [hr.bools] at hq
  exact cr_any hc pins s σ H _ us Q I rx ⟨p, bs, rfl, hq, k _ (.bl _) H C (Stp.refl _ _) rl rfl h⟩
theorem call_allD (hc : X.calm = true) : CallD X B (.builtin "all") allR := by
  intro pins s σ H xs us Q I rx h
  obtain ⟨ds, C, Qd, r, rl, ⟨p, bs, e, hl, h⟩, k⟩ := h
  subst e
  obtain ⟨v, r2, rfl, hv, hn⟩ := r
  cases hn; cases hv
  obtain ⟨vs, hq, hr⟩ := hl.sq rl
  rw [hr.bools] at hq
  exact cr_all hc pins s σ H _ us Q I rx ⟨p, bs, rfl, hq, k _ (.bl _) H C (Stp.refl _ _) rl rfl h⟩
/-- list(..), tuple(..) of a list or a tuple -/
def itemsD (C : Cp) : D → List D → Prop
  | .tup ds, xs => xs = ds
  | .ptr p, xs => isL C p xs
  | _, _ => False
def listR : List D → Cp → DQ → Prop := fun ds C Q => ∃ d xs, ds = [d] ∧ itemsD C d xs ∧ ∀ p, C p = none → Q (.ptr p) (up C p (.lst xs))
def tupleR : List D → Cp → DQ → Prop := fun ds C Q => ∃ d xs, ds = [d] ∧ itemsD C d xs ∧ Q (.tup xs) C
theorem call_listD : CallD X B (.type "list") listR := by
  intro pins s σ H xs us Q I rx h
  obtain ⟨ds, C, Qd, r, rl, ⟨d, ys, e, hl, h⟩, k⟩ := h
  subst e
  obtain ⟨v, r2, rfl, hv, hn⟩ := r
  cases hn
  cases d with
  | tup ds =>
    obtain ⟨p, vs, rfl, hq, hr⟩ := hv
    have hl : ys = ds := hl
    subst hl
    refine call_list_of pins s σ H _ us Q I rx ⟨p, vs, rfl, .inr hq, fun l hn => ?_⟩
    obtain ⟨a1, a2⟩ := rl.newL hn hr
    exact k _ _ _ _ a1 a2 (repP l) (h l (rl.fresh hn))
  | ptr p =>
    cases hv
    obtain ⟨vs, hq, hr⟩ := isL.sq rl hl
    refine call_list_of pins s σ H _ us Q I rx ⟨p, vs, rfl, .inl hq, fun l hn => ?_⟩
    obtain ⟨a1, a2⟩ := rl.newL hn hr
    exact k _ _ _ _ a1 a2 (repP l) (h l (rl.fresh hn))
  | _ => exact False.elim hl
theorem call_tupleD : CallD X B (.type "tuple") tupleR := by
  intro pins s σ H xs us Q I rx h
  obtain ⟨ds, C, Qd, r, rl, ⟨d, ys, e, hl, h⟩, k⟩ := h
  subst e
  obtain ⟨v, r2, rfl, hv, hn⟩ := r
  cases hn
  cases d with
  | tup ds =>
    obtain ⟨p, vs, rfl, hq, hr⟩ := hv
    have hl : ys = ds := hl
    subst hl
    exact call_tuple_of pins s σ H _ us Q I rx ⟨p, vs, rfl, .inr ⟨hq, k _ (.tup ys) H C (Stp.refl _ _) rl ⟨p, vs, rfl, hq, hr⟩ h⟩⟩
  | ptr p =>
    cases hv
    obtain ⟨vs, hq, hr⟩ := isL.sq rl hl
    refine call_tuple_of pins s σ H _ us Q I rx ⟨p, vs, rfl, .inl ⟨hq, fun l hn => ?_⟩⟩
    obtain ⟨a1, a2, a3⟩ := rl.newT hn hr
    exact k _ _ _ _ a1 a2 a3 h
  | _ => exact False.elim hl
/-! ### methods of built-in types -/
def tyD (C : Cp) (T : String) : D → Prop
  | .str _ => T = "str"
  | .ptr p => (T = "list" ∧ ∃ ds, isL C p ds) ∨ (T = "dict" ∧ ((∃ kvs, C p = some (.dk kvs)) ∨ ∃ kvs, C p = some (.dt kvs)))
  | _ => False
theorem tyD_ok {H : Hp} {C : Cp} {T : String} {d : D} {x : V} (rl : Rl K B H C) (r : Rep K H d x) (h : tyD C T d) : tyV K T x H := by
  cases d with
  | str l => cases r; exact h
  | ptr p =>
    cases r
    rcases h with ⟨e, ds, hl⟩ | ⟨e, ⟨kvs, hl⟩ | ⟨kvs, hl⟩⟩
    · obtain ⟨vs, hq, _⟩ := hl.sq rl
      exact .inl ⟨e, vs, hq⟩
    · obtain ⟨ws, e1, _⟩ := rl.ok _ _ hl
      exact .inr (.inr (.inl ⟨e, .inl ⟨ws, e1⟩⟩))
    · obtain ⟨ws, e1, _⟩ := rl.ok _ _ hl
      exact .inr (.inr (.inl ⟨e, .inr ⟨ws, e1⟩⟩))
  | _ => exact False.elim h
def dBM (T : String) (r : D → List D → Cp → DQ → Prop) (to : DE) (t : DA) : DE := fun s C Q => to s C fun d C1 => tyD C1 T d ∧ t s C1 fun ds C2 => r d ds C2 Q
def dBM0 (T : String) (r : D → List D → Cp → DQ → Prop) (to : DE) : DE := fun s C Q => to s C fun d C1 => tyD C1 T d ∧ r d [] C1 Q
theorem j_bm {T : String} {name : Str} {id : String} {apos : Pos} {r : D → List D → Cp → DQ → Prop} (pa : PlainAttrs T) (slot : Slot T name id) (hty : typeOf (.builtin id) = pure (.type "method_descriptor")) (hm : MtD X B id r) (ho : JE X B o to) (ha : JA X B (e :: es) tr)
    (hbase : attributeBase o name X.env (eval o X.env) = eval o X.env := by rfl)
    (hfew : ((backTo pos (starEach (e :: es) X.env)).all (fun x => !x.1) && (backToKw pos (keywordEach [] X.env)).all (fun x => x.1.isSome)
      && decide ((e :: es).length + ([] : List Keyword).length + (if ([] : List Keyword).isEmpty then 0 else 1) < 30)) = true := by rfl)
    (hline : (apos.endLine == pos.line) = true := by rfl) (hs : starEach (e :: es) X.env = (false, eval e X.env) :: starEach es X.env := by rfl) (hplain : (backTo pos (starEach es X.env)).any (·.1) = false := by rfl) :
    JE X B (.Call (.Attribute o name apos) (e :: es) [] pos) (dBM T r to tr) := PE.imp (pe_bm pa slot hty hm ho ha hbase hfew hline hs hplain) fun σ H Q h => by
  obtain ⟨sl, C, Qd, rs, rl, h, k⟩ := h
  exact ⟨sl, C, _, rs, rl, h, fun v d H1 C1 st1 rl1 r1 ⟨ty, q⟩ => ⟨tyD_ok rl1 r1 ty, sl, C1, _, rs.mono st1.tx, rl1, q, fun vs ds H2 C2 st2 rl2 r2 q => ⟨d, ds, C2, Qd, r1.mono st2.tx, r2, rl2, q, fun v e H' C' st => k v e H' C' ((st1.trans st2).trans st)⟩⟩⟩
theorem j_bm0 {T : String} {name : Str} {id : String} {apos : Pos} {r : D → List D → Cp → DQ → Prop} (pa : PlainAttrs T) (slot : Slot T name id) (hty : typeOf (.builtin id) = pure (.type "method_descriptor")) (hm : MtD X B id r) (ho : JE X B o to)
    (hbase : attributeBase o name X.env (eval o X.env) = eval o X.env := by rfl) (hline : (apos.endLine == pos.line) = true := by rfl) : JE X B (.Call (.Attribute o name apos) [] [] pos) (dBM0 T r to) := PE.imp (pe_bm0 pa slot hty hm ho hbase hline) fun σ H Q h => by
  obtain ⟨sl, C, Qd, rs, rl, h, k⟩ := h
  exact ⟨sl, C, _, rs, rl, h, fun v d H1 C1 st1 rl1 r1 ⟨ty, q⟩ => ⟨tyD_ok rl1 r1 ty, d, [], C1, Qd, r1, .nil, rl1, q, fun v e H' C' st => k v e H' C' (st1.trans st)⟩⟩
theorem Rl.setL {H : Hp} {C : Cp} (rl : Rl K B H C) {p : Addr} {ds es : List D} {vs ws : List V} (hc : C p = some (.lst ds)) (hp : H p = some (.lst vs)) (r : Reps K H es ws) : Stp H C (upd H p (.lst ws)) (up C p (.lst es)) ∧ Rl K B (upd H p (.lst ws)) (up C p (.lst es)) := by
  have nf : ¬ Frz (H p) := by rw [hp]; exact id
  have hn : C p ≠ none := by rw [hc]; exact fun z => nomatch z
  exact ⟨stp_put nf (.inl hn), rl.put nf (.inl hn) ⟨ws, upd_same, r.mono (tx_upd nf)⟩⟩
def appendR : D → List D → Cp → DQ → Prop := fun d ds C Q => ∃ p xs y, d = .ptr p ∧ ds = [y] ∧ C p = some (.lst xs) ∧ xs.length < sizeLine ∧ Q .non (up C p (.lst (xs ++ [y])))
theorem mt_appendD : MtD X B "list.append" appendR := by
  intro pins s σ H x xs v us Q I rx rs h
  obtain ⟨d, ds, C, Qd, r1, r2, rl, ⟨p, ys, y, e1, e2, hc, hz, h⟩, k⟩ := h
  subst e1 e2
  cases r1
  obtain ⟨w, r3, rfl, hw, hn⟩ := r2
  cases hn
  obtain ⟨vs, hp, hr⟩ := rl.cells hc
  obtain ⟨a1, a2⟩ := rl.setL hc hp (hr.append (.cons hw .nil))
  exact mt_append pins s σ H _ _ v us Q I rx rs ⟨p, vs, w, rfl, rfl, hp, by rw [← hr.length]; exact hz, k _ _ _ _ a1 a2 repN h⟩
def extendR : D → List D → Cp → DQ → Prop := fun d ds C Q => ∃ p q xs ys, d = .ptr p ∧ ds = [.ptr q] ∧ C p = some (.lst xs) ∧ C q = some (.lst ys) ∧ xs.length + ys.length ≤ sizeLine ∧ Q .non (up C p (.lst (xs ++ ys)))
theorem mt_extendD : MtD X B "list.extend" extendR := by
  intro pins s σ H x xs v us Q I rx rs h
  obtain ⟨d, ds, C, Qd, r1, r2, rl, ⟨p, q, ys, zs, e1, e2, hc, hc2, hz, h⟩, k⟩ := h
  subst e1 e2
  cases r1
  obtain ⟨w, r3, rfl, hw, hn⟩ := r2
  cases hn; cases hw
  obtain ⟨vs, hp, hr⟩ := rl.cells hc
  obtain ⟨ws, hp2, hr2⟩ := rl.cells hc2
  obtain ⟨a1, a2⟩ := rl.setL hc hp (hr.append hr2)
  exact mt_extend pins s σ H _ _ v us Q I rx rs ⟨p, q, vs, ws, rfl, rfl, hp, hp2, by rw [← hr.length, ← hr2.length]; exact hz, k _ _ _ _ a1 a2 repN h⟩
theorem reps_eraseIdx {H : Hp} : ∀ {ds : List D} {vs : List V} (i : Nat), Reps K H ds vs → Reps K H (ds.eraseIdx i) (vs.eraseIdx i)
  | [], _, _, h => by cases h; exact .nil
  | _ :: _, _, 0, h => by
    obtain ⟨w, r, rfl, a, t⟩ := h
    exact t
  | _ :: _, _, i + 1, h => by
    obtain ⟨w, r, rfl, a, t⟩ := h
    exact ⟨w, _, rfl, a, reps_eraseIdx i t⟩
def popAtR : D → List D → Cp → DQ → Prop := fun d ds C Q => ∃ p xs i k y, d = .ptr p ∧ ds = [.int i] ∧ C p = some (.lst xs) ∧ -(2 ^ 63) ≤ i ∧ i < 2 ^ 63 ∧ seqIndex? i xs.length = some k ∧ xs[k]? = some y ∧ Q y (up C p (.lst (xs.eraseIdx k)))
end
end KB

/-! KB7: what is collected of a thing; sorted. -/
namespace KB
open PySem PySem.Spec PyProof.Rows SeqAt
open L2 hiding op_eqD op_neD
mutual
def toP : D → PyData
  | .non => .none
  | .bl b => .bool b
  | .int i => .int i
  | .str l => .str ⟨l.toArray⟩
  | .tup ds => .tuple (toPs ds)
  | .ptr _ => .none
  | .ty _ => .none
def toPs : List D → List PyData
  | [] => []
  | d :: ds => toP d :: toPs ds
end
theorem toPs_map : ∀ ds : List D, toPs ds = ds.map toP
  | [] => rfl
  | d :: ds => by unfold toPs; rw [toPs_map ds]; rfl
mutual
theorem depth_toP : ∀ d : D, (toP d).depth = dep d
  | .non => by unfold toP PyData.depth dep; rfl
  | .bl _ => by unfold toP PyData.depth dep; rfl
  | .int _ => by unfold toP PyData.depth dep; rfl
  | .str _ => by unfold toP PyData.depth dep; rfl
  | .ptr _ => by unfold toP PyData.depth dep; rfl
  | .ty _ => by unfold toP PyData.depth dep; rfl
  | .tup ds => by
    unfold toP PyData.depth dep
    rw [depths_toP ds]
theorem depths_toP : ∀ ds : List D, PyData.depthAll (toPs ds) = deps ds
  | [] => by unfold toPs PyData.depthAll deps; rfl
  | d :: ds => by
    unfold toPs PyData.depthAll deps
    rw [depth_toP d, depths_toP ds]
end
section
variable {K : PySem.W.Frag} {H : Hp}
mutual
theorem dp_of : ∀ (d : D) (v : V), npt d = true → Rep K H d v → Dp K H v (toP d)
  | .non, _, _, h => by cases h; unfold toP; exact .non
  | .bl _, _, _, h => by cases h; unfold toP; exact .bl _
  | .int _, _, _, h => by cases h; unfold toP; exact .int _
  | .str _, _, _, h => by cases h; unfold toP; exact .str _
  | .ptr _, _, n, _ => by unfold npt at n; cases n
  | .ty _, _, n, _ => by unfold npt at n; cases n
  | .tup ds, _, n, h => by
    obtain ⟨a, vs, rfl, hq, hr⟩ := h
    unfold toP
    exact .tup hq (dps_of ds vs n hr)
theorem dps_of : ∀ (ds : List D) (vs : List V), npts ds = true → Reps K H ds vs → DpAll K H vs (toPs ds)
  | [], _, _, h => by cases h; unfold toPs; exact .nil
  | d :: ds, _, n, h => by
    obtain ⟨v, r, rfl, a, t⟩ := h
    unfold npts at n
    rw [Bool.and_eq_true] at n
    unfold toPs
    exact .cons (dp_of d v n.1 a) (dps_of ds r n.2 t)
end
end
def leP : D → D → Bool := W.dataLe false toP
theorem repK_keys {α β : Type} {f : α → β} {K : PySem.W.Frag} {H : Hp} {kvs : List (α × D)} {ws : List (β × V)} (q : RepK f K H kvs ws) : (kvs.map fun kv => f kv.1) = ws.map (·.1) := by
  unfold RepK at q
  induction q with
  | nil => rfl
  | cons r t ih => rw [List.map_cons, List.map_cons, r.1, ih]
/-- what iterating gives: of a list, a tuple, a dict its keys -/
def collD (C : Cp) : D → List D → Prop
  | .tup ds, xs => xs = ds
  | .str l, xs => l.length ≤ sizeLine ∧ xs = l.map fun c => .str [c]
  | .ptr p, xs => isL C p xs ∨ (∃ kvs, C p = some (.dk kvs) ∧ xs = kvs.map fun kv => keyD kv.1) ∨ ∃ kvs, C p = some (.dg kvs) ∧ xs = kvs.map fun kv => kv.1
  | _, _ => False
theorem paired_at {α β : Type} {F : α → β → Prop} : ∀ {a : List α} {b : List β}, Paired F a b → ∀ {j : Nat} (h1 : j < a.length) (h2 : j < b.length), F a[j] b[j]
  | _, _, .nil, _, h1, _ => by simp at h1
  | _, _, .cons r t, 0, _, _ => r
  | _, _, .cons r t, j + 1, h1, h2 => paired_at t (by simpa using h1) (by simpa using h2)
/-- values stand for data, by a heap that goes on -/
def Stand (X : Cx) (H : Hp) (ds : List D) (its : List Value) : Prop := ∃ vs, Reps X.K H ds vs ∧ Vals vs its
theorem keyD_rep {K : PySem.W.Frag} {H : Hp} (k : DKey) : Rep K H (keyD k) (kV (keyOf k)) := by
  cases k with
  | inl i => rfl
  | inr l => rfl
theorem keyDs_rep {K : PySem.W.Frag} {H : Hp} : ∀ ks : List DKey, Reps K H (ks.map keyD) ((ks.map keyOf).map kV)
  | [] => rfl
  | k :: ks => ⟨_, _, rfl, keyD_rep k, keyDs_rep ks⟩
theorem reps_of_at {K : PySem.W.Frag} {H : Hp} : ∀ {ds : List D} {us : List Value}, us.length = ds.length → (∀ (j : Nat) (u : Value), us[j]? = some u → ∃ d v, ds[j]? = some d ∧ Rep K H d v ∧ RelV v u) → ∃ vs, Reps K H ds vs ∧ Vals vs us
  | [], [], _, _ => ⟨[], rfl, .nil⟩
  | d :: ds, u :: us, hl, h => by
    obtain ⟨d', v, e1, e2, e3⟩ := h 0 u rfl
    have e1 : d = d' := Option.some.inj e1
    subst e1
    obtain ⟨vs, a1, a2⟩ := reps_of_at (ds := ds) (us := us) (by simpa using hl) fun j w e => h (j + 1) w (by simpa using e)
    exact ⟨v :: vs, ⟨v, vs, rfl, e2, a1⟩, .cons e3 a2⟩
  | [], _ :: _, hl, _ => by simp at hl
  | _ :: _, [], hl, _ => by simp at hl
section
variable {X : Cx} {B : Bs} {pins : List (Addr × Obj)} {σ : L2.St} {H : Hp} {s : Shared}
theorem collect_D {A : Around} {E : Value → Shared → Prop} {R : List Value → Shared → Prop} {C : Cp} {d : D} {x : V} {u : Value} {xs : List D} (hB : B.P = X.prog ∧ B.w = X.w) (hA : A.handled = none) (I : Inv X pins σ H s) (rl : Rl X.K B H C) (r : Rep X.K H d x) (rv : RelV x u) (hc : collD C d xs)
    (h : ∀ its h' tk, xs.length ≤ sizeLine → (∀ b o, s.heap.get? b = some o → h'.get? b = some o) → Stand X H xs its → R its { s with heap := h', toks := tk }) : wpAny (model X.prog X.w) A (collect u) R E s := by
  cases d with
  | tup ds =>
    have hc : xs = ds := hc
    subst hc
    obtain ⟨p, vs, rfl, hq, hr⟩ := r
    cases rv
    obtain ⟨its, rv2, ⟨o, ho, hc, n, hd⟩, hz⟩ := I.tuple hq
    exact wpAny_collect_seq p (T := "tuple") (.inr rfl) ho hc hd (fun h' hk => h its h' s.toks (by rw [hr.length]; exact hz) hk ⟨vs, hr, rv2⟩) (by rw [List.size_toArray, ← rv2.length]; exact hz)
  | ptr p =>
    cases r; cases rv
    rcases hc with hl | ⟨kvs, hl, e⟩ | ⟨kvs, hl, e⟩
    · obtain ⟨vs, hq, hr⟩ := isL.sq rl hl
      obtain ⟨its, rv2, pt, hz⟩ := I.list hq
      obtain ⟨o, ho, hc, n, hd⟩ := pt.isList
      exact wpAny_collect_seq p (T := "list") (.inl rfl) ho hc hd (fun h' hk => h its h' s.toks (by rw [hr.length]; exact hz) hk ⟨vs, hr, rv2⟩) (by rw [List.size_toArray, ← rv2.length]; exact hz)
    · subst e
      obtain ⟨ws, e1, q⟩ := rl.ok _ _ hl
      obtain ⟨z, lo, vs, rel, dd⟩ := dk_of I.hok e1
      obtain ⟨ep, hat⟩ := dd.dictAt
      have l1 : kvs.length = vs.length := (Paired.length q).trans (Paired.length rel)
      have z' : kvs.length ≤ sizeLine := by rw [Paired.length q]; exact z
      refine PySem.W.kdu_collect (A := A) (PySem.W.kdl_dict (knd := mixKind X.prog X.w) (kvs := vs) (ep := ep) lo) hA hat (by rw [← l1]; exact z') fun h' tk acc hk hacc => h acc.toList h' tk (by rw [List.length_map]; exact z') hk ?_
      refine reps_of_at (by rw [Array.length_toList, hacc.1, List.length_map, l1]) fun j u e => ?_
      obtain ⟨k, x, e2, e3⟩ := hacc.2 j u (by rw [← Array.getElem?_toList]; exact e)
      have hj : j < kvs.length := by rw [l1]; exact (List.getElem?_eq_some_iff.mp e2).1
      have ek : keyOf kvs[j].1 = k := by
        have hq1 : (kvs.map fun kv => keyOf kv.1) = ws.map (·.1) := repK_keys q
        have hq2 : (kvs.map fun kv => keyOf kv.1) = vs.map (·.1) := hq1.trans rel.keys
        have := congrArg (fun l => l[j]?) hq2
        simp only [List.getElem?_map, List.getElem?_eq_getElem hj, e2, Option.map_some] at this
        exact Option.some.inj this
      refine ⟨keyD kvs[j].1, kV (keyOf kvs[j].1), by simp [hj], keyD_rep _, ?_⟩
      rw [ek]
      rcases keyIs_shape e3 with ⟨i, t, ek, ev⟩ | ⟨z, t, ek, ev⟩
      · subst ek; exact ⟨t, ev⟩
      · subst ek; exact ⟨t, ev⟩
    · subst e
      obtain ⟨xs, e1, q, kg⟩ := rl.ok _ _ hl
      rw [hB.1, hB.2] at e1
      obtain ⟨o, es, ep, h1, h2, h3, h4, h5, h6, lo⟩ : _ := (I.hok p _ e1).1
      have l0 : kvs.length = xs.length := Paired.length q
      have l2 : es.size = xs.length := by rw [← Array.length_toList, h4, List.length_map]
      refine PySem.W.kdu_collect (A := A) (PySem.KdlSrc.rawDict (es := es) (ep := ep) lo) hA ⟨o, h1, h2, h3⟩ (by rw [l2]; exact h6) fun h' tk acc hk hacc => h acc.toList h' tk (by rw [List.length_map, l0]; exact h6) hk ?_
      refine reps_of_at (by rw [Array.length_toList, hacc.1, List.length_map, l2, l0]) fun j u e => ?_
      obtain ⟨hi, e2⟩ := hacc.2 j u (by rw [← Array.getElem?_toList]; exact e)
      have hj : j < kvs.length := by omega
      have hjx : j < xs.length := by omega
      obtain ⟨r1, r2, r3⟩ := paired_at q hj hjx
      have e4 : es[j].key = .ref xs[j].2.1 := by
        have : es.toList[j]? = some (entryOfKey (nestedKind X.prog X.w) xs[j]) := by rw [h4, List.getElem?_map, List.getElem?_eq_getElem hjx]; rfl
        rw [Array.getElem?_toList, Array.getElem?_eq_getElem hi] at this
        rw [Option.some.inj this]
        rfl
      exact ⟨kvs[j].1, .ref xs[j].2.1, by simp [hj], r2, by rw [e2, e4]; rfl⟩
  | str l =>
    cases r
    obtain ⟨t, rfl⟩ := rv
    obtain ⟨hz, e⟩ := hc
    subst e
    refine wpAny_collect_str hA ⟨l.toArray⟩ t (fun s' acc hk hg hd ho hi => ?_) (by simpa using hz)
    obtain ⟨h', g', d', t', o'⟩ := s'
    simp only at hg hd ho hk
    subst hg hd ho
    refine h acc.toList h' t' (by rw [List.length_map]; exact hz) hk (reps_of_at (by rw [Array.length_toList, hi.1]; simp) fun j u e => ?_)
    obtain ⟨c, t2, hc, hu⟩ := hi.2 j u (by rw [← Array.getElem?_toList]; exact e)
    refine ⟨.str [c], .str ⟨#[c]⟩, ?_, rfl, t2, hu⟩
    have hc : l.toArray[j]? = some c := hc
    simp at hc
    simp [hc]
  | _ => exact False.elim hc
end
section
variable {X : Cx} {B : Bs} {pins : List (Addr × Obj)} {σ : L2.St} {H : Hp} {s : Shared}
theorem eachIs_of : ∀ {ds : List D} {vs : List V} {its : List Value} {R : Value → D → Prop}, Reps X.K H ds vs → Vals vs its → (∀ d v u, d ∈ ds → Rep X.K H d v → RelV v u → R u d) → W.EachIs R its ds
  | [], _, _, _, h, r, _ => by
    cases h
    cases r
    exact .nil
  | d :: ds, _, _, _, h, r, k => by
    obtain ⟨v, vr, rfl, a, t⟩ := h
    cases r with
    | cons r1 r2 => exact .cons (k d v _ (by simp) a r1) (eachIs_of t r2 fun d v u m => k d v u (by simp [m]))
theorem stand_of : ∀ {ds : List D} {its : List Value}, W.EachIs (fun u d => ∃ v, Rep X.K H d v ∧ RelV v u) its ds → Stand X H ds its
  | [], _, h => by cases h; exact ⟨[], rfl, .nil⟩
  | d :: ds, _, h => by
    cases h with
    | cons h1 h2 =>
      obtain ⟨v, a, b⟩ := h1
      obtain ⟨vs, c, e⟩ := stand_of h2
      exact ⟨v :: vs, ⟨v, vs, rfl, a, c⟩, .cons b e⟩
/-- the items may be sorted: alike, no places within -/
structure SortOk (xs : List D) : Prop where
  al : W.AllAlike (xs.map toP)
  so : W.Sortable (xs.map toP)
  np : ∀ x ∈ xs, npt x = true ∧ dep x ≤ 60
def sortedR : List D → Cp → DQ → Prop := fun ds C Q => ∃ d xs, ds = [d] ∧ collD C d xs ∧ SortOk xs ∧ ∀ p, C p = none → Q (.ptr p) (up C p (.lst (xs.mergeSort leP)))
theorem call_sortedD (hB : B.P = X.prog ∧ B.w = X.w) (hr : X.A.units + 70 < cLine) (hcalm : X.calm = true) : CallD X B (.builtin "sorted") sortedR := by
  intro pins s σ H ys us Q I rx hh
  obtain ⟨ds, C, Qd, r, rl, ⟨d, xs, e, hc, so, hq⟩, k⟩ := hh
  subst e
  obtain ⟨v, r2, rfl, hv, hn⟩ := r
  cases hn
  obtain ⟨u, rfl, ru⟩ := vals1 rx
  refine Calls.call_function_entry PyProof.Rows.kind_sorted PyProof.Rows.plain_sorted PyProof.Rows.entry_sorted (PyProof.Rows.args_sorted1 _) ?_
  unfold Builtin.«sorted»
  refine wpAny_bind (m := checkCount "sorted" 1 1 _) (wpAny_pure ?_)
  refine wpAny_bind (collect_D (A := X.A.in1) hB (I.ok.hd hcalm) I rl hv ru hc fun its h' tk hz hk st => ?_)
  obtain ⟨vs, hr1, hr2⟩ := st
  have hl : its.length ≤ sizeLine := by rw [← hr2.length, ← hr1.length]; exact hz
  refine wpAny_bind (wpAny_newList ?_ hl)
  have hoL : (h'.push (seqObj "list" its.toArray 0)).get? h'.objs.size = some (seqObj "list" its.toArray 0) := Heap.get?_push_size _ rfl
  have I1 : Inv X pins σ H { s with heap := h', toks := tk } := I.kept hk
  have keep : ∀ b o, h'.get? b = some o → (W.sortingHeap (h'.push (seqObj "list" its.toArray 0)) h'.objs.size its).get? b = some o := fun b o e =>
    W.sortingHeap_old (Nat.ne_of_lt (Heap.lt_size e)) (Heap.get?_push_of_some _ e)
  have er : W.EachIs (fun u d => ∃ as, Reads (W.sortingHeap (h'.push (seqObj "list" its.toArray 0)) h'.objs.size its) u (toP d) as) its xs := eachIs_of hr1 hr2 fun d v u m a b => by
    obtain ⟨as, q⟩ := Dp.reads I1 (toP d) v u (dp_of d v (so.np d m).1 a) b
    exact ⟨as, PyProof.Rows.Reads.keeps keep q⟩
  show wpAny _ _ _ _ _ { s with heap := h'.push (seqObj "list" its.toArray 0), toks := tk }
  have S : W.SortsAt X.prog X.w X.A.in1.in1 { s with heap := W.sortingHeap (h'.push (seqObj "list" its.toArray 0)) h'.objs.size its, toks := tk } (W.dataKind (W.sortingHeap (h'.push (seqObj "list" its.toArray 0)) h'.objs.size its) (xs.map toP)) its :=
    W.SortsAt.data (s := { s with heap := W.sortingHeap (h'.push (seqObj "list" its.toArray 0)) h'.objs.size its, toks := tk }) (W.each_map (R := fun v d => ∃ as, Reads _ v d as) toP er) so.al so.so fun d hd => by
      obtain ⟨b, hb, rfl⟩ := List.mem_map.mp hd
      rw [depth_toP]
      have := (so.np b hb).2
      show X.A.units + 1 + 1 + _ < cLine
      omega
  refine wpAny_bind (wpAny_holding (wpAny_call_entry PyProof.Rows.slot_list_sort ⟨_, hoL, rfl⟩ PyProof.Rows.entry_list_sort
    (W.list_sort_vals (s := { s with heap := h'.push (seqObj "list" its.toArray 0), toks := tk }) hoL S hl ⟨_, rfl, ?_⟩) (PyProof.Rows.args_list_sort _)))
  have out : W.EachIs (fun u d => ∃ v, Rep X.K H d v ∧ RelV v u) _ (xs.mergeSort leP) := W.sortVals_data (R := fun u d => ∃ v, Rep X.K H d v ∧ RelV v u) false (eachIs_of hr1 hr2 fun d v u _ a b => ⟨v, a, b⟩) er so.al
  obtain ⟨ws, g1, g2⟩ := stand_of (X := X) (H := H) out
  obtain ⟨e', he'⟩ := PyProof.Rows.sortedHeap_at (vs := its) (out := (W.sortVals (W.dataKind (W.sortingHeap (h'.push (seqObj "list" its.toArray 0)) h'.objs.size its) (xs.map toP)) false its its).toArray) hoL
  have hlen : ws.length ≤ sizeLine := by
    rw [← g1.length, List.length_mergeSort]
    exact hz
  have hfr : H h'.objs.size = none := I1.hok.fresh (Nat.le_refl _)
  obtain ⟨a1, a2⟩ := rl.newL (p := h'.objs.size) hfr g1
  refine wpAny_pure ⟨_, rfl, .ref h'.objs.size, upd H h'.objs.size (.lst ws), I1.laid (t' := tk) (fun b u e => ?_) (Nat.le_refl _)
    (show ObjOk X.prog X.w _ _ _ (.lst ws) from ⟨hlen, _, e', g2, he'⟩), rfl, k _ _ _ _ a1 a2 (repP _) (hq _ (rl.fresh hfr))⟩
  have hb : b < h'.objs.size := Heap.lt_size e
  rw [PyProof.Rows.sortedHeap_old (Nat.ne_of_lt hb) (by rw [size_push']; exact Nat.lt_succ_of_lt hb)]
  exact Heap.get?_push_of_some _ e
end
end KB

/-! KB8: dicts over data. -/
namespace KB
open PySem PySem.Spec PyProof.Rows SeqAt
open L2 hiding op_eqD op_neD
section
variable {κ α : Type} [DecidableEq κ]
def lookA (kvs : List (κ × α)) (k : κ) : Option α := (kvs.find? fun kv => decide (kv.1 = k)).map (·.2)
def putA (kvs : List (κ × α)) (k : κ) (v : α) : List (κ × α) := if (kvs.any fun kv => decide (kv.1 = k)) = true then kvs.map (fun kv => if kv.1 = k then (kv.1, v) else kv) else kvs ++ [(k, v)]
def delA (kvs : List (κ × α)) (k : κ) : List (κ × α) := kvs.filter fun kv => decide (kv.1 ≠ k)
theorem lookA_nil {k : κ} : lookA ([] : List (κ × α)) k = none := rfl
theorem lookA_cons {p : κ × α} {r : List (κ × α)} {k : κ} : lookA (p :: r) k = if p.1 = k then some p.2 else lookA r k := by
  unfold lookA
  rw [List.find?_cons]
  by_cases h : p.1 = k
  · simp [h]
  · simp [h]
theorem lookA_any (k : κ) : ∀ kvs : List (κ × α), (kvs.any fun kv => decide (kv.1 = k)) = (lookA kvs k).isSome
  | [] => rfl
  | p :: r => by
    rw [List.any_cons, lookA_any k r, lookA_cons]
    by_cases h : p.1 = k
    · simp [h]
    · simp [h]
theorem putA_len (kvs : List (κ × α)) (k : κ) (v : α) : (putA kvs k v).length ≤ kvs.length + 1 := by
  unfold putA
  split <;> simp
theorem lookA_map (k j : κ) (y : α) : ∀ kvs : List (κ × α), lookA (kvs.map fun kv => if kv.1 = k then (kv.1, y) else kv) j = (lookA kvs j).map fun x => if j = k then y else x
  | [] => rfl
  | p :: r => by
    rw [List.map_cons, lookA_cons, lookA_cons, lookA_map k j y r]
    by_cases h : p.1 = k
    · subst h
      by_cases h2 : p.1 = j
      · subst h2
        simp
      · simp [h2]
    · by_cases h2 : p.1 = j
      · subst h2
        simp [h]
      · simp [h, h2]
theorem lookA_snoc (k j : κ) (y : α) : ∀ kvs : List (κ × α), lookA (kvs ++ [(k, y)]) j = match lookA kvs j with | some x => some x | none => if k = j then some y else none
  | [] => by rw [List.nil_append, lookA_cons]; rfl
  | p :: r => by
    rw [List.cons_append, lookA_cons, lookA_cons, lookA_snoc k j y r]
    by_cases h : p.1 = j
    · simp [h]
    · simp [h]
theorem lookA_put (kvs : List (κ × α)) (k j : κ) (y : α) : lookA (putA kvs k y) j = if j = k then some y else lookA kvs j := by
  unfold putA
  rw [lookA_any]
  cases e : lookA kvs k with
  | some x =>
    simp only [Option.isSome_some, if_true]
    rw [lookA_map]
    by_cases h : j = k
    · subst h
      rw [e]
      simp
    · cases lookA kvs j <;> simp [h]
  | none =>
    simp only [Option.isSome_none, Bool.false_eq_true, if_false]
    rw [lookA_snoc]
    by_cases h : j = k
    · subst h
      rw [e]
    · have h2 : ¬ k = j := fun z => h z.symm
      simp only [h, h2, if_false]
      cases lookA kvs j <;> rfl
theorem lookA_del (k j : κ) : ∀ kvs : List (κ × α), lookA (delA kvs k) j = if j = k then none else lookA kvs j
  | [] => by
    unfold delA
    rw [List.filter_nil, lookA_nil]
    simp
  | p :: r => by
    have ih := lookA_del k j r
    unfold delA at ih ⊢
    rw [List.filter_cons]
    by_cases h : p.1 = k
    · simp only [h, ne_eq, not_true, decide_false, Bool.false_eq_true, if_false]
      rw [ih, lookA_cons]
      by_cases h2 : j = k
      · simp [h2]
      · have h3 : ¬ k = j := fun z => h2 z.symm
        simp [h2, h, h3]
    · simp only [h, ne_eq, not_false_eq_true, decide_true, if_true]
      rw [lookA_cons, ih, lookA_cons]
      by_cases h2 : p.1 = j
      · subst h2
        simp [h]
      · simp [h2]
end
/-! dicts whose keys are tuples -/
def lookG (kvs : List (D × D)) (k : D) : Option D := (kvs.find? fun kv => decide (nk kv.1 = nk k)).map (·.2)
def putG (kvs : List (D × D)) (k v : D) : List (D × D) := if (lookG kvs k).isSome then kvs.map (fun kv => if nk kv.1 = nk k then (kv.1, v) else kv) else kvs ++ [(k, v)]
def delG (kvs : List (D × D)) (k : D) : List (D × D) := kvs.filter fun kv => decide (nk kv.1 ≠ nk k)
mutual
theorem nk_inj : ∀ (a b : D), flatG a = true → flatG b = true → nk a = nk b → a = b
  | a, .ptr _, _, h, _ => by unfold flatG at h; cases h
  | a, .ty _, _, h, _ => by unfold flatG at h; cases h
  | a, .bl _, _, h, _ => by unfold flatG at h; cases h
  | .ptr _, b, h, _, _ => by unfold flatG at h; cases h
  | .ty _, b, h, _, _ => by unfold flatG at h; cases h
  | .bl _, b, h, _, _ => by unfold flatG at h; cases h
  | .non, .non, _, _, _ => rfl
  | .int i, .int j, _, _, h => by unfold nk at h; injection h with h; rw [h]
  | .str l, .str m, _, _, h => by
    unfold nk at h
    injection h with h
    rw [sOf_inj h]
  | .tup ds, .tup es, h1, h2, h => by
    unfold nk at h
    injection h with h
    rw [nks_inj ds es h1 h2 h]
  | .non, .int _, _, _, h => by unfold nk at h; cases h
  | .non, .str _, _, _, h => by unfold nk at h; cases h
  | .non, .tup _, _, _, h => by unfold nk at h; cases h
  | .int _, .non, _, _, h => by unfold nk at h; cases h
  | .int _, .str _, _, _, h => by unfold nk at h; cases h
  | .int _, .tup _, _, _, h => by unfold nk at h; cases h
  | .str _, .non, _, _, h => by unfold nk at h; cases h
  | .str _, .int _, _, _, h => by unfold nk at h; cases h
  | .str _, .tup _, _, _, h => by unfold nk at h; cases h
  | .tup _, .non, _, _, h => by unfold nk at h; cases h
  | .tup _, .int _, _, _, h => by unfold nk at h; cases h
  | .tup _, .str _, _, _, h => by unfold nk at h; cases h
theorem nks_inj : ∀ (a b : List D), flatGs a = true → flatGs b = true → nks a = nks b → a = b
  | [], [], _, _, _ => rfl
  | [], _ :: _, _, _, h => by unfold nks at h; cases h
  | _ :: _, [], _, _, h => by unfold nks at h; cases h
  | x :: xs, y :: ys, h1, h2, h => by
    unfold flatGs at h1 h2
    rw [Bool.and_eq_true] at h1 h2
    unfold nks at h
    injection h with h3 h4
    rw [nk_inj x y h1.1 h2.1 h3, nks_inj xs ys h1.2 h2.2 h4]
end
mutual
theorem npt_of_flatG : ∀ d : D, flatG d = true → npt d = true
  | .non, _ => rfl
  | .bl _, _ => rfl
  | .int _, _ => rfl
  | .str _, _ => rfl
  | .ptr _, h => by unfold flatG at h; cases h
  | .ty _, h => by unfold flatG at h; cases h
  | .tup ds, h => by
    unfold flatG at h
    unfold npt
    exact npts_of_flatGs ds h
theorem npts_of_flatGs : ∀ ds : List D, flatGs ds = true → npts ds = true
  | [], _ => rfl
  | d :: ds, h => by
    unfold flatGs at h
    rw [Bool.and_eq_true] at h
    unfold npts
    rw [npt_of_flatG d h.1, npts_of_flatGs ds h.2]
    rfl
end
section
variable {X : Cx} {B : Bs} {pins : List (Addr × Obj)} {σ : L2.St} {H : Hp} {s : Shared} {C : Cp}
mutual
theorem nested_of (I : Inv X pins σ H s) : ∀ (d : D) (v : V) (u : Value), npt d = true → Rep X.K H d v → RelV v u → NestedIs s.heap (nk d) u
  | .non, _, _, _, h, r => by cases h; cases r; unfold nk; exact .none
  | .bl b, _, _, _, h, r => by cases h; cases r; unfold nk; exact .bool rfl
  | .int i, _, _, _, h, r => by cases h; obtain ⟨t, rfl⟩ := r; unfold nk; exact .int _ _
  | .str l, _, _, _, h, r => by cases h; obtain ⟨t, rfl⟩ := r; unfold nk; exact .text _ _
  | .ptr _, _, _, n, _, _ => by unfold npt at n; cases n
  | .ty _, _, _, n, _, _ => by unfold npt at n; cases n
  | .tup ds, _, _, n, h, r => by
    obtain ⟨a, vs, rfl, hq, hr⟩ := h
    cases r
    obtain ⟨its, rv, ⟨o, ho, hc, k, hd⟩, _⟩ := I.tuple hq
    unfold nk
    exact .tup ho hc hd (by rw [List.toList_toArray]; exact nesteds_of I ds vs its n hr rv)
theorem nesteds_of (I : Inv X pins σ H s) : ∀ (ds : List D) (vs : List V) (us : List Value), npts ds = true → Reps X.K H ds vs → Vals vs us → NestedAll s.heap (nks ds) us
  | [], _, _, _, h, r => by cases h; cases r; unfold nks; exact .nil
  | d :: ds, _, _, n, h, r => by
    obtain ⟨v, vr, rfl, a, t⟩ := h
    unfold npts at n
    rw [Bool.and_eq_true] at n
    cases r with
    | cons r1 r2 =>
      unfold nks
      exact .cons (nested_of I d v _ n.1 a r1) (nesteds_of I ds vr _ n.2 t r2)
end
theorem key_is (I : Inv X pins σ H s) {d : D} {a : Addr} (hk : keyG d) (r : Rep X.K H d (.ref a)) : (nestedKind X.prog X.w).is s.heap (nk d) a := ⟨nested_of I d (.ref a) (.ref a) (npt_of_flatG d hk.2.2) r rfl, hk.2.1⟩
theorem dg_of (hB : B.P = X.prog ∧ B.w = X.w) (I : Inv X pins σ H s) (rl : Rl X.K B H C) {p : Addr} {kvs : List (D × D)} (h : C p = some (.dg kvs)) :
    ∃ xs, H p = some (DgObj X.prog X.w p xs) ∧ s.heap.DictOfH (nestedKind X.prog X.w) p xs ∧ RepG X.K H kvs xs ∧ (∀ q ∈ kvs, keyG q.1) ∧ xs.length ≤ sizeLine ∧ (p == sysModules) = false := by
  obtain ⟨xs, e1, q, kg⟩ := rl.ok _ _ h
  rw [hB.1, hB.2] at e1
  obtain ⟨o, es, ep, h1, h2, h3, h4, h5, h6, lo⟩ : _ := (I.hok p _ e1).1
  refine ⟨xs, e1, ⟨o, es, ep, h1, h2, h3, h4, fun x hx => ?_, h5⟩, q, kg, h6, lo⟩
  obtain ⟨j, hj, ej⟩ := List.mem_iff_getElem.mp hx
  have hjk : j < kvs.length := by rw [Paired.length q]; exact hj
  obtain ⟨r1, r2, r3⟩ := paired_at q hjk hj
  rw [ej] at r1 r2
  rw [← r1]
  exact key_is I (kg _ (List.getElem_mem hjk)) r2
theorem repG_look {kvs : List (D × D)} {xs : List (NestedKey × Addr × Value)} (q : RepG X.K H kvs xs) (k : D) : match lookG kvs k with
    | some d => ∃ a u v, atKey xs (nk k) = some (a, u) ∧ Rep X.K H d v ∧ RelV v u
    | none => atKey xs (nk k) = none := by
  unfold RepG at q
  induction q with
  | nil => rfl
  | @cons p x ps xs r t ih =>
    unfold lookG atKey at ih ⊢
    rw [List.find?_cons, List.find?_cons]
    by_cases h : nk p.1 = nk k
    · have h2 : x.1 = nk k := by rw [← r.1]; exact h
      simp only [h, h2, decide_true, Option.map_some]
      obtain ⟨v, a, b⟩ := r.2.2
      exact ⟨_, _, v, rfl, a, b⟩
    · have h2 : ¬ x.1 = nk k := by rw [← r.1]; exact h
      simp only [h, h2, decide_false]
      exact ih
theorem repG_put {kvs : List (D × D)} {xs : List (NestedKey × Addr × Value)} (q : RepG X.K H kvs xs) {k d : D} {a : Addr} {v : V} {u : Value} (hk : Rep X.K H k (.ref a)) (r : Rep X.K H d v) (rv : RelV v u) : RepG X.K H (putG kvs k d) (storedH xs (nk k) a u) := by
  have hl := repG_look q k
  have hmap : RepG X.K H (kvs.map fun kv => if nk kv.1 = nk k then (kv.1, d) else kv) (xs.map (putAt (nk k) u)) := by
    unfold RepG at q ⊢
    clear hl
    induction q with
    | nil => exact .nil
    | @cons p x ps xs r1 t ih =>
      refine .cons ?_ ih
      unfold putAt
      by_cases h : nk p.1 = nk k
      · have h2 : x.1 = nk k := by rw [← r1.1]; exact h
        dsimp only
        rw [if_pos h, if_pos h2]
        exact ⟨r1.1, r1.2.1, v, r, rv⟩
      · have h2 : ¬ x.1 = nk k := by rw [← r1.1]; exact h
        dsimp only
        rw [if_neg h, if_neg h2]
        exact r1
  unfold putG storedH
  cases e : lookG kvs k with
  | some d' =>
    rw [e] at hl
    obtain ⟨a', u', v', e2, _⟩ := hl
    rw [e2]
    exact hmap
  | none =>
    rw [e] at hl
    rw [hl]
    exact paired_append q (.cons ⟨rfl, hk, v, r, rv⟩ .nil)
theorem repG_del {kvs : List (D × D)} {xs : List (NestedKey × Addr × Value)} (q : RepG X.K H kvs xs) (k : D) : RepG X.K H (delG kvs k) (withoutH xs (nk k)) := by
  unfold RepG at q ⊢
  unfold delG withoutH
  induction q with
  | nil => exact .nil
  | @cons p x ps xs r1 t ih =>
    rw [List.filter_cons, List.filter_cons]
    by_cases h : nk p.1 = nk k
    · have h2 : x.1 = nk k := by rw [← r1.1]; exact h
      simp only [h, h2, ne_eq, not_true, decide_false, Bool.false_eq_true, if_false]
      exact ih
    · have h2 : ¬ x.1 = nk k := by rw [← r1.1]; exact h
      simp only [h, h2, ne_eq, not_false_eq_true, decide_true, if_true]
      exact .cons r1 ih
theorem repK_look {kvs : List (DKey × D)} {ws : List (Key × V)} (q : RepK keyOf X.K H kvs ws) (k : DKey) : match lookA kvs k with
    | some d => ∃ v, valV ws (keyOf k) = some v ∧ Rep X.K H d v
    | none => valV ws (keyOf k) = none := by
  unfold RepK at q
  induction q with
  | nil => rfl
  | @cons p x ps xs r t ih =>
    rw [lookA_cons]
    by_cases h : p.1 = k
    · rw [if_pos h, valV_pos (by rw [← r.1, h])]
      exact ⟨_, rfl, r.2⟩
    · rw [if_neg h, valV_neg (by rw [← r.1]; exact fun z => h (keyOf_inj z))]
      exact ih
theorem repK_put {kvs : List (DKey × D)} {ws : List (Key × V)} (q : RepK keyOf X.K H kvs ws) (k : DKey) {d : D} {v : V} (r : Rep X.K H d v) : RepK keyOf X.K H (putA kvs k d) (putK ws (keyOf k) v) := by
  have hl := repK_look q k
  have hmap : RepK keyOf X.K H (kvs.map fun kv => if kv.1 = k then (kv.1, d) else kv) (ws.map fun kv => if kv.1 = keyOf k then (kv.1, v) else kv) := by
    unfold RepK at q ⊢
    clear hl
    induction q with
    | nil => exact .nil
    | @cons p x ps xs r1 t ih =>
      refine .cons ?_ ih
      by_cases h : p.1 = k
      · have h2 : x.1 = keyOf k := by rw [← r1.1, h]
        dsimp only
        rw [if_pos h, if_pos h2]
        exact ⟨r1.1, r⟩
      · have h2 : ¬ x.1 = keyOf k := by rw [← r1.1]; exact fun z => h (keyOf_inj z)
        dsimp only
        rw [if_neg h, if_neg h2]
        exact r1
  unfold putA putK
  rw [lookA_any, valV_any]
  cases e : lookA kvs k with
  | some d' =>
    rw [e] at hl
    obtain ⟨v', e2, _⟩ := hl
    rw [e2]
    exact hmap
  | none =>
    rw [e] at hl
    rw [hl]
    exact paired_append q (.cons ⟨rfl, r⟩ .nil)
theorem repK_del {kvs : List (DKey × D)} {ws : List (Key × V)} (q : RepK keyOf X.K H kvs ws) (k : DKey) : RepK keyOf X.K H (delA kvs k) (dropK ws (keyOf k)) := by
  unfold RepK at q ⊢
  unfold delA dropK
  induction q with
  | nil => exact .nil
  | @cons p x ps xs r1 t ih =>
    rw [List.filter_cons, List.filter_cons]
    by_cases h : p.1 = k
    · have h2 : x.1 = keyOf k := by rw [← r1.1, h]
      simp only [h, h2, ne_eq, not_true, decide_false, Bool.false_eq_true, if_false]
      exact ih
    · have h2 : ¬ x.1 = keyOf k := by rw [← r1.1]; exact fun z => h (keyOf_inj z)
      simp only [h, h2, ne_eq, not_false_eq_true, decide_true, if_true]
      exact .cons r1 ih
/-- what the dict at p holds at y -/
def gotD (C : Cp) (p : Addr) (y : D) (r : Option D) : Prop := (∃ kvs k, C p = some (.dk kvs) ∧ y = keyD k ∧ r = lookA kvs k) ∨ ∃ kvs, C p = some (.dg kvs) ∧ keyG y ∧ r = lookG kvs y
/-- the dict at p behind p[y] = v -/
def putsD (C : Cp) (p : Addr) (y v : D) (C' : Cp) : Prop := (∃ kvs k, C p = some (.dk kvs) ∧ y = keyD k ∧ kvs.length < sizeLine ∧ C' = up C p (.dk (putA kvs k v))) ∨ ∃ kvs, C p = some (.dg kvs) ∧ keyG y ∧ kvs.length < sizeLine ∧ C' = up C p (.dg (putG kvs y v))
theorem keyD_val {k : DKey} {x : V} (r : Rep X.K H (keyD k) x) : x = kV (keyOf k) := by
  cases k with
  | inl i => exact r
  | inr l => exact r
theorem getItem_D {A : Around} {E : Value → Shared → Prop} {Q : Value → Shared → Prop} (hB : B.P = X.prog ∧ B.w = X.w) (hu : A.units + 20 < cLine) (I : Inv X pins σ H s) (rl : Rl X.K B H C) {p : Addr} {y d : D} {x : V} {u : Value} (g : gotD C p y (some d)) (r : Rep X.K H y x) (rv : RelV x u)
    (h : ∀ w' v s', Inv X pins σ H s' → Rep X.K H d v → RelV v w' → Q w' s') : wpAny (model X.prog X.w) A (getItem (.ref p) u) Q E s := by
  rcases g with ⟨kvs, k, e, ey, er⟩ | ⟨kvs, e, hk, er⟩
  · subst ey
    obtain ⟨ws, e1, q⟩ := rl.ok _ _ e
    have hl := repK_look q k
    rw [← er] at hl
    obtain ⟨v, e2, hv⟩ := hl
    have hx := keyD_val r
    subst hx
    exact d_getItem (by omega) I (by have := DGet.k (k := keyOf k) e1; rw [e2] at this; exact this) rv fun w' s' I' rw' => h w' v s' I' hv rw'
  · obtain ⟨xs, e1, hm, q, kg, hz, lo⟩ := dg_of hB I rl e
    have hl := repG_look q y
    rw [← er] at hl
    obtain ⟨a, u', v, e2, hv, hr⟩ := hl
    obtain ⟨ds, hds⟩ := hk.1
    have hr' := r
    rw [hds] at r
    obtain ⟨b, vs, rfl, _, _⟩ := r
    cases rv
    exact wpAny_getItem_heap (show A.units + 1 + 8 < cLine by omega) (key_is I hk hr') hm e2 (h u' v _ (I.tok _) hv hr)
theorem setItem_D {A : Around} {E : Value → Shared → Prop} {Q : Unit → Shared → Prop} {C' : Cp} (hB : B.P = X.prog ∧ B.w = X.w) (hu : A.units + 20 < cLine) (I : Inv X pins σ H s) (rl : Rl X.K B H C) {p : Addr} {y d : D} {x v : V} {u z : Value} (g : putsD C p y d C') (r : Rep X.K H y x) (rv : RelV x u) (r2 : Rep X.K H d v) (rv2 : RelV v z)
    (h : ∀ H' s', Inv X pins σ H' s' → Stp H C H' C' → Rl X.K B H' C' → Q () s') : wpAny (model X.prog X.w) A (setItem (.ref p) u z) Q E s := by
  rcases g with ⟨kvs, k, e, ey, hl, eC⟩ | ⟨kvs, e, hk, hl, eC⟩
  · subst ey eC
    obtain ⟨ws, e1, q⟩ := rl.ok _ _ e
    have hx := keyD_val r
    subst hx
    have nf : ¬ Frz (H p) := by rw [e1]; exact id
    have hn : C p ≠ none := by rw [e]; exact fun z => nomatch z
    exact d_setItem (by omega) I (DPut.k (k := keyOf k) e1 (by rw [← Paired.length q]; exact hl)) rv rv2 fun s' I' => h _ s' I' (stp_put nf (.inl hn)) (rl.put nf (.inl hn) ⟨_, upd_same, (repK_put q k r2).mono (tx_upd nf)⟩)
  · subst eC
    obtain ⟨xs, e1, hm, q, kg, hz, lo⟩ := dg_of hB I rl e
    have nf : ¬ Frz (H p) := by rw [e1]; exact id
    have hn : C p ≠ none := by rw [e]; exact fun z => nomatch z
    obtain ⟨ds, hds⟩ := hk.1
    have hr' := r
    rw [hds] at r
    obtain ⟨b, vs, rfl, _, _⟩ := r
    cases rv
    have q2 := repG_put q hr' r2 rv2
    have hz2 : (storedH xs (nk y) b z).length ≤ sizeLine := by
      rw [← Paired.length q2]
      unfold putG
      split
      · rw [List.length_map]; omega
      · rw [List.length_append]; show kvs.length + 1 ≤ _; omega
    refine wpAny_setItem_heap (hsz := hz) (show A.units + 1 + 8 < cLine by omega) (key_is I hk hr') hm fun h' hm' hs => h (upd H p (DgObj X.prog X.w p (storedH xs (nk y) b z))) _ ?_ (stp_put nf (.inl hn)) (rl.put nf (.inl hn) ?_)
    · obtain ⟨o, es, ep, h1, h2, h3, h4, h5, h6⟩ := hm'
      refine d_write I (by rw [e1]; exact True.intro) hs ⟨o, h1⟩ ⟨⟨o, es, ep, h1, h2, h3, h4, h6, hz2, lo⟩, ⟨o, h1⟩, fun ha hb ⟨o, es, ep, a1, a2⟩ k => ⟨o, es, ep, k o a1, a2⟩⟩
    · rw [hB.1, hB.2]
      refine ⟨_, upd_same, q2.mono (tx_upd nf), fun x hx => ?_⟩
      unfold putG at hx
      split at hx
      · obtain ⟨x0, hx0, rfl⟩ := List.mem_map.mp hx
        have : (if nk x0.1 = nk y then (x0.1, d) else x0).1 = x0.1 := by split <;> rfl
        rw [this]
        exact kg _ hx0
      · rcases List.mem_append.mp hx with hx | hx
        · exact kg _ hx
        · have : x = (y, d) := by simpa using hx
          rw [this]
          exact hk
end
end KB

/-! KB9: in, dict expressions, stores, texts, isinstance. -/
namespace KB
open PySem PySem.Spec PyProof.Rows SeqAt
open L2 hiding op_eqD op_neD
def memD (ds : List D) (x : D) : Bool := ds.any fun d => eqD d x
section
variable {X : Cx} {pins : List (Addr × Obj)} {σ : L2.St} {H : Hp} {s : Shared}
open Classical in
noncomputable def eqBy (K : PySem.W.Frag) (H : Hp) (x : D) (y : Value) : Bool := if h : ∃ d, npt d = true ∧ ∃ v, Rep K H d v ∧ RelV v y then eqD h.choose x else false
theorem eqBy_is (I : Inv X pins σ H s) {d x : D} {v : V} {y : Value} (n : npt d = true) (r : Rep X.K H d v) (rv : RelV v y) : eqBy X.K H x y = eqD d x := by
  have h : ∃ d, npt d = true ∧ ∃ v, Rep X.K H d v ∧ RelV v y := ⟨d, n, v, r, rv⟩
  unfold eqBy
  rw [dif_pos h]
  obtain ⟨n2, v2, r2, rv2⟩ := h.choose_spec
  have : v2 = v := RelV.inj rv2 rv
  subst this
  rw [rep_inj I _ _ _ n2 n r2 r]
theorem any_eqBy (I : Inv X pins σ H s) {x : D} : ∀ {ds : List D} {vs : List V} {us : List Value}, npts ds = true → Reps X.K H ds vs → Vals vs us → us.any (eqBy X.K H x) = memD ds x
  | [], _, _, _, h, r => by cases h; cases r; rfl
  | d :: ds, _, _, n, h, r => by
    obtain ⟨v, vr, rfl, a, t⟩ := h
    unfold npts at n
    rw [Bool.and_eq_true] at n
    cases r with
    | cons r1 r2 =>
      show (_ || _) = (_ || _)
      rw [eqBy_is I n.1 a r1, any_eqBy I n.2 t r2]
      rfl
end
section
variable {X : Cx} {B : Bs}
/-- x in a tuple, a list -/
def inR (neg : Bool) : D → D → Cp → DQ → Prop
  | x, .tup ds, C, Q => npt x = true ∧ okEqs ds ∧ Q (.bl (if neg then !memD ds x else memD ds x)) C
  | x, .ptr p, C, Q => ∃ ds, isL C p ds ∧ npt x = true ∧ okEqs ds ∧ Q (.bl (if neg then !memD ds x else memD ds x)) C
  | _, _, _, _ => False
theorem in_items {pins : List (Addr × Obj)} {s : Shared} {σ : L2.St} {H : Hp} (I : Inv X pins σ H s) {A : Around} {ds : List D} {vs : List V} {its : List Value} {dx : D} {x : V} {v : Value} (hA : A.units + 70 < cLine) (ok : okEqs ds) (nx : npt dx = true) (hr : Reps X.K H ds vs) (rv : Vals vs its) (r1 : Rep X.K H dx x) (rx : RelV x v) :
    ∀ y, y ∈ its.toArray → EqAt A s y v (eqBy X.K H dx y) := by
  intro y hy
  have hy : y ∈ its := by simpa using hy
  obtain ⟨j, hj, e⟩ := List.mem_iff_getElem.mp hy
  obtain ⟨w, a1, a2, a3⟩ := getV_of hr rv hj
  rw [e] at a2
  have n := npts_mem ok.1 a3
  rw [eqBy_is I n a1 a2]
  have := deps_mem a3
  have h6 := ok.2
  exact eqAt_D I 60 _ _ A w x _ _ (by omega) n nx (by omega) a1 r1 a2 rx
theorem op_inD (hu : X.A.units + 80 < cLine) : OpD X B (compareOp .In) (inR false) := by
  intro pins s σ H x y v u Q I rx ry h
  obtain ⟨dx, dy, C, Qd, r1, r2, rl, h, k⟩ := h
  cases dy with
  | tup ds =>
    obtain ⟨h1, h2, h3⟩ := h
    obtain ⟨a, vs, rfl, hq, hr⟩ := r2
    cases ry
    obtain ⟨its, rv, p, _⟩ := I.tuple hq
    refine in_tupleAt (eqBy X.K H dx) p (in_items I (show X.A.units + 1 + 70 < cLine by omega) h2 h1 hr rv r1 rx) ⟨.bl _, H, I, rfl, k _ (.bl _) H C (Stp.refl _ _) rl (repB _) ?_⟩
    have := any_eqBy (x := dx) I h2.1 hr rv
    rw [List.any_toArray, this]
    exact h3
  | ptr q =>
    obtain ⟨ds, hl, h1, h2, h3⟩ := h
    cases r2; cases ry
    obtain ⟨vs, hq, hr⟩ := hl.sq rl
    obtain ⟨its, rv, p, _⟩ := I.list hq
    refine in_listAt (eqBy X.K H dx) p.isList (in_items I (show X.A.units + 1 + 70 < cLine by omega) h2 h1 hr rv r1 rx) ⟨.bl _, H, I, rfl, k _ (.bl _) H C (Stp.refl _ _) rl (repB _) ?_⟩
    have := any_eqBy (x := dx) I h2.1 hr rv
    rw [List.any_toArray, this]
    exact h3
  | _ => exact False.elim h
theorem op_niD (hu : X.A.units + 80 < cLine) : OpD X B (compareOp .NotIn) (inR true) := by
  intro pins s σ H x y v u Q I rx ry h
  obtain ⟨dx, dy, C, Qd, r1, r2, rl, h, k⟩ := h
  cases dy with
  | tup ds =>
    obtain ⟨h1, h2, h3⟩ := h
    obtain ⟨a, vs, rfl, hq, hr⟩ := r2
    cases ry
    obtain ⟨its, rv, p, _⟩ := I.tuple hq
    refine notIn_tupleAt (eqBy X.K H dx) p (in_items I (show X.A.units + 1 + 70 < cLine by omega) h2 h1 hr rv r1 rx) ⟨.bl _, H, I, rfl, k _ (.bl _) H C (Stp.refl _ _) rl (repB _) ?_⟩
    have := any_eqBy (x := dx) I h2.1 hr rv
    rw [List.any_toArray, this]
    exact h3
  | ptr q =>
    obtain ⟨ds, hl, h1, h2, h3⟩ := h
    cases r2; cases ry
    obtain ⟨vs, hq, hr⟩ := hl.sq rl
    obtain ⟨its, rv, p, _⟩ := I.list hq
    refine notIn_listAt (eqBy X.K H dx) p.isList (in_items I (show X.A.units + 1 + 70 < cLine by omega) h2 h1 hr rv r1 rx) ⟨.bl _, H, I, rfl, k _ (.bl _) H C (Stp.refl _ _) rl (repB _) ?_⟩
    have := any_eqBy (x := dx) I h2.1 hr rv
    rw [List.any_toArray, this]
    exact h3
  | _ => exact False.elim h
/-- a sign in a text -/
def inSR (neg : Bool) : D → D → Cp → DQ → Prop := fun x y C Q => ∃ c l, x = .str [c] ∧ y = .str l ∧ Q (.bl (if neg then !decide (c ∈ l) else decide (c ∈ l))) C
theorem op_inSD : OpD X B (compareOp .In) (inSR false) := by
  intro pins s σ H x y v u Q I rx ry h
  obtain ⟨dx, dy, C, Qd, r1, r2, rl, ⟨c, l, e1, e2, h⟩, k⟩ := h
  subst e1 e2
  cases r1; cases r2
  exact op_in_sign pins s σ H _ _ v u Q I rx ry ⟨c, _, rfl, rfl, k _ (.bl (decide (c ∈ l))) H C (Stp.refl _ _) rl rfl h⟩
theorem op_niSD : OpD X B (compareOp .NotIn) (inSR true) := by
  intro pins s σ H x y v u Q I rx ry h
  obtain ⟨dx, dy, C, Qd, r1, r2, rl, ⟨c, l, e1, e2, h⟩, k⟩ := h
  subst e1 e2
  cases r1; cases r2
  exact op_notIn_sign pins s σ H _ _ v u Q I rx ry ⟨c, _, rfl, rfl, k _ (.bl (!decide (c ∈ l))) H C (Stp.refl _ _) rl rfl h⟩
/-- truths, by is -/
def isBR (neg : Bool) : D → D → Cp → DQ → Prop := fun x y C Q => ∃ a b, x = .bl a ∧ y = .bl b ∧ Q (.bl (if neg then !decide (a = b) else decide (a = b))) C
theorem op_isBD : OpD X B (compareOp .Is) (isBR false) := by
  intro pins s σ H x y v u Q I rx ry h
  obtain ⟨dx, dy, C, Qd, r1, r2, rl, ⟨a, b, e1, e2, h⟩, k⟩ := h
  subst e1 e2
  cases r1; cases r2
  exact op_is_bl pins s σ H _ _ v u Q I rx ry ⟨a, b, rfl, rfl, k _ (.bl _) H C (Stp.refl _ _) rl rfl h⟩
theorem op_isnBD : OpD X B (compareOp .IsNot) (isBR true) := by
  intro pins s σ H x y v u Q I rx ry h
  obtain ⟨dx, dy, C, Qd, r1, r2, rl, ⟨a, b, e1, e2, h⟩, k⟩ := h
  subst e1 e2
  cases r1; cases r2
  exact op_isnot_bl pins s σ H _ _ v u Q I rx ry ⟨a, b, rfl, rfl, k _ (.bl _) H C (Stp.refl _ _) rl rfl h⟩
variable {pos apos : Pos} {o i e f value : Expr} {to ti te tf tv : DE}
/-! ### dicts -/
def dGetI (to ti : DE) : DE := fun s C Q => to s C fun x C1 => ti s C1 fun y C2 => ∃ p d, x = .ptr p ∧ gotD C2 p y (some d) ∧ Q d C2
theorem gotD.there {C : Cp} {p : Addr} {y : D} {r : Option D} (h : gotD C p y r) : (∃ kvs, C p = some (.dk kvs)) ∨ ∃ kvs, C p = some (.dg kvs) := by
  rcases h with ⟨kvs, k, e, _⟩ | ⟨kvs, e, _⟩
  · exact .inl ⟨kvs, e⟩
  · exact .inr ⟨kvs, e⟩
theorem dict_is {pins : List (Addr × Obj)} {σ : L2.St} {H : Hp} {s : Shared} {C : Cp} (hB : B.P = X.prog ∧ B.w = X.w) (I : Inv X pins σ H s) (rl : Rl X.K B H C) {p : Addr} (h : (∃ kvs, C p = some (.dk kvs)) ∨ ∃ kvs, C p = some (.dg kvs)) : s.TypeIs (.ref p) "dict" ∧ ∃ ob, s.heap.get? p = some ob ∧ ob.dict = none := by
  rcases h with ⟨kvs, h⟩ | ⟨kvs, h⟩
  · obtain ⟨ws, e1, _⟩ := rl.ok _ _ h
    obtain ⟨_, _, vs, _, o, es, ep, ho, ex, _⟩ := dk_of I.hok e1
    exact ⟨⟨o, ho, ex.1⟩, o, ho, ex.2.1⟩
  · obtain ⟨xs, e1, ⟨o, es, ep, ho, ex, _⟩, _⟩ := dg_of hB I rl h
    exact ⟨⟨o, ho, ex.1⟩, o, ho, ex.2.1⟩
theorem j_dget (hB : B.P = X.prog ∧ B.w = X.w) (hu : X.A.units + 20 < cLine) (ho : JE X B o to) (hi : JE X B i ti) (hs : NoSl i := by exact fun _ _ => rfl) : JE X B (.Subscript o i pos) (dGetI to ti) := ⟨fun pins s σ H Q I h => by
  obtain ⟨sl, C, Qd, rs, rl, h, k⟩ := h
  refine subD_of PySem.F.slot_dict_getitem.lookup hs (thn (ho.run pins s σ H (fun x H1 => ∃ dx C1, Stp H C H1 C1 ∧ Rl X.K B H1 C1 ∧ Rep X.K H1 dx x ∧ ti sl C1 fun y C2 => ∃ p d, dx = .ptr p ∧ gotD C2 p y (some d) ∧ Qd d C2) I ⟨sl, C, _, rs, rl, h, fun v d H' C' st rl' r q => ⟨d, C', st, rl', r, q⟩⟩) fun u s1 ⟨x, H1, I1, rx, dx, C1, st1, rl1, r1, q1⟩ => ?_)
  refine thn (hi.run pins s1 σ H1 (fun y H2 => ∃ dy C2, Stp H1 C1 H2 C2 ∧ Rl X.K B H2 C2 ∧ Rep X.K H2 dy y ∧ ∃ p d, dx = .ptr p ∧ gotD C2 p dy (some d) ∧ Qd d C2) I1 ⟨sl, C1, _, rs.mono st1.tx, rl1, q1, fun v d H' C' st rl' r q => ⟨d, C', st, rl', r, q⟩⟩) fun iv s2 ⟨y, H2, I2, ry, dy, C2, st2, rl2, r2, p, d, e, g, q2⟩ => ?_
  subst e
  cases r1
  obtain rfl : u = Value.ref p := rx
  exact ⟨(dict_is hB I2 rl2 g.there).1, getItem_D hB hu I2 rl2 g r2 ry fun w' v s3 I3 rw' rv => ⟨v, H2, I3, rv, k v d H2 C2 (st1.trans st2) rl2 rw' q2⟩⟩⟩
def dPutI (to ti tv : DE) : DS := fun D s C => tv s C fun v C1 => to s C1 fun x C2 => ti s C2 fun y C3 => ∃ p C4, x = .ptr p ∧ putsD C3 p y v C4 ∧ D.nx s C4
theorem js_dput {pos' : Pos} (hB : B.P = X.prog ∧ B.w = X.w) (hu : X.A.units + 20 < cLine) (ho : JE X B o to) (hi : JE X B i ti) (hv : JE X B value tv) (hs : swapsWith value (some (.Subscript o i pos')) pos.line X.env = pure false := by rfl) :
    JS X B (.Assign [.Subscript o i pos'] value pos) (dPutI to ti tv) := ⟨fun pins s σ H D I h => by
  obtain ⟨sl, C, Dd, rs, rl, h, k⟩ := h
  refine wpAny_Assign_Subscript (thn (hv.run pins s σ H (fun x H1 => ∃ dv C1, Stp H C H1 C1 ∧ Rl X.K B H1 C1 ∧ Rep X.K H1 dv x ∧ to sl C1 fun x C2 => ti sl C2 fun y C3 => ∃ p C4, x = .ptr p ∧ putsD C3 p y dv C4 ∧ Dd.nx sl C4) I ⟨sl, C, _, rs, rl, h, fun v d H' C' st rl' r q => ⟨d, C', st, rl', r, q⟩⟩) fun z s1 ⟨v, H1, I1, rv, dv, C1, st1, rl1, r1, q1⟩ => ?_) hs
  refine thn (ho.run pins s1 σ H1 (fun x H2 => ∃ dx C2, Stp H1 C1 H2 C2 ∧ Rl X.K B H2 C2 ∧ Rep X.K H2 dx x ∧ ti sl C2 fun y C3 => ∃ p C4, dx = .ptr p ∧ putsD C3 p y dv C4 ∧ Dd.nx sl C4) I1 ⟨sl, C1, _, rs.mono st1.tx, rl1, q1, fun v d H' C' st rl' r q => ⟨d, C', st, rl', r, q⟩⟩) fun u s2 ⟨x, H2, I2, rx, dx, C2, st2, rl2, r2, q2⟩ => ?_
  refine thn (hi.run pins s2 σ H2 (fun y H3 => ∃ dy C3, Stp H2 C2 H3 C3 ∧ Rl X.K B H3 C3 ∧ Rep X.K H3 dy y ∧ ∃ p C4, dx = .ptr p ∧ putsD C3 p dy dv C4 ∧ Dd.nx sl C4) I2 ⟨sl, C2, _, rs.mono (st1.trans st2).tx, rl2, q2, fun v d H' C' st rl' r q => ⟨d, C', st, rl', r, q⟩⟩) fun iv s3 ⟨y, H3, I3, ry, dy, C3, st3, rl3, r3, p, C4, e, g, q3⟩ => ?_
  subst e
  cases r2
  obtain rfl : u = Value.ref p := rx
  exact setItem_D hB hu I3 rl3 g r3 ry (r1.mono (st2.trans st3).tx) rv fun H4 s4 I4 st4 rl4 => ⟨σ, H4, I4, k.nx _ _ H4 C4 (((st1.trans st2).trans st3).trans st4) rl4 (rs.mono (((st1.trans st2).trans st3).trans st4).tx) q3⟩⟩
end
end KB

/-! KB10: dict methods, join, isinstance, pop. -/
namespace KB
open PySem PySem.Spec PyProof.Rows SeqAt
open L2 hiding op_eqD op_neD
section
variable {X : Cx} {B : Bs} {pos apos : Pos} {o i e f value : Expr} {es : List Expr} {to ti te tf tv : DE} {tr : DA}
def isDk (C : Cp) (p : Addr) : Prop := (∃ kvs, C p = some (.dk kvs)) ∨ ∃ kvs, C p = some (.dg kvs)
def inDR (neg : Bool) : D → D → Cp → DQ → Prop := fun y x C Q => ∃ p r, x = .ptr p ∧ gotD C p y r ∧ Q (.bl (if neg then !r.isSome else r.isSome)) C
theorem op_inKD (hB : B.P = X.prog ∧ B.w = X.w) (hu : X.A.units + 20 < cLine) : OpD X B (compareOp .In) (inDR false) := by
  intro pins s σ H x y v u Q I rx ry h
  obtain ⟨dx, dy, C, Qd, r1, r2, rl, ⟨p, r, e, g, h⟩, k⟩ := h
  subst e
  cases r2; cases ry
  rcases g with ⟨kvs, kk, e, ey, er⟩ | ⟨kvs, e, hk, er⟩
  · subst ey
    obtain ⟨ws, e1, q⟩ := rl.ok _ _ e
    have hl := repK_look q kk
    have hx := keyD_val r1
    subst hx
    have hs : (valV ws (keyOf kk)).isSome = r.isSome := by
      rw [er]
      cases e2 : lookA kvs kk with
      | none => rw [e2] at hl; rw [hl]; rfl
      | some d => rw [e2] at hl; obtain ⟨v, e3, _⟩ := hl; rw [e3]; rfl
    exact d_in (by omega) I (DGet.k (k := keyOf kk) e1) rx fun s' I' => ⟨.bl _, H, I', rfl, k _ (.bl _) H C (Stp.refl _ _) rl (repB _) (by rw [hs]; exact h)⟩
  · obtain ⟨xs, e1, hm, q, kg, hz, lo⟩ := dg_of hB I rl e
    have hl := repG_look q dx
    obtain ⟨ds, hds⟩ := hk.1
    have hr' := r1
    rw [hds] at r1
    obtain ⟨b, vs, rfl, _, _⟩ := r1
    cases rx
    have hs : (atKey xs (nk dx)).isSome = r.isSome := by
      rw [er]
      cases e2 : lookG kvs dx with
      | none => rw [e2] at hl; rw [hl]; rfl
      | some d => rw [e2] at hl; obtain ⟨a, u, v, e3, _⟩ := hl; rw [e3]; rfl
    exact wpAny_in_heap (show X.A.units + 1 + 8 < cLine by omega) (key_is I hk hr') lo hm ⟨.bl _, H, I.tok _, rfl, k _ (.bl _) H C (Stp.refl _ _) rl (repB _) (by rw [hs]; exact h)⟩
theorem op_niKD (hB : B.P = X.prog ∧ B.w = X.w) (hu : X.A.units + 20 < cLine) : OpD X B (compareOp .NotIn) (inDR true) := by
  intro pins s σ H x y v u Q I rx ry h
  obtain ⟨dx, dy, C, Qd, r1, r2, rl, ⟨p, r, e, g, h⟩, k⟩ := h
  subst e
  cases r2; cases ry
  rcases g with ⟨kvs, kk, e, ey, er⟩ | ⟨kvs, e, hk, er⟩
  · subst ey
    obtain ⟨ws, e1, q⟩ := rl.ok _ _ e
    have hl := repK_look q kk
    have hx := keyD_val r1
    subst hx
    have hs : (valV ws (keyOf kk)).isSome = r.isSome := by
      rw [er]
      cases e2 : lookA kvs kk with
      | none => rw [e2] at hl; rw [hl]; rfl
      | some d => rw [e2] at hl; obtain ⟨v, e3, _⟩ := hl; rw [e3]; rfl
    exact d_notIn (by omega) I (DGet.k (k := keyOf kk) e1) rx fun s' I' => ⟨.bl _, H, I', rfl, k _ (.bl _) H C (Stp.refl _ _) rl (repB _) (by rw [hs]; exact h)⟩
  · obtain ⟨xs, e1, hm, q, kg, hz, lo⟩ := dg_of hB I rl e
    have hl := repG_look q dx
    obtain ⟨ds, hds⟩ := hk.1
    have hr' := r1
    rw [hds] at r1
    obtain ⟨b, vs, rfl, _, _⟩ := r1
    cases rx
    have hs : (atKey xs (nk dx)).isSome = r.isSome := by
      rw [er]
      cases e2 : lookG kvs dx with
      | none => rw [e2] at hl; rw [hl]; rfl
      | some d => rw [e2] at hl; obtain ⟨a, u, v, e3, _⟩ := hl; rw [e3]; rfl
    show wpAny _ _ (do return Value.bool (!(← contains (.ref p) (.ref b)))) _ _ s
    exact wpAny_bind (wpAny_contains_heap (show X.A.units + 1 + 8 < cLine by omega) (key_is I hk hr') lo hm (wpAny_pure ⟨.bl _, H, I.tok _, rfl, k _ (.bl _) H C (Stp.refl _ _) rl (repB _) (by rw [hs]; exact h)⟩))
/-- a dict's method -/
def dBMd (r : D → List D → Cp → DQ → Prop) (to : DE) (t : DA) : DE := fun s C Q => to s C fun d C1 => (∃ p, d = .ptr p ∧ isDk C1 p) ∧ t s C1 fun ds C2 => r d ds C2 Q
theorem j_bmd {name : Str} {id : String} {r : D → List D → Cp → DQ → Prop} (hB : B.P = X.prog ∧ B.w = X.w) (slot : Slot "dict" name id) (hty : typeOf (.builtin id) = pure (.type "method_descriptor")) (hm : MtD X B id r) (ho : JE X B o to) (ha : JA X B (e :: es) tr)
    (hbase : attributeBase o name X.env (eval o X.env) = eval o X.env := by rfl)
    (hfew : ((backTo pos (starEach (e :: es) X.env)).all (fun x => !x.1) && (backToKw pos (keywordEach [] X.env)).all (fun x => x.1.isSome)
      && decide ((e :: es).length + ([] : List Keyword).length + (if ([] : List Keyword).isEmpty then 0 else 1) < 30)) = true := by rfl)
    (hline : (apos.endLine == pos.line) = true := by rfl) (hs : starEach (e :: es) X.env = (false, eval e X.env) :: starEach es X.env := by rfl) (hplain : (backTo pos (starEach es X.env)).any (·.1) = false := by rfl) :
    JE X B (.Call (.Attribute o name apos) (e :: es) [] pos) (dBMd r to tr) := ⟨fun pins s σ H Q I h => by
  obtain ⟨sl, C, Qd, rs, rl, h, k⟩ := h
  refine wpAny_Call_method_late hbase hfew hline rfl (thn (ho.run pins s σ H (fun x H1 => ∃ dx C1, Stp H C H1 C1 ∧ Rl X.K B H1 C1 ∧ Rep X.K H1 dx x ∧ (∃ p, dx = .ptr p ∧ isDk C1 p) ∧ tr sl C1 fun ds C2 => r dx ds C2 Qd) I ⟨sl, C, _, rs, rl, h, fun v d H' C' st rl' r q => ⟨d, C', st, rl', r, q⟩⟩) fun v s1 ⟨x, H1, I1, r1, dx, C1, st1, rl1, rd, ⟨p, ed, hd⟩, q1⟩ => ?_)
  subst ed
  cases rd; cases r1
  obtain ⟨h1, ob, h2, h3⟩ := dict_is hB I1 rl1 hd
  refine ⟨"dict", id, PySem.F.plainAttrs_dict, slot, hty, h1, fun a e => by cases e; exact ⟨ob, h2, h3⟩, ?_⟩
  have hA := ha.run pos pins s1 σ H1 (fun vs H2 => ∃ ds C2, Stp H1 C1 H2 C2 ∧ Rl X.K B H2 C2 ∧ Reps X.K H2 ds vs ∧ r (.ptr p) ds C2 Qd) I1 ⟨sl, C1, _, rs.mono st1.tx, rl1, q1, fun vs ds H' C' st rl' r q => ⟨ds, C', st, rl', r, q⟩⟩
  rw [hs] at hA ⊢
  refine Calls.callWith_builtin (by show (false || (backTo pos (starEach es X.env)).any (·.1)) = false; rw [hplain] <;> rfl) (Calls.evalArgs_plain ?_)
  exact thn hA fun us s2 ⟨vs, H2, I2, r2, ds, C2, st2, rl2, rds, q2⟩ => hm pins s2 σ H2 (.ref p) vs _ us Q I2 rfl r2 ⟨.ptr p, ds, C2, Qd, repP p, rds, rl2, q2, fun v e H' C' st => k v e H' C' ((st1.trans st2).trans st)⟩⟩
def getR : D → List D → Cp → DQ → Prop := fun d ds C Q => ∃ p y z r, d = .ptr p ∧ (ds = [y, z] ∨ ds = [y] ∧ z = .non) ∧ gotD C p y r ∧ Q (r.getD z) C
theorem mt_getD (hB : B.P = X.prog ∧ B.w = X.w) (hu : X.A.units + 20 < cLine) : MtD X B "dict.get" getR := by
  intro pins s σ H x xs v us Q I rx rs h
  obtain ⟨d, ds, C, Qd, r1, r2, rl, ⟨p, y, z, r, ed, eds, g, h⟩, k⟩ := h
  subst ed
  cases r1; cases rx
  have key : ∃ yv uy zv uz, Rep X.K H y yv ∧ RelV yv uy ∧ Rep X.K H z zv ∧ RelV zv uz ∧ (us = [uy, uz] ∨ us = [uy] ∧ z = .non ∧ uz = .none) := by
    rcases eds with e | ⟨e, ez⟩
    · subst e
      obtain ⟨yv, r3, rfl, a1, zv, r4, rfl, a2, hn⟩ := r2
      cases hn
      obtain ⟨uy, uz, rfl, b1, b2⟩ := vals2 rs
      exact ⟨yv, uy, zv, uz, a1, b1, a2, b2, .inl rfl⟩
    · subst e ez
      obtain ⟨yv, r3, rfl, a1, hn⟩ := r2
      cases hn
      obtain ⟨uy, rfl, b1⟩ := vals1 rs
      exact ⟨yv, uy, .non, .none, a1, b1, rfl, rfl, .inr ⟨rfl, rfl, rfl⟩⟩
  obtain ⟨yv, uy, zv, uz, a1, b1, a2, b2, hus⟩ := key
  rcases g with ⟨kvs, kk, e, ey, er⟩ | ⟨kvs, e, hk, er⟩
  · subst ey
    obtain ⟨ws, e1, q⟩ := rl.ok _ _ e
    have hl := repK_look q kk
    have hx := keyD_val a1
    subst hx
    have fin : ∀ w' s', Inv X pins σ H s' → RelV ((valV ws (keyOf kk)).getD zv) w' → EP X pins σ Q w' s' := fun w' s' I' rw' => by
      refine ⟨_, H, I', rw', k _ (r.getD z) H C (Stp.refl _ _) rl ?_ h⟩
      rw [er]
      cases e2 : lookA kvs kk with
      | none => rw [e2] at hl; rw [hl]; exact a2
      | some d => rw [e2] at hl; obtain ⟨v, e3, hv⟩ := hl; rw [e3]; exact hv
    rcases hus with e | ⟨e, ez, eu⟩
    · subst e
      exact d_get2 (by omega) I (DGet.k (k := keyOf kk) e1) b1 b2 fin
    · subst e ez eu
      cases a2
      exact d_get1 (by omega) I (DGet.k (k := keyOf kk) e1) b1 fin
  · obtain ⟨xs, e1, hm, q, kg, hz, lo⟩ := dg_of hB I rl e
    have hl := repG_look q y
    obtain ⟨dd, hds⟩ := hk.1
    have hr' := a1
    rw [hds] at a1
    obtain ⟨b, vs, rfl, _, _⟩ := a1
    cases b1
    have fin : ∀ s', Inv X pins σ H s' → EP X pins σ Q (((atKey xs (nk y)).map (·.2)).getD uz) s' := fun s' I' => by
      cases e2 : lookG kvs y with
      | none =>
        rw [e2] at hl er
        rw [hl]
        subst er
        exact ⟨zv, H, I', b2, k _ z H C (Stp.refl _ _) rl a2 h⟩
      | some d =>
        rw [e2] at hl er
        obtain ⟨a, u, v, e3, hv, hr⟩ := hl
        rw [e3]
        subst er
        exact ⟨v, H, I', hr, k _ d H C (Stp.refl _ _) rl hv h⟩
    rcases hus with e | ⟨e, ez, eu⟩
    · subst e
      exact call_meetsIn PySem.F.slot_dict_get hm.typeIs PySem.F.entry_dict_get (PySem.F.args_dict_get_3 _ _ _) (meetsH_dict_get_default (nestedKind X.prog X.w) p b lo uz) ⟨(show X.A.units + 1 + 8 < cLine by omega), nk y, xs, key_is I hk hr', hm, fin _ (I.tok _)⟩
    · subst e ez eu
      exact call_meetsIn PySem.F.slot_dict_get hm.typeIs PySem.F.entry_dict_get (PySem.F.args_dict_get_2 _ _) (meetsH_dict_get (nestedKind X.prog X.w) p b lo) ⟨(show X.A.units + 1 + 8 < cLine by omega), nk y, xs, key_is I hk hr', hm, fin _ (I.tok _)⟩
/-- a new dict for keys that are tuples -/
def dEmpG : DE := fun _ C Q => ∀ p, C p = none → Q (.ptr p) (up C p (.dg []))
theorem j_empG (hB : B.P = X.prog ∧ B.w = X.w) : JE X B (.Dict [] [] pos) dEmpG := ⟨fun pins s σ H Q I h => by
  obtain ⟨sl, C, Qd, rs, rl, h, k⟩ := h
  have hn := I.hok.fresh (Nat.le_refl s.heap.objs.size)
  have cn : C s.heap.objs.size = none := rl.fresh hn
  refine wpAny_Dict_empty ⟨.ref s.heap.objs.size, _, I.laid (a := s.heap.objs.size) (o := DgObj X.prog X.w s.heap.objs.size []) (t' := s.toks) (fun _ _ q => Heap.get?_push_of_some _ q) (Nat.le_refl _) ?_, rfl, ?_⟩
  · exact ⟨⟨_, #[], 0, Heap.get?_push_size _ rfl, ⟨rfl, rfl, rfl⟩, rfl, rfl, List.nodup_nil, Nat.zero_le _, beq_eq_false_iff_ne.mpr (Ne.symm (Nat.ne_of_lt I.big))⟩, ⟨_, Heap.get?_push_size _ rfl⟩, fun ha hb ⟨o, es, ep, a1, a2⟩ k => ⟨o, es, ep, k o a1, a2⟩⟩
  · refine k _ (.ptr s.heap.objs.size) _ (up C s.heap.objs.size (.dg [])) (stp_put (by rw [hn]; exact id) (.inr hn)) (rl.putNew hn ?_) rfl (h _ cn)
    rw [hB.1, hB.2]
    exact ⟨[], upd_same, .nil, fun q hq => nomatch hq⟩⟩
/-! ### join -/
def joinD (sep : List Nat) : List (List Nat) → List Nat := TL.joinL sep
def joinR : D → List D → Cp → DQ → Prop := fun d ds C Q => ∃ (a : List Nat) (x : D) (ys : List (List Nat)), d = .str a ∧ ds = [x] ∧ itemsD C x (ys.map D.str) ∧ (ys.map List.length).sum + ys.length * a.length ≤ 16777216 ∧ Q (.str (joinD a ys)) C
theorem mt_joinD : MtD X B "str.join" joinR := by
  intro pins s σ H x xs v us Q I rx rs h
  obtain ⟨d, ds, C, Qd, r1, r2, rl, ⟨a, x1, ys, ed, eds, hi, hz, h⟩, k⟩ := h
  subst ed eds
  cases r1
  obtain ⟨w, r3, rfl, hw, hn⟩ := r2
  cases hn
  have fin : Q (.str (Txt.join ⟨a.toArray⟩ (ys.map sOf))) H := by
    refine k _ (.str (joinD a ys)) H C (Stp.refl _ _) rl ?_ h
    show V.str _ = V.str _
    congr 1
    rw [TL.join_eq]
    refine TL.ext_tl ?_
    rw [TL.tl_join]
    show TL.joinL a ((ys.map sOf).map TL.tl) = joinD a ys
    rw [List.map_map]
    have : (TL.tl ∘ sOf) = id := by funext l; rfl
    rw [this, List.map_id]
    rfl
  have hz2 : ((ys.map sOf).map (·.length)).sum + (ys.map sOf).length * (⟨a.toArray⟩ : Str).length ≤ 16777216 := by
    rw [List.map_map, List.length_map]
    have : ((fun x : Str => x.length) ∘ sOf) = List.length := by funext l; simp [Str.length]
    rw [this]
    simpa [Str.length] using hz
  cases x1 with
  | tup es =>
    have hi : ys.map D.str = es := hi
    subst hi
    obtain ⟨p, vs, rfl, hq, hr⟩ := hw
    rw [hr.strs] at hq
    exact mt_join pins s σ H _ _ v us Q I rx rs ⟨_, p, ys.map sOf, rfl, rfl, .inr hq, hz2, fin⟩
  | ptr p =>
    cases hw
    obtain ⟨vs, hq, hr⟩ := isL.sq rl hi
    rw [hr.strs] at hq
    exact mt_join pins s σ H _ _ v us Q I rx rs ⟨_, p, ys.map sOf, rfl, rfl, .inl hq, hz2, fin⟩
  | _ => exact False.elim hi
/-! ### pop -/
theorem mt_popAtD : MtD X B "list.pop" popAtR := by
  intro pins s σ H x xs v us Q I rx rs h
  obtain ⟨d, ds, C, Qd, r1, r2, rl, ⟨p, ys, i, kk, y, e1, e2, hc, h1, h2, h3, h4, h⟩, k⟩ := h
  subst e1 e2
  cases r1
  obtain ⟨w, r3, rfl, hw, hn⟩ := r2
  cases hn; cases hw
  obtain ⟨vs, hp, hr⟩ := rl.cells hc
  obtain ⟨a1, a2⟩ := rl.setL hc hp (reps_eraseIdx kk hr)
  obtain ⟨yv, b1, b2⟩ := hr.get h4
  exact mt_popAt pins s σ H _ _ v us Q I rx rs ⟨p, vs, i, kk, yv, rfl, rfl, hp, h1, h2, by rw [← hr.length]; exact h3, b1, k _ _ _ _ a1 a2 (b2.mono a1.tx) h⟩
/-- pop() -/
def popR : D → List D → Cp → DQ → Prop := fun d ds C Q => ∃ p xs y, d = .ptr p ∧ ds = [] ∧ C p = some (.lst xs) ∧ xs[xs.length - 1]? = some y ∧ Q y (up C p (.lst xs.dropLast))
theorem reps_dropLast {K : PySem.W.Frag} {H : Hp} {ds : List D} {vs : List V} (h : Reps K H ds vs) : Reps K H ds.dropLast vs.dropLast := by
  rw [List.dropLast_eq_take, List.dropLast_eq_take, h.length]
  exact h.take _
theorem mt_popD : MtD X B "list.pop" popR := by
  intro pins s σ H x xs v us Q I rx rs h
  obtain ⟨d, ds, C, Qd, r1, r2, rl, ⟨p, ys, y, e1, e2, hc, h4, h⟩, k⟩ := h
  subst e1 e2
  cases r1; cases r2
  obtain ⟨vs, hp, hr⟩ := rl.cells hc
  obtain ⟨a1, a2⟩ := rl.setL hc hp (reps_dropLast hr)
  obtain ⟨yv, b1, b2⟩ := hr.get h4
  exact mt_pop pins s σ H _ _ v us Q I rx rs ⟨p, vs, yv, rfl, rfl, hp, by rw [← hr.length]; exact b1, k _ _ _ _ a1 a2 (b2.mono a1.tx) h⟩
/-! ### isinstance of built-in classes -/
def nameD (C : Cp) : D → String → Prop
  | .non, n => n = "NoneType"
  | .bl _, n => n = "bool"
  | .int _, n => n = "int"
  | .str _, n => n = "str"
  | .tup _, n => n = "tuple"
  | .ptr p, n => (n = "list" ∧ ∃ ds, isL C p ds) ∨ (n = "dict" ∧ ∃ kvs, C p = some (.dk kvs))
  | .ty _, _ => False
theorem nameD_ok {H : Hp} {C : Cp} (rl : Rl X.K B H C) {d : D} {x : V} {n : String} (r : Rep X.K H d x) (h : nameD C d n) : TyX X.K H x (.type n) := by
  cases d with
  | non => cases r; cases (show n = "NoneType" from h); exact .base .non
  | bl b => cases r; cases (show n = "bool" from h); exact .base (.bl _)
  | int b => cases r; cases (show n = "int" from h); exact .base (.int _)
  | str b => cases r; cases (show n = "str" from h); exact .base (.str _)
  | tup ds =>
    cases (show n = "tuple" from h)
    obtain ⟨a, vs, rfl, hq, _⟩ := r
    rcases hq with (hq | ⟨o, hq⟩) | ⟨o, its, k, hq, hc, _⟩
    · exact .base (.tup hq)
    · exact .fTuple hq
    · exact .kTuple hq hc
  | ptr p =>
    cases r
    rcases h with ⟨e, ds, h | h⟩ | ⟨e, kvs, h⟩
    · subst e
      obtain ⟨vs, q, _⟩ := rl.ok _ _ h
      exact .base (.lst q)
    · subst e
      obtain ⟨o, vs, q, _⟩ := rl.ok _ _ h
      exact .base (.frz q)
    · subst e
      obtain ⟨vs, q, _⟩ := rl.ok _ _ h
      exact .base (.dK q)
  | ty _ => exact h.elim
def isiR : List D → Cp → DQ → Prop := fun ds C Q => ∃ d tb n b, ds = [d, .ty tb] ∧ nameD C d n ∧ kitB n tb = some b ∧ Q (.bl b) C
theorem call_isiD : CallD X B (.builtin "isinstance") isiR := by
  intro pins s σ H xs us Q I rx h
  obtain ⟨ds, C, Qd, r, rl, ⟨d, tb, n, b, e, hn, hk, h⟩, k⟩ := h
  subst e
  obtain ⟨x, r2, rfl, hx, y, r3, rfl, hy, hnil⟩ := r
  cases hnil; cases hy
  exact call_isi pins s σ H _ us Q I rx ⟨x, .ty tb, .type n, .type tb, b, rfl, .ty tb, nameD_ok rl hx hn, kit_ty hk, k _ (.bl b) H C (Stp.refl _ _) rl rfl h⟩
theorem j_tyName {x : Str} (n : String) (hm : X.mg x = none) (hv : bootBuiltins x = some (.type n)) (hg : Gl X x := by rfl) (hn : x ≠ "__name__" := by decide) (hdb : (x == ("__debug__" : Str)) = false := by decide) : JE X B (.Name x pos) (dC (.ty n)) := j_const (.ty n) (pe_bltn (v := .ty n) hg hm hv rfl hn hdb) fun _ _ => rfl
end
end KB

/-! KB11: stores into lists and dicts, parallel assignments, displays of dicts, op=. -/
namespace KB
open PySem PySem.Spec PyProof.Rows SeqAt
open L2 hiding op_eqD op_neD
section
variable {X : Cx} {B : Bs} {pos apos tpos : Pos} {o i e f value a b c : Expr} {es : List Expr} {to ti te tf tv ta tb : DE} {tr : DA}
/-! ### o[i] = v -/
def setsD (C : Cp) (p : Addr) (y v : D) (C' : Cp) : Prop := (∃ xs k j, C p = some (.lst xs) ∧ y = .int k ∧ ixN xs.length k = some j ∧ C' = up C p (.lst (xs.set j v))) ∨ putsD C p y v C'
def setR : D → D → D → Cp → (Cp → Prop) → Prop := fun x y v C Q => ∃ p C', x = .ptr p ∧ setsD C p y v C' ∧ Q C'
def lSet (K : PySem.W.Frag) (B : Bs) (r : D → D → D → Cp → (Cp → Prop) → Prop) : TSet := fun x y v H Q => ∃ dx dy dv C Qd, Rep K H dx x ∧ Rep K H dy y ∧ Rep K H dv v ∧ Rl K B H C ∧ r dx dy dv C Qd ∧ ∀ H' C', Stp H C H' C' → Rl K B H' C' → Qd C' → Q H'
theorem set_D (hB : B.P = X.prog ∧ B.w = X.w) (hu : X.A.units + 20 < cLine) : PSet X (lSet X.K B setR) := by
  intro pins s σ H x y v xv yv u Q I rx ry rv h
  obtain ⟨dx, dy, dv, C, Qd, r1, r2, r3, rl, ⟨p, C', ex, g, q⟩, k⟩ := h
  subst ex
  cases r1
  rcases g with ⟨xs, kk, j, hc, ey, hj, eC⟩ | g
  · subst ey eC
    cases r2
    obtain ⟨vs, hp, hr⟩ := rl.cells hc
    obtain ⟨a1, a2⟩ := rl.setL hc hp (hr.set r3 j)
    exact set_list pins s σ H _ _ v _ _ u Q I rx ry rv ⟨p, vs, kk, j, rfl, rfl, hp, by rw [← hr.length]; exact hj, k _ _ a1 a2 q⟩
  · obtain rfl : xv = Value.ref p := rx
    exact setItem_D hB hu I rl g r2 ry r3 rv fun H4 s4 I4 st4 rl4 => ⟨H4, I4, k H4 C' st4 rl4 q⟩
def dSetI (to ti tv : DE) : DS := fun D s C => tv s C fun v C1 => to s C1 fun x C2 => ti s C2 fun y C3 => setR x y v C3 fun C4 => D.nx s C4
theorem js_sset {pos' : Pos} (hB : B.P = X.prog ∧ B.w = X.w) (hu : X.A.units + 20 < cLine) (ho : JE X B o to) (hi : JE X B i ti) (hv : JE X B value tv) (hs : swapsWith value (some (.Subscript o i pos')) pos.line X.env = pure false := by rfl) :
    JS X B (.Assign [.Subscript o i pos'] value pos) (dSetI to ti tv) := ⟨fun pins s σ H D I h => by
  obtain ⟨sl, C, Dd, rs, rl, h, k⟩ := h
  refine wpAny_Assign_Subscript (thn (hv.run pins s σ H (fun x H1 => ∃ dv C1, Stp H C H1 C1 ∧ Rl X.K B H1 C1 ∧ Rep X.K H1 dv x ∧ to sl C1 fun x C2 => ti sl C2 fun y C3 => setR x y dv C3 fun C4 => Dd.nx sl C4) I ⟨sl, C, _, rs, rl, h, fun v d H' C' st rl' r q => ⟨d, C', st, rl', r, q⟩⟩) fun z s1 ⟨v, H1, I1, rv, dv, C1, st1, rl1, r1, q1⟩ => ?_) hs
  refine thn (ho.run pins s1 σ H1 (fun x H2 => ∃ dx C2, Stp H1 C1 H2 C2 ∧ Rl X.K B H2 C2 ∧ Rep X.K H2 dx x ∧ ti sl C2 fun y C3 => setR dx y dv C3 fun C4 => Dd.nx sl C4) I1 ⟨sl, C1, _, rs.mono st1.tx, rl1, q1, fun v d H' C' st rl' r q => ⟨d, C', st, rl', r, q⟩⟩) fun u s2 ⟨x, H2, I2, rx, dx, C2, st2, rl2, r2, q2⟩ => ?_
  refine thn (hi.run pins s2 σ H2 (fun y H3 => ∃ dy C3, Stp H2 C2 H3 C3 ∧ Rl X.K B H3 C3 ∧ Rep X.K H3 dy y ∧ setR dx dy dv C3 fun C4 => Dd.nx sl C4) I2 ⟨sl, C2, _, rs.mono (st1.trans st2).tx, rl2, q2, fun v d H' C' st rl' r q => ⟨d, C', st, rl', r, q⟩⟩) fun iv s3 ⟨y, H3, I3, ry, dy, C3, st3, rl3, r3, q3⟩ => ?_
  refine thn (set_D hB hu pins s3 σ H3 x y v u iv z (fun H4 => ∃ C4, Stp H3 C3 H4 C4 ∧ Rl X.K B H4 C4 ∧ Dd.nx sl C4) I3 rx ry rv ⟨dx, dy, dv, C3, _, r2.mono st3.tx, r3, r1.mono (st2.trans st3).tx, rl3, q3, fun H' C' st rl' q => ⟨C', st, rl', q⟩⟩) fun _ s4 ⟨H4, I4, C4, st4, rl4, q4⟩ => ?_
  exact ⟨σ, H4, I4, k.nx _ _ H4 C4 (((st1.trans st2).trans st3).trans st4) rl4 (rs.mono (((st1.trans st2).trans st3).trans st4).tx) q4⟩⟩
def gSubD (to ti : DE) : DG := fun d s C Q => to s C fun x C1 => ti s C1 fun y C2 => setR x y d C2 fun C3 => Q s C3
theorem jg_sub (hB : B.P = X.prog ∧ B.w = X.w) (hu : X.A.units + 20 < cLine) (ho : JE X B o to) (hi : JE X B i ti)
    (ha : ∀ v, assign (.Subscript o i pos) X.env v = (do let ov ← holding [v] (eval o X.env); let iv ← holding [v, ov] (eval i X.env); standAt pos; holding [v, ov, iv] (setItem ov iv v); release [v, ov, iv] []) := by intro _; rfl) :
    JG X B (.Subscript o i pos) (gSubD to ti) := ⟨fun pins s σ H v u Q I r h => by
  obtain ⟨d, sl, C, Qd, rd, rs, rl, h, k⟩ := h
  rw [ha]
  refine wpAny_bind (wpAny_holding (thn (ho.run pins s σ H (fun x H2 => ∃ dx C2, Stp H C H2 C2 ∧ Rl X.K B H2 C2 ∧ Rep X.K H2 dx x ∧ ti sl C2 fun y C3 => setR dx y d C3 fun C4 => Qd sl C4) I ⟨sl, C, _, rs, rl, h, fun v d H' C' st rl' r q => ⟨d, C', st, rl', r, q⟩⟩) fun ov s1 ⟨x, H1, I1, rx, dx, C1, st1, rl1, r1, q1⟩ => ?_))
  refine wpAny_bind (wpAny_holding (thn (hi.run pins s1 σ H1 (fun y H3 => ∃ dy C3, Stp H1 C1 H3 C3 ∧ Rl X.K B H3 C3 ∧ Rep X.K H3 dy y ∧ setR dx dy d C3 fun C4 => Qd sl C4) I1 ⟨sl, C1, _, rs.mono st1.tx, rl1, q1, fun v d H' C' st rl' r q => ⟨d, C', st, rl', r, q⟩⟩) fun iv s2 ⟨y, H2, I2, ry, dy, C2, st2, rl2, r2, q2⟩ => ?_))
  refine wpAny_bind (wpAny_standAt (wpAny_bind (wpAny_holding (thn (set_D hB hu pins s2 σ H2 x y v ov iv u (fun H4 => ∃ C4, Stp H2 C2 H4 C4 ∧ Rl X.K B H4 C4 ∧ Qd sl C4) I2 rx ry r ⟨dx, dy, d, C2, _, r1.mono st2.tx, r2, rd.mono (st1.trans st2).tx, rl2, q2, fun H' C' st rl' q => ⟨C', st, rl', q⟩⟩) fun _ s4 ⟨H4, I4, C4, st4, rl4, q4⟩ => ?_))))
  exact wpAny_release ⟨σ, H4, I4, k _ _ H4 C4 ((st1.trans st2).trans st4) rl4 (rs.mono ((st1.trans st2).trans st4).tx) q4⟩⟩
/-! ### a, b = x, y -/
theorem js_par {i j : Nat} {x y : Str} {px py pt : Pos} {kt k2 pt2} (hc : X.calm = true) (hN : X.N.Nodup) (ha : JA X B [a, b] tr) (hi : X.N[i]? = some x := by rfl) (hj : X.N[j]? = some y := by rfl) (hij : i ≠ j := by decide)
    (hx : X.env.scope.names.lookup x = some .local := by rfl) (hy : X.env.scope.names.lookup y = some .local := by rfl)
    (hw : swappedStores [.Tuple [.Name x px, .Name y py] kt pt] (.Tuple [a, b] k2 pt2) X.env = pure (some [x, y]) := by rfl)
    (hs : swapsWithSole [.Tuple [.Name x px, .Name y py] kt pt] (.Tuple [a, b] k2 pt2) pos.line X.env = pure false := by rfl) :
    JS X B (.Assign [.Tuple [.Name x px, .Name y py] kt pt] (.Tuple [a, b] k2 pt2) pos) (dPar i j tr) := PS.imp (ps_par hc hN hi hj hij hx hy ha hw hs) fun D σ H h => by
  obtain ⟨sl, C, Dd, rs, rl, h, k⟩ := h
  refine ⟨sl, C, _, rs, rl, h, fun vs ds H1 C1 st1 rl1 r ⟨d1, d2, e, q⟩ => ?_⟩
  subst e
  obtain ⟨v, r', rfl, h1, w, r'', rfl, h2, hn⟩ := r
  cases hn
  exact ⟨v, w, rfl, k.nx _ _ H1 C1 st1 rl1 (((rs.mono st1.tx).setD h1 i).setD h2 j) q⟩
def dPar3 (i j l : Nat) (ta : DA) : DS := fun D s C => ta s C fun ds C1 => ∃ u v w, ds = [u, v, w] ∧ D.nx (((s.set i (some u)).set j (some v)).set l (some w)) C1
theorem js_par3 {i j l : Nat} {x y z : Str} {px py pz pt : Pos} {kt k2 pt2} (hc : X.calm = true) (hN : X.N.Nodup) (ha : JA X B [a, b, c] tr) (hi : X.N[i]? = some x := by rfl) (hj : X.N[j]? = some y := by rfl) (hl : X.N[l]? = some z := by rfl) (hij : i ≠ j := by decide) (hil : i ≠ l := by decide) (hjl : j ≠ l := by decide)
    (hx : X.env.scope.names.lookup x = some .local := by rfl) (hy : X.env.scope.names.lookup y = some .local := by rfl) (hz : X.env.scope.names.lookup z = some .local := by rfl)
    (hw : swappedStores [.Tuple [.Name x px, .Name y py, .Name z pz] kt pt] (.Tuple [a, b, c] k2 pt2) X.env = pure (some [x, y, z]) := by rfl)
    (hs : swapsWithSole [.Tuple [.Name x px, .Name y py, .Name z pz] kt pt] (.Tuple [a, b, c] k2 pt2) pos.line X.env = pure false := by rfl) :
    JS X B (.Assign [.Tuple [.Name x px, .Name y py, .Name z pz] kt pt] (.Tuple [a, b, c] k2 pt2) pos) (dPar3 i j l tr) := PS.imp (ps_par3 hc hN hi hj hl hij hil hjl hx hy hz ha hw hs) fun D σ H h => by
  obtain ⟨sl, C, Dd, rs, rl, h, k⟩ := h
  refine ⟨sl, C, _, rs, rl, h, fun vs ds H1 C1 st1 rl1 r ⟨d1, d2, d3, e, q⟩ => ?_⟩
  subst e
  obtain ⟨v, r', rfl, h1, w, r'', rfl, h2, u, r3, rfl, h3, hn⟩ := r
  cases hn
  exact ⟨v, w, u, rfl, k.nx _ _ H1 C1 st1 rl1 ((((rs.mono st1.tx).setD h1 i).setD h2 j).setD h3 l) q⟩
/-! ### name += e -/
abbrev IpD (X : Cx) (B : Bs) (op : Operator) (r : D → D → Cp → DQ → Prop) : Prop := PIp X op (lR X.K B r)
def addI : D → D → Cp → DQ → Prop := fun x y C Q => ∃ i j, x = .int i ∧ y = .int j ∧ Q (.int (i + j)) C
theorem ip_addD : IpD X B .Add addI := by
  intro pins s σ H x y v u Q I rx ry h
  obtain ⟨dx, dy, C, Qd, r1, r2, rl, ⟨a, b, ex, ey, h⟩, k⟩ := h
  subst ex ey
  cases r1; cases r2
  exact ip_add pins s σ H _ _ v u Q I rx ry ⟨a, b, rfl, rfl, k _ (.int (a + b)) H C (Stp.refl _ _) rl rfl h⟩
def dAug (i : Nat) (te : DE) (r : D → D → Cp → DQ → Prop) : DS := fun D s C => ∃ x, s[i]? = some (some x) ∧ te s C fun y C1 => r x y C1 fun z C2 => D.nx (s.set i (some z)) C2
theorem js_aug {i : Nat} {x : Str} {op : Operator} {r : D → D → Cp → DQ → Prop} {pos' : Pos} (hN : X.N.Nodup) (ho : IpD X B op r) (he : JE X B e te) (hi : X.N[i]? = some x := by rfl) (hx : Loc X.env.scope x := by first | exact .inl rfl | exact .inr rfl) (hf : X.fn x = true ∨ X.env.scope.names.lookup x = some .local := by first | exact .inl rfl | exact .inr rfl | assumption) :
    JS X B (.AugAssign (.Name x pos') op e pos) (dAug i te r) := PS.imp (ps_aug hN hi hx he ho hf) fun D σ H h => by
  obtain ⟨sl, C, Dd, rs, rl, ⟨d, e1, h⟩, k⟩ := h
  obtain ⟨v, e2, rv⟩ := rs.get e1
  refine ⟨v, e2, sl, C, _, rs, rl, h, fun w dw H1 C1 st1 rl1 r1 q => ?_⟩
  exact ⟨d, dw, C1, _, rv.mono st1.tx, r1, rl1, q, fun z dz H2 C2 st2 rl2 r2 q2 => k.nx _ _ H2 C2 (st1.trans st2) rl2 ((rs.mono (st1.trans st2).tx).setD r2 i) q2⟩
/-! ### {k: v, ..} -/
def dPairs : List (DE × DE) → Sl → Cp → (List (D × D) → Cp → Prop) → Prop
  | [], _, C, Q => Q [] C
  | (tk, tv) :: r, s, C, Q => tk s C fun x C1 => tv s C1 fun y C2 => dPairs r s C2 fun ps C3 => Q ((x, y) :: ps) C3
def RepP (K : PySem.W.Frag) (H : Hp) : List (D × D) → List (V × V) → Prop := Paired fun p q => Rep K H p.1 q.1 ∧ Rep K H p.2 q.2
structure JPs (X : Cx) (B : Bs) (pos : Pos) (keys : List (Option Expr)) (values : List Expr) (trs : List (DE × DE)) : Prop where
  run : ∀ (pins : List (Addr × Obj)) (s : Shared) (σ : L2.St) (H : Hp) (sl : Sl) (C : Cp) (Qd : List (D × D) → Cp → Prop), L2.Inv X pins σ H s → RepS X.K H sl σ → Rl X.K B H C → dPairs trs sl C Qd →
    wpAny (model X.prog X.w) X.A (evalPairs (pairTrees keys values X.env pos)) (fun vs s' => ∃ ps ds H' C', L2.Inv X pins σ H' s' ∧ VV ps vs ∧ RepP X.K H' ds ps ∧ Stp H C H' C' ∧ Rl X.K B H' C' ∧ Qd ds C') X.xe s
theorem jps_nil : JPs X B pos [] [] [] := ⟨fun pins s σ H sl C Qd I rs rl h => pairTrees_nil_walk ⟨[], [], H, C, I, .nil, .nil, Stp.refl _ _, rl, h⟩⟩
theorem jps_cons {k v : Expr} {ks : List (Option Expr)} {vs : List Expr} {tk tv : DE} {trs : List (DE × DE)} (hk : JE X B k tk) (hv : JE X B v tv) (hr : JPs X B pos ks vs trs) : JPs X B pos (some k :: ks) (v :: vs) ((tk, tv) :: trs) := ⟨fun pins s σ H sl C Qd I rs rl h =>
  pairTrees_cons_walk (thn (hk.run pins s σ H (fun x H1 => ∃ d C1, Stp H C H1 C1 ∧ Rl X.K B H1 C1 ∧ Rep X.K H1 d x ∧ tv sl C1 fun y C2 => dPairs trs sl C2 fun ps C3 => Qd ((d, y) :: ps) C3) I ⟨sl, C, _, rs, rl, h, fun v d H' C' st rl' r q => ⟨d, C', st, rl', r, q⟩⟩) fun u s1 ⟨x, H1, I1, rx, dx, C1, st1, rl1, r1, q1⟩ =>
    thn (hv.run pins s1 σ H1 (fun y H2 => ∃ d C2, Stp H1 C1 H2 C2 ∧ Rl X.K B H2 C2 ∧ Rep X.K H2 d y ∧ dPairs trs sl C2 fun ps C3 => Qd ((dx, d) :: ps) C3) I1 ⟨sl, C1, _, rs.mono st1.tx, rl1, q1, fun v d H' C' st rl' r q => ⟨d, C', st, rl', r, q⟩⟩) fun w s2 ⟨y, H2, I2, ry, dy, C2, st2, rl2, r2, q2⟩ =>
      thn (hr.run pins s2 σ H2 sl C2 _ I2 (rs.mono (st1.trans st2).tx) rl2 q2) fun ws s3 ⟨ps, ds, H3, C3, I3, rel, rp, st3, rl3, q3⟩ =>
        ⟨(x, y) :: ps, (dx, dy) :: ds, H3, C3, I3, .cons ⟨rx, ry⟩ rel, .cons ⟨r1.mono (st2.trans st3).tx, r2.mono st3.tx⟩ rp, (st1.trans st2).trans st3, rl3, q3⟩)⟩
def mergeA (acc more : List (DKey × D)) : List (DKey × D) := more.foldl (fun acc kv => putA acc kv.1 kv.2) acc
theorem repK_merge {H : Hp} : ∀ {more : List (DKey × D)} {ws : List (Key × V)} {acc : List (DKey × D)} {aw : List (Key × V)}, RepK keyOf X.K H more ws → RepK keyOf X.K H acc aw → RepK keyOf X.K H (mergeA acc more) (mergeK aw ws) := by
  intro more ws acc aw q
  unfold RepK at q
  induction q generalizing acc aw with
  | nil => intro r; exact r
  | @cons p x ps xs r t ih =>
    intro r0
    have e := repK_put r0 p.1 r.2
    rw [r.1] at e
    exact ih e
theorem repP_keys {H : Hp} : ∀ {kvs : List (DKey × D)} {ps : List (V × V)}, RepP X.K H (kvs.map fun kv => (keyD kv.1, kv.2)) ps → ∃ ws : List (Key × V), ps = ws.map (fun kv => (kV kv.1, kv.2)) ∧ RepK keyOf X.K H kvs ws
  | [], _, h => by cases h; exact ⟨[], rfl, .nil⟩
  | (k, d) :: kvs, _, h => by
    cases h with
    | @cons _ q _ qs h t =>
      obtain ⟨ws, e, r⟩ := repP_keys t
      obtain ⟨q1, q2⟩ := q
      obtain ⟨h1, h2⟩ := h
      have := keyD_val h1
      dsimp only at this
      subst this
      exact ⟨(keyOf k, q2) :: ws, by rw [e]; rfl, .cons ⟨rfl, h2⟩ r⟩
def dDisp (trs : List (DE × DE)) : DE := fun s C Q => dPairs trs s C fun ps C2 => ∃ kvs : List (DKey × D), ps = kvs.map (fun kv => (keyD kv.1, kv.2)) ∧ kvs.length ≤ 15 ∧ ∀ p, C2 p = none → Q (.ptr p) (up C2 p (.dk (mergeA [] kvs)))
theorem j_disp {keys : List (Option Expr)} {values : List Expr} {trs : List (DE × DE)} (h : JPs X B pos keys values trs) (hall : keys.all (·.isSome) = true := by rfl) (hl : keys.length = values.length := by rfl) (h0 : keys ≠ [] := by exact List.cons_ne_nil _ _)
    (h15 : keys.length ≤ 15 := by decide) : JE X B (.Dict keys values pos) (dDisp trs) := by
  refine ⟨fun pins s σ H Q I q => ?_⟩
  obtain ⟨sl, C, Qd, rs, rl, q, k⟩ := q
  have hn := I.hok.fresh (Nat.le_refl s.heap.objs.size)
  have cn : C s.heap.objs.size = none := rl.fresh hn
  have I1 := I.laid (a := s.heap.objs.size) (o := .dK []) (h' := s.heap.push { cls := .type "dict", data := .dict #[] }) (t' := s.toks) (fun _ _ q => Heap.get?_push_of_some _ q) (Nat.le_refl _) (dk_empty s.heap I.big)
  have s0 : Stp H C (upd H s.heap.objs.size (.dK [])) C := stp_more hn
  refine wpAny_Dict_walk (knd := mixKind X.prog X.w) hall hl h0 h15 (thn (h.run pins _ σ _ sl C _ I1 (rs.mono s0.tx) (rl.more hn) q) fun ws s2 ⟨ps, ds, H2, C2, I2, rel, rp, st2, rl2, kvs, ed, hk15, q2⟩ => ?_)
  subst ed
  obtain ⟨e, n2⟩ := st2.hid _ _ upd_same cn
  obtain ⟨kws, ep, rk0⟩ := repP_keys rp
  subst ep
  obtain ⟨rs2, c, rk⟩ := carries_of (P := X.prog) (w := X.w) rel
  obtain ⟨z, hd, vs0, r0, dd⟩ := dk_of I2.hok e
  cases r0
  refine ⟨rs2, c, dd, fun h' dd' hs => ?_⟩
  have hz : (mergeK [] kws).length ≤ sizeLine := by
    have h1 := length_mergeK kws []
    have h2 := Paired.length rk0
    rw [List.length_nil] at h1
    rw [sizeLine_eq]; omega
  have he : ∃ q, h'.get? s.heap.objs.size = some q := let ⟨q, _, _, hq, _⟩ := dd'; ⟨q, hq⟩
  have nf : ¬ Frz (H2 s.heap.objs.size) := by rw [e]; exact id
  have s1 : Stp H C (upd H2 s.heap.objs.size (.dK (mergeK [] kws))) (up C2 s.heap.objs.size (.dk (mergeA [] kvs))) := by
    have a := stp_hid (o := .dK (mergeK [] kws)) (Stp.refl H C) hn (s0.trans st2) nf
    refine ⟨a.tx, fun p u e n => ?_⟩
    obtain ⟨a1, a2⟩ := a.hid p u e n
    exact ⟨a1, by rw [up_ne (ne_of_none e hn)]; exact a2⟩
  refine ⟨.ref s.heap.objs.size, _, d_write I2 (by rw [e]; exact True.intro) hs he (dk_new hz hd (rk.merge .nil) dd'), rfl, k _ (.ptr s.heap.objs.size) _ (up C2 s.heap.objs.size (.dk (mergeA [] kvs))) s1 ⟨rl.st.trans s1, fun p c e2 => ?_⟩ rfl (q2 _ n2)⟩
  by_cases hp : p = s.heap.objs.size
  · subst hp
    rw [up_same] at e2
    cases e2
    exact ⟨_, upd_same, (repK_merge rk0 (.nil)).mono (tx_upd nf)⟩
  · rw [up_ne hp] at e2
    exact (rl2.ok p c e2).keep (tx_upd nf) (upd_ne hp)
end
end KB

/-! KB12: choices of readings; list(..) of texts and dicts. -/
namespace KB
open PySem PySem.Spec PyProof.Rows SeqAt
open L2 hiding op_eqD op_neD
section
variable {X : Cx} {B : Bs} {pos apos tpos : Pos} {tg o i e f value a b c : Expr} {es : List Expr} {to ti te tf tv ta tb : DE} {tr : DA} {sa sb : DI} {st : Stmt} {tS uS : DS}
/-- one of two readings -/
def dAlt (t u : DE) : DE := fun s C Q => t s C Q ∨ u s C Q
theorem j_alt (h1 : JE X B e ta) (h2 : JE X B e tb) : JE X B e (dAlt ta tb) := ⟨fun pins s σ H Q I h => by
  obtain ⟨sl, C, Qd, rs, rl, h | h, k⟩ := h
  · exact h1.run pins s σ H Q I ⟨sl, C, Qd, rs, rl, h, k⟩
  · exact h2.run pins s σ H Q I ⟨sl, C, Qd, rs, rl, h, k⟩⟩
def dAltI (t u : DI) : DI := fun s C Q => t s C Q ∨ u s C Q
theorem ji_alt (h1 : JI X B tg e sa) (h2 : JI X B tg e sb) : JI X B tg e (dAltI sa sb) := ⟨fun pins s σ H Q I h => by
  obtain ⟨sl, C, Qd, rs, rl, h | h, k⟩ := h
  · exact h1.run pins s σ H Q I ⟨sl, C, Qd, rs, rl, h, k⟩
  · exact h2.run pins s σ H Q I ⟨sl, C, Qd, rs, rl, h, k⟩⟩
def dAltS (t u : DS) : DS := fun D s C => t D s C ∨ u D s C
theorem js_alt (h1 : JS X B st tS) (h2 : JS X B st uS) : JS X B st (dAltS tS uS) := ⟨fun pins s σ H D I h => by
  obtain ⟨sl, C, Qd, rs, rl, h | h, k⟩ := h
  · exact h1.run pins s σ H D I ⟨sl, C, Qd, rs, rl, h, k⟩
  · exact h2.run pins s σ H D I ⟨sl, C, Qd, rs, rl, h, k⟩⟩
def altR (r r' : List D → Cp → DQ → Prop) : List D → Cp → DQ → Prop := fun ds C Q => r ds C Q ∨ r' ds C Q
theorem call_alt {f : Value} {r r' : List D → Cp → DQ → Prop} (h1 : CallD X B f r) (h2 : CallD X B f r') : CallD X B f (altR r r') := by
  intro pins s σ H xs us Q I rx h
  obtain ⟨ds, C, Qd, rr, rl, h | h, k⟩ := h
  · exact h1 pins s σ H xs us Q I rx ⟨ds, C, Qd, rr, rl, h, k⟩
  · exact h2 pins s σ H xs us Q I rx ⟨ds, C, Qd, rr, rl, h, k⟩
def alt2R (r r' : D → D → Cp → DQ → Prop) : D → D → Cp → DQ → Prop := fun x y C Q => r x y C Q ∨ r' x y C Q
theorem op_alt {f : Value → Value → Sem Value} {r r' : D → D → Cp → DQ → Prop} (h1 : OpD X B f r) (h2 : OpD X B f r') : OpD X B f (alt2R r r') := by
  intro pins s σ H x y v u Q I rx ry h
  obtain ⟨dx, dy, C, Qd, a, b, rl, h | h, k⟩ := h
  · exact h1 pins s σ H x y v u Q I rx ry ⟨dx, dy, C, Qd, a, b, rl, h, k⟩
  · exact h2 pins s σ H x y v u Q I rx ry ⟨dx, dy, C, Qd, a, b, rl, h, k⟩
def listSR : List D → Cp → DQ → Prop := fun ds C Q => ∃ l, ds = [.str l] ∧ l.length ≤ sizeLine ∧ ∀ p, C p = none → Q (.ptr p) (up C p (.lst (l.map fun c => .str [c])))
def listKR : List D → Cp → DQ → Prop := fun ds C Q => ∃ p kvs, ds = [.ptr p] ∧ C p = some (.dk kvs) ∧ ∀ q, C q = none → Q (.ptr q) (up C q (.lst (kvs.map fun kv => keyD kv.1)))
theorem call_listKD (hc : X.calm = true) : CallD X B (.type "list") listKR := by
  intro pins s σ H xs us Q I rx h
  obtain ⟨ds, C, Qd, r, rl, ⟨p, kvs, e, hl, h⟩, k⟩ := h
  subst e
  obtain ⟨v, r2, rfl, hv, hn⟩ := r
  cases hn; cases hv
  obtain ⟨ws, e1, q⟩ := rl.ok _ _ hl
  refine L2.call_listD hc pins s σ H _ us Q I rx ⟨p, ws, rfl, .inl e1, fun l hn => ?_⟩
  have e2 := repK_keys q
  have hr : Reps X.K H (kvs.map fun kv => keyD kv.1) (ws.map fun kv => kV kv.1) := by
    have := keyDs_rep (K := X.K) (H := H) (kvs.map (·.1))
    rw [List.map_map, List.map_map] at this
    have e3 := congrArg (List.map kV) e2
    rw [List.map_map, List.map_map] at e3
    have e4 : (ws.map fun kv => kV kv.1) = (kvs.map (·.1)).map (kV ∘ keyOf) := by rw [List.map_map]; exact e3.symm
    rw [e4]
    exact this
  obtain ⟨a1, a2⟩ := rl.newL hn hr
  exact k _ _ _ _ a1 a2 (repP l) (h l (rl.fresh hn))
theorem call_listSD (hc : X.calm = true) : CallD X B (.type "list") listSR := by
  intro pins s σ H xs us Q I rx h
  obtain ⟨ds, C, Qd, r, rl, ⟨l, e, hl, h⟩, k⟩ := h
  subst e
  obtain ⟨v, r2, rfl, hv, hn⟩ := r
  cases hn; cases hv
  obtain ⟨u, rfl, ru⟩ := vals1 rx
  obtain ⟨t, rfl⟩ := ru
  refine call_list_str (I.ok.hd hc) ⟨l.toArray⟩ t (fun h' tk acc c' hk hS hi => ?_) (by simpa using hl)
  have hf : H s.heap.objs.size = none := I.hok.fresh (Nat.le_refl _)
  obtain ⟨vs, g1, g2⟩ := reps_of_at (K := X.K) (H := H) (ds := l.map fun c => D.str [c]) (us := acc.toList) (by rw [Array.length_toList, hi.1]; simp) fun j u e => by
    obtain ⟨c, t2, hc, hu⟩ := hi.2 j u (by rw [← Array.getElem?_toList]; exact e)
    refine ⟨.str [c], .str ⟨#[c]⟩, ?_, rfl, t2, hu⟩
    have hc : l.toArray[j]? = some c := hc
    simp at hc
    simp [hc]
  have hlen : vs.length ≤ sizeLine := by
    rw [← g1.length, List.length_map]
    exact hl
  obtain ⟨a1, a2⟩ := rl.newL hf g1
  exact ⟨.ref s.heap.objs.size, _, I.laid (a := s.heap.objs.size) (o := .lst vs) (t' := tk) hk (Nat.le_refl _) (show ObjOk X.prog X.w _ _ _ (.lst vs) from ⟨hlen, acc.toList, c', g2, by rw [Array.toArray_toList]; exact hS⟩), rfl, k _ _ _ _ a1 a2 (repP _) (h _ (rl.fresh hf))⟩
end
end KB

/-! KB13: room, the law's start, len of a dict. -/
namespace KB
open PySem PySem.Spec PyProof.Rows SeqAt
open L2 hiding op_eqD op_neD
theorem room20 {k : Nat} {A : Around} (r : Room k A) : A.units + 20 < cLine := by have := r.un; omega
theorem room70 {k : Nat} {A : Around} (r : Room k A) : A.units + 70 < cLine := by have := r.un; omega
theorem room80 {k : Nat} {A : Around} (r : Room k A) : A.units + 80 < cLine := by have := r.un; omega
def noLists (K : PySem.W.Frag) : Bool := K.all fun p => match p.2.cls with | .type n => n != "list" | _ => true
theorem lookup_mem {K : List (Addr × Obj)} {a : Addr} {o : Obj} (h : K.lookup a = some o) : (a, o) ∈ K := by
  induction K with
  | nil => cases h
  | cons p r ih =>
    obtain ⟨b, q⟩ := p
    rw [List.lookup_cons] at h
    split at h
    · rename_i e
      have e1 : a = b := by simpa using e
      cases h
      rw [e1]
      exact List.mem_cons_self
    · exact List.mem_cons_of_mem _ (ih h)
theorem reps_ints {K : PySem.W.Frag} {H : Hp} : ∀ ns : List Int, Reps K H (ns.map D.int) (ns.map V.int)
  | [] => rfl
  | _ :: r => .cons rfl (reps_ints r)
theorem law_start {P : Program} {w : World} {K : PySem.W.Frag} {F : DSp} {H : Hp} {a : Addr} {ns : List Int} {n : Nat} (h : ∀ (a : Addr) (ns : List Int) (c : Cell), ns.length ≤ n → (c = .lst (ns.map D.int) ∨ c = .fz (ns.map D.int)) → F [.ptr a] (up (fun _ => none) a c) (fun d _ => d = .bl true) fun _ _ => False)
    (hK : noLists K = true) (hl : ns.length ≤ n) (hS : SqL K H a (ns.map V.int)) : lSp P w K 1 F [.ref a] H (fun v _ => v = .bl true) fun _ _ _ => False := by
  have fin : ∀ c : Cell, (c = .lst (ns.map D.int) ∨ c = .fz (ns.map D.int)) → CellOk P w K H a c → lSp P w K 1 F [.ref a] H (fun v _ => v = .bl true) fun _ _ _ => False := fun c hc ok => by
    refine ⟨rfl, [.ptr a], up (fun _ => none) a c, _, .cons rfl .nil, fun p c' e => ?_, h a ns c hl hc, fun v d H' C' _ _ r q => ?_⟩
    · by_cases hp : p = a
      · subst hp
        rw [up_same] at e
        cases e
        exact ok
      · rw [up_ne hp] at e
        cases e
    · have q : d = .bl true := q
      subst q
      exact r
  rcases hS with (e | ⟨o, e⟩) | ⟨o, its, k, e, hc, _⟩
  · exact fin _ (.inl rfl) ⟨_, e, reps_ints ns⟩
  · exact fin _ (.inr rfl) ⟨_, _, e, reps_ints ns⟩
  · have := List.all_eq_true.mp hK _ (lookup_mem e)
    simp only [hc] at this
    exact absurd this (by decide)
theorem bt_range : bootBuiltins "range" = some (.type "range") := by decide +kernel
theorem bt_list : bootBuiltins "list" = some (.type "list") := by decide +kernel
theorem bt_tuple : bootBuiltins "tuple" = some (.type "tuple") := by decide +kernel
theorem bt_int : bootBuiltins "int" = some (.type "int") := by decide +kernel
theorem bt_dict : bootBuiltins "dict" = some (.type "dict") := by decide +kernel
theorem bt_set : bootBuiltins "set" = some (.type "set") := by decide +kernel
theorem bt_str : bootBuiltins "str" = some (.type "str") := by decide +kernel
theorem bt_bool : bootBuiltins "bool" = some (.type "bool") := by decide +kernel
theorem bt_abs : bootBuiltins "abs" = some (.builtin "abs") := by decide +kernel
theorem bt_sorted : bootBuiltins "sorted" = some (.builtin "sorted") := by decide +kernel
theorem bt_isinstance : bootBuiltins "isinstance" = some (.builtin "isinstance") := by decide +kernel
theorem bt_max : bootBuiltins "max" = some (.builtin "max") := by decide +kernel
theorem bt_min : bootBuiltins "min" = some (.builtin "min") := by decide +kernel
theorem bt_any : bootBuiltins "any" = some (.builtin "any") := by decide +kernel
theorem bt_all : bootBuiltins "all" = some (.builtin "all") := by decide +kernel
theorem bt_len : bootBuiltins "len" = some (.builtin "len") := by decide +kernel
theorem bt_repr : bootBuiltins "repr" = some (.builtin "repr") := by decide +kernel
theorem bt_sum : bootBuiltins "sum" = some (.builtin "sum") := by decide +kernel
end KB

/-! KB14: readings run by hand: one step a lemma. -/
namespace KB
open PySem PySem.Spec PyProof.Rows
open L2 hiding op_eqD op_neD call_listD
section
variable {C : Cp} {Q : DQ} {p q : Addr} {i : Int} {d v y : D} {xs ys : List D}
theorem eqR_ii {n : Bool} {a b : Int} : eqR n (.int a) (.int b) C Q = Q (.bl (if n then !(a == b) else a == b)) C := by
  unfold eqR okEq npt dep eqD
  simp
theorem eqR_ss {n : Bool} {a b : List Nat} : eqR n (.str a) (.str b) C Q = Q (.bl (if n then !(a == b) else a == b)) C := by
  unfold eqR okEq npt dep eqD
  simp
theorem eqR_tt {n : Bool} {a b : List D} : eqR n (.tup a) (.tup b) C Q = (okEq (.tup a) ∧ npt (.tup b) = true ∧ Q (.bl (if n then !(eqD (.tup a) (.tup b)) else eqD (.tup a) (.tup b))) C) := rfl
theorem eqR_bb {n a b : Bool} : eqR n (.bl a) (.bl b) C Q = Q (.bl (if n then !(a == b) else a == b)) C := by
  unfold eqR okEq npt dep eqD
  simp
theorem eqR_ns {n : Bool} {b : List Nat} : eqR n .non (.str b) C Q = Q (.bl n) C := by
  unfold eqR okEq npt dep eqD
  cases n <;> simp
theorem eqR_pp {n : Bool} (h1 : isL C p xs) (h2 : isL C q ys) (ok : okEqs xs) (ok2 : npts ys = true) (k : Q (.bl (if n then !eqDs xs ys else eqDs xs ys)) C) : eqR n (.ptr p) (.ptr q) C Q := ⟨xs, ys, h1, h2, ok, ok2, k⟩
theorem ix_l (h : isL C p xs) (e : atI xs i = some d) (k : Q d C) : ixD (.ptr p) (.int i) C Q := ⟨xs, d, h, e, k⟩
theorem ix_n {j : Nat} (h : isL C p xs) (e : xs[j]? = some d) (k : Q d C) : ixD (.ptr p) (.int j) C Q := ⟨xs, d, h, atI_nat e, k⟩
theorem ix_tn {j : Nat} (e : xs[j]? = some d) (k : Q d C) : ixD (.tup xs) (.int j) C Q := ⟨d, atI_nat e, k⟩
theorem ix_sn {j : Nat} {l : List Nat} {c : Nat} (z : l.length ≤ sizeLine) (e : l[j]? = some c) (k : Q (.str [c]) C) : ixD (.str l) (.int j) C Q := ⟨z, c, atI_nat e, k⟩
theorem set_l {j : Nat} {R : Cp → Prop} (h : C p = some (.lst xs)) (e : ixN xs.length i = some j) (k : R (up C p (.lst (xs.set j v)))) : setR (.ptr p) (.int i) v C R := ⟨p, _, rfl, .inl ⟨xs, i, j, h, rfl, e, rfl⟩, k⟩
theorem len_l (h : isL C p xs) (k : Q (.int (xs.length : Int)) C) : lenR [.ptr p] C Q := ⟨.ptr p, xs.length, rfl, ⟨xs, h, rfl⟩, k⟩
theorem len_t (k : Q (.int (xs.length : Int)) C) : lenR [.tup xs] C Q := ⟨.tup xs, xs.length, rfl, rfl, k⟩
theorem len_s {l : List Nat} (z : l.length ≤ sizeLine) (k : Q (.int (l.length : Int)) C) : lenR [.str l] C Q := ⟨.str l, l.length, rfl, ⟨z, rfl⟩, k⟩
theorem abs_ii {a : Int} : absR [.int a] C Q = Q (.int (if a < 0 then -a else a)) C := by
  unfold absR
  simp
theorem max_ii {a b : Int} : max2R [.int a, .int b] C Q = Q (.int (if b > a then b else a)) C := by
  unfold max2R
  refine propext ⟨?_, fun h => ⟨a, b, rfl, h⟩⟩
  rintro ⟨i, j, e, h⟩
  cases e
  exact h
theorem min_ii {a b : Int} : min2R [.int a, .int b] C Q = Q (.int (if b < a then b else a)) C := by
  unfold min2R
  refine propext ⟨?_, fun h => ⟨a, b, rfl, h⟩⟩
  rintro ⟨i, j, e, h⟩
  cases e
  exact h
theorem app_l (h : C p = some (.lst xs)) (z : xs.length < sizeLine) (k : Q .non (up C p (.lst (xs ++ [y])))) : appendR (.ptr p) [y] C Q := ⟨p, xs, y, rfl, rfl, h, z, k⟩
theorem popAt_n {j : Nat} (h : C p = some (.lst xs)) (e : xs[j]? = some d) (z : xs.length ≤ sizeLine) (k : Q d (up C p (.lst (xs.eraseIdx j)))) : popAtR (.ptr p) [.int j] C Q := by
  have hj : j < xs.length := (List.getElem?_eq_some_iff.mp e).1
  have := line63
  refine ⟨p, xs, j, j, d, rfl, rfl, h, by omega, by omega, ?_, e, k⟩
  exact (ixN_seq (show ixN xs.length (j : Int) = some j by
    unfold ixN
    rw [if_pos (by omega), if_pos (by omega)]; simp)).1
theorem tyL (h : isL C p xs) : tyD C "list" (.ptr p) := .inl ⟨rfl, xs, h⟩
theorem list_l (h : itemsD C d xs) (k : ∀ p, C p = none → Q (.ptr p) (up C p (.lst xs))) : listR [d] C Q := ⟨d, xs, rfl, h, k⟩
theorem tuple_l (h : itemsD C d xs) (k : Q (.tup xs) C) : tupleR [d] C Q := ⟨d, xs, rfl, h, k⟩
theorem sorted_l (h : collD C d xs) (o : SortOk xs) (k : ∀ p, C p = none → Q (.ptr p) (up C p (.lst (xs.mergeSort leP)))) : sortedR [d] C Q := ⟨d, xs, rfl, h, o, k⟩
theorem ex2 {α β : Type} {a : α} {b : β} {R : α → β → Prop} : (∃ v w, (a = v ∧ b = w) ∧ R v w) = R a b := propext ⟨fun ⟨_, _, ⟨e, f⟩, h⟩ => by subst e f; exact h, fun h => ⟨a, b, ⟨rfl, rfl⟩, h⟩⟩
theorem ex3 {α β γ : Type} {a : α} {b : β} {c : γ} {R : α → β → γ → Prop} : (∃ u v w, (a = u ∧ b = v ∧ c = w) ∧ R u v w) = R a b c := propext ⟨fun ⟨_, _, _, ⟨e, f, g⟩, h⟩ => by subst e f g; exact h, fun h => ⟨a, b, c, ⟨rfl, rfl, rfl⟩, h⟩⟩
theorem addD_ii {a b : Int} : addD (.int a) (.int b) C Q = Q (.int (a + b)) C := rfl
theorem addD_ss {a b : List Nat} : addD (.str a) (.str b) C Q = (a.length + b.length ≤ sizeLine ∧ Q (.str (a ++ b)) C) := rfl
theorem addD_tt {a b : List D} : addD (.tup a) (.tup b) C Q = (a.length + b.length ≤ sizeLine ∧ Q (.tup (a ++ b)) C) := rfl
theorem subD_ii {a b : Int} : subD (.int a) (.int b) C Q = Q (.int (a - b)) C := rfl
theorem mulD_ii {a b : Int} : mulD (.int a) (.int b) C Q = (CMulW a b ∧ Q (.int (a * b)) C) := rfl
theorem modD_ii {a b : Int} : modD (.int a) (.int b) C Q = (0 < b ∧ Q (.int (a % b)) C) := rfl
theorem fdivD_ii {a b : Int} : fdivD (.int a) (.int b) C Q = (CDivW a b ∧ Q (.int (a / b)) C) := rfl
theorem powD_ii {a b : Int} : powD (.int a) (.int b) C Q = (CPow a b ∧ Q (.int (a ^ b.toNat)) C) := rfl
theorem ltD_ii {a b : Int} : ltD (.int a) (.int b) C Q = Q (.bl (decide (a < b))) C := rfl
theorem leD_ii {a b : Int} : leD (.int a) (.int b) C Q = Q (.bl (decide (a ≤ b))) C := rfl
theorem gtD_ii {a b : Int} : gtD (.int a) (.int b) C Q = Q (.bl (decide (b < a))) C := rfl
theorem geD_ii {a b : Int} : geD (.int a) (.int b) C Q = Q (.bl (decide (b ≤ a))) C := rfl
theorem ltD_ss {a b : List Nat} : ltD (.str a) (.str b) C Q = Q (.bl (decide (a < b))) C := rfl
theorem leD_ss {a b : List Nat} : leD (.str a) (.str b) C Q = Q (.bl (!decide (b < a))) C := rfl
theorem truD_b {a k : Bool} : truD C (.bl a) k = (k = a) := rfl
theorem slD_t {lo hi : Option Int} : slD (.tup xs) lo hi C Q = Q (.tup (cutL xs lo hi)) C := rfl
theorem slD_s {l : List Nat} {lo hi : Option Int} : slD (.str l) lo hi C Q = (l.length ≤ sizeLine ∧ Q (.str (cutL l lo hi)) C) := rfl
theorem sl_l {lo hi : Option Int} (h : isL C p xs) (k : ∀ q, C q = none → Q (.ptr q) (up C q (.lst (cutL xs lo hi)))) : slD (.ptr p) lo hi C Q := ⟨xs, h, k⟩
theorem pop_l (h : C p = some (.lst xs)) (e : xs[xs.length - 1]? = some d) (k : Q d (up C p (.lst xs.dropLast))) : popR (.ptr p) [] C Q := ⟨p, xs, d, rfl, rfl, h, e, k⟩
theorem inR_l {n : Bool} (h : isL C p xs) (a : npt d = true) (b : okEqs xs) (k : Q (.bl (if n then !memD xs d else memD xs d)) C) : inR n d (.ptr p) C Q := ⟨xs, h, a, b, k⟩
theorem inR_t {n : Bool} : inR n d (.tup xs) C Q = (npt d = true ∧ okEqs xs ∧ Q (.bl (if n then !memD xs d else memD xs d)) C) := by
  cases d <;> rfl
theorem listS_l {l : List Nat} (z : l.length ≤ sizeLine) (k : ∀ p, C p = none → Q (.ptr p) (up C p (.lst (l.map fun c => .str [c])))) : listSR [.str l] C Q := ⟨l, rfl, z, k⟩
theorem isL_same {c : Cell} (h : c = .lst xs ∨ c = .fz xs) : isL (up C p c) p xs := by
  rcases h with h | h
  · subst h; exact .inl up_same
  · subst h; exact .inr up_same
/-- all but some places as it was -/
def Fr (S : Addr → Prop) (C C' : Cp) : Prop := ∀ r, ¬ S r → C' r = C r
theorem Fr.refl {S : Addr → Prop} (C : Cp) : Fr S C C := fun _ _ => rfl
theorem Fr.trans {S : Addr → Prop} {C C1 C2 : Cp} (a : Fr S C C1) (b : Fr S C1 C2) : Fr S C C2 := fun r h => (b r h).trans (a r h)
theorem Fr.up {S : Addr → Prop} {C C1 : Cp} {c : Cell} (a : Fr S C C1) (h : S p) : Fr S C (up C1 p c) := fun r hr => by
  rw [up_ne (fun e : r = p => hr (by rw [e]; exact h))]
  exact a r hr
theorem Fr.mono {S T : Addr → Prop} {C C1 : Cp} (a : Fr S C C1) (h : ∀ r, S r → T r) : Fr T C C1 := fun r hr => a r fun s => hr (h r s)
theorem sub_up {c : Cell} (h : C p = none) : Sub C (up C p c) := fun r c' e => by
  rw [up_ne (fun z => by subst z; rw [h] at e; cases e)]
  exact e
theorem sub_up2 {C C1 : Cp} {c : Cell} (s : Sub C C1) (h : C1 p = none) : Sub C (up C1 p c) := s.trans (sub_up h)
/-- what a store keeps when a new place is left out of it -/
theorem sub_both {C C1 : Cp} {c : Cell} (s : Sub C C1) : Sub (up C p c) (up C1 p c) := fun r c' e => by
  by_cases h : r = p
  · subst h
    rw [up_same] at e ⊢
    exact e
  · rw [up_ne h] at e ⊢
    exact s r c' e
end
end KB
namespace KB
open PySem PySem.Spec PyProof.Rows
open L2 hiding op_eqD op_neD call_listD
section
variable {C C1 C2 : Cp} {Q : DQ} {p q r : Addr} {i : Int} {d v y : D} {xs ys : List D} {S T : Addr → Prop} {c : Cell}
/-- x[y] of a dict -/
def getX (x y : D) (C : Cp) (Q : DQ) : Prop := ∃ p d, x = .ptr p ∧ gotD C p y (some d) ∧ Q d C
theorem dGetI_eq {to ti : DE} {s : Sl} : dGetI to ti s C Q = to s C fun x C1 => ti s C1 fun y C2 => getX x y C2 Q := rfl
theorem got_k {kvs : List (DKey × D)} {a : Addr} {k : DKey} {d : D} (h : C a = some (.dk kvs)) (e : lookA kvs k = some d) (z : Q d C) : getX (.ptr a) (keyD k) C Q := ⟨a, d, rfl, .inl ⟨kvs, k, h, rfl, e.symm⟩, z⟩
theorem got_g {kvs : List (D × D)} {a : Addr} {k d : D} (h : C a = some (.dg kvs)) (g : keyG k) (e : lookG kvs k = some d) (z : Q d C) : getX (.ptr a) k C Q := ⟨a, d, rfl, .inr ⟨kvs, h, g, e.symm⟩, z⟩
/-- all there is stays, but for some places; new things may stand beside -/
def Kp (S : Addr → Prop) (C C' : Cp) : Prop := ∀ r c, ¬ S r → C r = some c → C' r = some c
theorem Kp.refl (C : Cp) : Kp S C C := fun _ _ _ h => h
theorem Kp.trans (a : Kp S C C1) (b : Kp S C1 C2) : Kp S C C2 := fun r c h e => b r c h (a r c h e)
theorem Kp.new (a : Kp S C C1) (h : C1 p = none) : Kp S C (up C1 p c) := fun r c' hr e => by
  have e1 := a r c' hr e
  rw [up_ne (fun z : r = p => by subst z; rw [h] at e1; cases e1)]
  exact e1
theorem Kp.put (a : Kp S C C1) (h : S p) : Kp S C (up C1 p c) := fun r c' hr e => by
  rw [up_ne (fun z : r = p => hr (by rw [z]; exact h))]
  exact a r c' hr e
theorem Kp.mono (a : Kp S C C1) (h : ∀ r, S r → T r) : Kp T C C1 := fun r c hr e => a r c (fun s => hr (h r s)) e
theorem Kp.isL (a : Kp S C C1) (h : ¬ S p) (e : isL C p xs) : isL C1 p xs := e.elim (fun e => .inl (a _ _ h e)) fun e => .inr (a _ _ h e)
theorem Kp.ne (a : Kp S C C1) (h : C p = some c) (n : ¬ S p) (z : C1 q = none) : q ≠ p := fun e => by
  subst e
  rw [a _ _ n h] at z
  cases z
theorem ne_fresh (h : C p = some c) (z : C q = none) : q ≠ p := fun e => by
  subst e
  rw [h] at z
  cases z
theorem Fr.kp (a : Fr S C C1) : Kp S C C1 := fun r c h e => (a r h).trans e
theorem isL_up_ne (h : isL C p xs) (n : p ≠ r) : isL (up C r c) p xs := h.elim (fun e => .inl (by rw [up_ne n]; exact e)) fun e => .inr (by rw [up_ne n]; exact e)
theorem at_ne (h : C p = some c) {c' : Cell} (n : p ≠ r) : up C r c' p = some c := by rw [up_ne n]; exact h
theorem inKD {n : Bool} {kvs : List (DKey × D)} (h : C p = some (.dk kvs)) {k : DKey} (e : Q (.bl (if n then !(lookA kvs k).isSome else (lookA kvs k).isSome)) C) : inDR n (keyD k) (.ptr p) C Q := ⟨p, lookA kvs k, rfl, .inl ⟨kvs, k, h, rfl, rfl⟩, e⟩
theorem put_k {kvs : List (DKey × D)} {R : Cp → Prop} (h : C p = some (.dk kvs)) (k : DKey) (z : kvs.length < sizeLine) (e : R (up C p (.dk (putA kvs k v)))) : setR (.ptr p) (keyD k) v C R := ⟨p, _, rfl, .inr (.inl ⟨kvs, k, h, rfl, z, rfl⟩), e⟩
theorem put_g {kvs : List (D × D)} {R : Cp → Prop} (h : C p = some (.dg kvs)) (k : keyG y) (z : kvs.length < sizeLine) (e : R (up C p (.dg (putG kvs y v)))) : setR (.ptr p) y v C R := ⟨p, _, rfl, .inr (.inr ⟨kvs, h, k, z, rfl⟩), e⟩
theorem rng_at {n i : Nat} {x : D} (e : (rngD 0 n)[i]? = some x) : i < n ∧ x = .int (i : Int) := by
  have hl : i < n := by
    have := (List.getElem?_eq_some_iff.mp e).1
    rw [rngD_len] at this
    exact this
  rw [rngD_get hl] at e
  have e := Option.some.inj e
  rw [Int.zero_add] at e
  exact ⟨hl, e.symm⟩
end
end KB

/-! KB15: facts of sorting; lists of texts. -/
namespace KB
open PySem PySem.Spec PyProof.Rows
open L2 hiding op_eqD op_neD call_listD
theorem leP_total : W.TotalLe leP := W.sortLe_total _ false _
theorem leP_anti {a b : D} (h1 : leP a b = true) (h2 : leP b a = true) : W.keyToks (toP a) = W.keyToks (toP b) := by
  have h1 : (!(PyProof.Rows.listOrd PyProof.Rows.itemOrd).blt (W.keyToks (toP b)) (W.keyToks (toP a))) = true := h1
  have h2 : (!(PyProof.Rows.listOrd PyProof.Rows.itemOrd).blt (W.keyToks (toP a)) (W.keyToks (toP b))) = true := h2
  rw [Bool.not_eq_true'] at h1 h2
  exact (PyProof.Rows.listOrd PyProof.Rows.itemOrd).total _ _ h2 h1
theorem sort_eq {xs ys : List D} (hp : xs.Perm ys) (inj : ∀ a ∈ xs, ∀ b ∈ xs, W.keyToks (toP a) = W.keyToks (toP b) → a = b) : xs.mergeSort leP = ys.mergeSort leP := by
  have tr : ∀ a b c, leP a b = true → leP b c = true → leP a c = true := leP_total.trans
  have to : ∀ a b, (leP a b || leP b a) = true := fun a b => by
    rcases leP_total.total a b with h | h <;> simp [h]
  refine List.Perm.eq_of_pairwise (le := fun a b => leP a b = true) (fun a b ha hb h1 h2 => ?_) (List.pairwise_mergeSort tr to xs) (List.pairwise_mergeSort tr to ys) ((List.mergeSort_perm xs leP).trans (hp.trans (List.mergeSort_perm ys leP).symm))
  exact inj a ((List.mergeSort_perm xs leP).mem_iff.mp ha) b (hp.mem_iff.mpr ((List.mergeSort_perm ys leP).mem_iff.mp hb)) (leP_anti h1 h2)
theorem perm_of {α : Type} : ∀ {xs ys : List α}, xs.Nodup → ys.Nodup → (∀ a, a ∈ xs ↔ a ∈ ys) → xs.Perm ys := by
  intro xs
  induction xs with
  | nil =>
    intro ys _ _ h
    cases ys with
    | nil => exact .nil
    | cons y r => exact absurd ((h y).mpr List.mem_cons_self) (by simp)
  | cons x r ih =>
    intro ys h1 h2 h
    obtain ⟨s, t, rfl⟩ := List.append_of_mem ((h x).mp List.mem_cons_self)
    have hn := List.nodup_cons.mp h1
    have h3 : (s ++ t).Nodup ∧ x ∉ s ++ t := by
      have := (List.perm_middle (a := x) (l₁ := s) (l₂ := t)).nodup_iff.mp h2
      exact ⟨(List.nodup_cons.mp this).2, (List.nodup_cons.mp this).1⟩
    refine .trans (.cons x (ih hn.2 h3.1 fun a => ?_)) List.perm_middle.symm
    constructor
    · intro ha
      have := (h a).mp (List.mem_cons_of_mem _ ha)
      rcases List.mem_append.mp this with q | q
      · exact List.mem_append_left _ q
      · rcases List.mem_cons.mp q with q | q
        · subst q; exact absurd ha hn.1
        · exact List.mem_append_right _ q
    · intro ha
      have : a ∈ x :: r := (h a).mpr (by
        rcases List.mem_append.mp ha with q | q
        · exact List.mem_append_left _ q
        · exact List.mem_append_right _ (List.mem_cons_of_mem _ q))
      rcases List.mem_cons.mp this with q | q
      · subst q; exact absurd ha h3.2
      · exact q
theorem strs_inj {xs : List (List Nat)} : ∀ a ∈ xs.map D.str, ∀ b ∈ xs.map D.str, W.keyToks (toP a) = W.keyToks (toP b) → a = b := by
  intro a ha b hb h
  obtain ⟨x, _, rfl⟩ := List.mem_map.mp ha
  obtain ⟨y, _, rfl⟩ := List.mem_map.mp hb
  simp only [toP, W.keyToks, List.cons.injEq, Sum.inr.injEq, and_true] at h
  rw [show x = y from h]
theorem nodup_len {α : Type} [DecidableEq α] : ∀ {xs ys : List α}, xs.Nodup → (∀ a ∈ xs, a ∈ ys) → xs.length ≤ ys.length := by
  intro xs
  induction xs with
  | nil => intro ys _ _; exact Nat.zero_le _
  | cons x r ih =>
    intro ys h1 h
    have hn := List.nodup_cons.mp h1
    have := ih (ys := ys.erase x) hn.2 fun a ha => (List.mem_erase_of_ne (fun e => hn.1 (by subst e; exact ha))).mpr (h a (List.mem_cons_of_mem _ ha))
    have h2 := List.length_erase_of_mem (h x List.mem_cons_self)
    have h3 : 0 < ys.length := List.length_pos_of_mem (h x List.mem_cons_self)
    rw [List.length_cons]
    omega
theorem sortOk_strs (xs : List (List Nat)) : SortOk (xs.map D.str) := by
  refine ⟨fun a ha b hb => ?_, .inr fun d hd => ?_, fun x hx => ?_⟩
  · obtain ⟨c, hc, rfl⟩ := List.mem_map.mp ha
    obtain ⟨e, he, rfl⟩ := List.mem_map.mp hb
    obtain ⟨x, _, rfl⟩ := List.mem_map.mp hc
    obtain ⟨y, _, rfl⟩ := List.mem_map.mp he
    rfl
  · obtain ⟨c, hc, rfl⟩ := List.mem_map.mp hd
    obtain ⟨x, _, rfl⟩ := List.mem_map.mp hc
    exact ⟨by simp [toP], fun xs => by simp [toP]⟩
  · obtain ⟨c, hc, rfl⟩ := List.mem_map.mp hx
    exact ⟨rfl, by unfold dep; omega⟩
theorem strs_img {xs : List D} {P : List Nat → Prop} (h : ∀ d ∈ xs, ∃ l, d = .str l ∧ P l) : ∃ ls : List (List Nat), xs = ls.map D.str ∧ ∀ l ∈ ls, P l := by
  induction xs with
  | nil => exact ⟨[], rfl, fun l h => by cases h⟩
  | cons x r ih =>
    obtain ⟨l, rfl, p⟩ := h x List.mem_cons_self
    obtain ⟨ls, rfl, q⟩ := ih fun d hd => h d (List.mem_cons_of_mem _ hd)
    refine ⟨l :: ls, rfl, fun z hz => ?_⟩
    rcases List.mem_cons.mp hz with e | e
    · subst e; exact p
    · exact q z e
theorem npts_strs (xs : List (List Nat)) : okEqs (xs.map D.str) := by
  induction xs with
  | nil => exact ⟨rfl, by decide⟩
  | cons x r ih =>
    obtain ⟨a, b⟩ := ih
    refine ⟨by rw [List.map_cons]; unfold npts npt; rw [a]; rfl, ?_⟩
    rw [List.map_cons]
    unfold deps dep
    omega
theorem memD_strs (xs : List (List Nat)) (x : List Nat) : memD (xs.map D.str) (.str x) = decide (x ∈ xs) := by
  unfold memD
  induction xs with
  | nil => simp
  | cons y r ih =>
    rw [List.map_cons, List.any_cons, ih]
    unfold eqD
    by_cases h : x = y
    · subst h; simp
    · have : (y == x) = false := by simpa using fun e : y = x => h e.symm
      rw [this]
      simp [h]
theorem any_map {α β : Type} (f : α → β) {xs : List β} {P : β → Prop} (hx : ∀ b ∈ xs, ∃ a, b = f a) : ∃ as : List α, xs = as.map f := by
  induction xs with
  | nil => exact ⟨[], rfl⟩
  | cons x r ih =>
    obtain ⟨a, rfl⟩ := hx x List.mem_cons_self
    obtain ⟨as, rfl⟩ := ih fun b hb => hx b (List.mem_cons_of_mem _ hb)
    exact ⟨a :: as, rfl⟩
/-! ### pairs of texts -/
abbrev Ed := List Nat × List Nat
def edD (e : Ed) : D := .tup [.str e.1, .str e.2]
theorem sortOk_eds (xs : List Ed) : SortOk (xs.map edD) := by
  refine ⟨fun a ha b hb => ?_, .inl fun d hd => ?_, fun x hx => ?_⟩
  · obtain ⟨c, hc, rfl⟩ := List.mem_map.mp ha
    obtain ⟨e, he, rfl⟩ := List.mem_map.mp hb
    obtain ⟨x, _, rfl⟩ := List.mem_map.mp hc
    obtain ⟨y, _, rfl⟩ := List.mem_map.mp he
    rfl
  · obtain ⟨c, hc, rfl⟩ := List.mem_map.mp hd
    obtain ⟨x, _, rfl⟩ := List.mem_map.mp hc
    exact ⟨_, _, rfl⟩
  · obtain ⟨c, hc, rfl⟩ := List.mem_map.mp hx
    exact ⟨rfl, by simp [edD, dep, deps]⟩
theorem keyG_ed (e : Ed) : keyG (edD e) := ⟨⟨_, rfl⟩, by simp [edD, nk, nks, NestedKey.depth, NestedKey.depthAll], rfl⟩
end KB

/-! KB16: from the def of the law to the head. -/
namespace KB
open PySem PySem.Spec PyProof.Rows
open L2 hiding op_eqD op_neD call_listD
theorem walk_kb {l : PySem.W.OpenLaw} {n k : Nat} {q : Program} {loose : List Str} {XP : (Str → Option Value) → Heap → Prop} {YP : World → Heap → Prop} {d : DefRec} {K : Params → PySem.W.Frag} {x : Str} {Fd : DSp}
    (hT : ∀ (a : Addr) (ns : List Int) (c : Cell), ns.length ≤ n → (c = .lst (ns.map D.int) ∨ c = .fz (ns.map D.int)) → Fd [.ptr a] (up (fun _ => none) a c) (fun d _ => d = .bl true) fun _ _ => False)
    (hn : l.most = some n) (hn2 : n ≤ sizeLine) (hdf : d.params.defaults = []) (hr : Room k callerA) (hY : ∀ (w : World) (h : Heap), YP w h → (K w.params).In h) (hK : ∀ w : World, noLists (K w.params) = true)
    (F : ∀ (w : World) (mg : Str → Option Value) (fa : Addr) (h : Heap), (K w.params).In h → h.Ns mainGlobals mg → mg d.name = some (.ref fa) →
      ∃ fd : FuncData, (∀ (s : Shared) (u : Value), BindsTo s fd ⟨[u], []⟩ [(x, u)]) ∧ ∀ base : Heap, (K w.params).In base → base.Ns mainGlobals mg → FnOk l.prog w (K w.params) mg base CX0 k fa fd [x] (lSp l.prog w (K w.params) 1 Fd)) :
    PySem.W.WalkO q loose XP YP l.row.toRowW d [] (fun f vs => PySem.call f vs) :=
  L2.walk_of (CX := fun _ => CX0) (sp := fun w => lSp l.prog w (K w.params) 1 Fd) hn hn2 hdf hr hY F (fun w H a ns hl _ hS => law_start hT (hK w) hl hS) fun _ _ _ _ _ z => z
end KB

/-! KB17: texts many times; strip; ranges as values. -/
namespace KB
open PySem PySem.Spec PyProof.Rows
open L2 hiding op_eqD op_neD call_listD
section
variable {X : Cx} {B : Bs} {pos : Pos}
def mulSD : D → D → Cp → DQ → Prop := fun x y C Q => ∃ (l : List Nat) (k : Int), x = .str l ∧ y = .int k ∧ -(2 ^ 62) ≤ k ∧ k < 2 ^ 62 ∧ l.length * k.toNat ≤ sizeLine ∧ Q (.str (List.replicate k.toNat l).flatten) C
theorem foldl_tl (x : Array Nat) : ∀ (n : Nat) (a : Array Nat), (List.foldl (· ++ ·) a (List.replicate n x)).toList = a.toList ++ (List.replicate n x.toList).flatten
  | 0, a => by simp
  | n + 1, a => by
    rw [List.replicate_succ, List.foldl_cons, foldl_tl x n, List.replicate_succ, List.flatten_cons, Array.toList_append, List.append_assoc]
theorem op_mulSD : OpD X B (binaryOp .Mult) mulSD := by
  intro pins s σ H x y v u Q I rx ry h
  obtain ⟨dx, dy, C, Qd, r1, r2, rl, ⟨l, k, ex, ey, h1, h2, h3, h⟩, kk⟩ := h
  subst ex ey
  cases r1; cases r2
  obtain ⟨t, rfl⟩ := rx
  obtain ⟨t', rfl⟩ := ry
  have fin : ∀ (z : Str) (tk : Tok) (n : Nat), z.cps.toList = (List.replicate k.toNat l).flatten → EP X pins σ Q (.str z tk) { s with toks := n } := fun z tk n e => by
    refine ⟨.str z, H, I.tok _, ⟨_, rfl⟩, kk _ (.str (List.replicate k.toNat l).flatten) H C (Stp.refl _ _) rl ?_ h⟩
    show V.str z = V.str _
    rw [← e]
  have hlen : (⟨l.toArray⟩ : Str).length = l.length := by simp [Str.length]
  refine P.mul_str (by rw [decide_eq_false (by omega), decide_eq_false (by omega)]; rfl) (fun a b => ?_) (fun a b => ?_) ?_
  · rw [hlen]
    have h4 : (l.length : Int) * k ≤ 2 ^ 63 - 1 := by
      have e1 : (k.toNat : Int) = k := Int.toNat_of_nonneg (by omega)
      have e2 : ((l.length * k.toNat : Nat) : Int) = (l.length : Int) * k := by rw [Int.natCast_mul, e1]
      rw [← e2]
      have := line63
      omega
    have := (Int.le_ediv_iff_mul_le (a := (l.length : Int)) (b := 2 ^ 63 - 1) (c := k) (by omega)).mpr h4
    omega
  · rw [hlen]
    unfold Builtin.Str.tooLong
    exact decide_eq_false (by omega)
  · by_cases a : k < 1
    · rw [if_pos a]
      refine ⟨by decide, fin _ _ _ ?_⟩
      have : k.toNat = 0 := by omega
      rw [this]; rfl
    · rw [if_neg a]
      by_cases b : (k == 1 || (⟨l.toArray⟩ : Str).length == 0) = true
      · rw [if_pos b]
        refine fin _ _ s.toks ?_
        rw [Bool.or_eq_true, beq_iff_eq, beq_iff_eq, hlen] at b
        rcases b with b | b
        · subst b
          simp
        · have : l = [] := List.length_eq_zero_iff.mp b
          subst this
          simp
      · rw [if_neg b]
        refine ⟨?_, fin _ _ _ (by rw [foldl_tl]; simp)⟩
        show (List.foldl (· ++ ·) #[] (List.replicate k.toNat l.toArray)).size ≤ sizeLine
        rw [← Array.length_toList, foldl_tl]
        simp
        rw [Nat.mul_comm]
        exact h3
/-! ### strip(z) -/
def stripL (l z : List Nat) : List Nat := TL.tl (Txt.stripChars ⟨l.toArray⟩ ⟨z.toArray⟩)
def stripR : D → List D → Cp → DQ → Prop := fun d ds C Q => ∃ l z, d = .str l ∧ ds = [.str z] ∧ l.length ≤ sizeLine ∧ Q (.str (stripL l z)) C
theorem mt_stripD : MtD X B "str.strip" stripR := by
  intro pins s σ H x xs v us Q I rx rs h
  obtain ⟨d, ds, C, Qd, r1, r2, rl, ⟨l, z, ed, eds, hz, h⟩, k⟩ := h
  subst ed eds
  cases r1
  obtain ⟨w, r3, rfl, hw, hn⟩ := r2
  cases hn; cases hw
  refine mt_stripChars pins s σ H _ _ v us Q I rx rs ⟨_, _, rfl, rfl, by simpa [Str.length] using hz, k _ (.str (stripL l z)) H C (Stp.refl _ _) rl ?_ h⟩
  show V.str _ = V.str _
  congr 1
/-! ### range(a, b), k in it -/
def RngO (p : Addr) (a b : Int) : HO := .ext fun h => ∃ t u v, IsRange h p a b 1 t u v
def rangeR : List D → Cp → DQ → Prop := fun ds C Q => ∃ i j, ds = [.int i, .int j] ∧ ∀ p, C p = none → Q (.ptr p) (up C p (.raw (RngO p i j)))
theorem call_rangeD : CallD X B (.type "range") rangeR := by
  intro pins s σ H xs us Q I rx h
  obtain ⟨ds, C, Qd, r, rl, ⟨i, j, e, h⟩, k⟩ := h
  subst e
  obtain ⟨v, r2, rfl, hv, w, r3, rfl, hw, hn⟩ := r
  cases hn; cases hv; cases hw
  obtain ⟨u1, u2, rfl, b1, b2⟩ := vals2 rx
  obtain ⟨t, rfl⟩ := b1
  obtain ⟨t', rfl⟩ := b2
  have hf : H s.heap.objs.size = none := I.hok.fresh (Nat.le_refl _)
  refine call_range_2 ⟨.ref s.heap.objs.size, _, I.laid (a := s.heap.objs.size) (o := RngO s.heap.objs.size i j) (t' := s.toks + 1) (fun _ _ q => Heap.get?_push_of_some _ q) (Nat.le_refl _) ?_, rfl, ?_⟩
  · exact ⟨⟨t, t', s.toks, Heap.get?_push_size _ rfl⟩, ⟨_, Heap.get?_push_size _ rfl⟩, fun ha hb ⟨t, u, v, q⟩ k => ⟨t, u, v, k _ q⟩⟩
  · exact k _ (.ptr s.heap.objs.size) _ (up C s.heap.objs.size (.raw (RngO s.heap.objs.size i j))) (stp_put (by rw [hf]; exact id) (.inr hf)) (rl.putNew hf upd_same) rfl (h _ (rl.fresh hf))
theorem range_has (r : Addr) (a b i : Int) (t u v z : Tok) :
    Meets (Builtin.«range.__contains__» ⟨[.ref r, .int i z], []⟩) (fun _ R s => IsRange s.heap r a b 1 t u v ∧ R (.ok (.ret (.bool (Builtin.Range.rangePlace? a b 1 i).isSome))) s) :=
  .of_wp fun prog w A R s h => by obtain ⟨hp, g, d, tk, os⟩ := s; obtain ⟨hl, h⟩ := h; wp_walk; exact ⟨_, rfl, h⟩
theorem place_is (a b i : Int) : (Builtin.Range.rangePlace? a b 1 i).isSome = decide (a ≤ i ∧ i < b) := by
  unfold Builtin.Range.rangePlace?
  simp
  by_cases h : a ≤ i ∧ i < b
  · simp [h]
  · rw [if_neg h]; simp; omega
def rngInR (neg : Bool) : D → D → Cp → DQ → Prop := fun x y C Q => ∃ i p a b, x = .int i ∧ y = .ptr p ∧ C p = some (.raw (RngO p a b)) ∧ Q (.bl (if neg then !decide (a ≤ i ∧ i < b) else decide (a ≤ i ∧ i < b))) C
theorem op_inRngD : OpD X B (compareOp .In) (rngInR false) := by
  intro pins s σ H x y v u Q I rx ry h
  obtain ⟨dx, dy, C, Qd, r1, r2, rl, ⟨i, p, a, b, ex, ey, hc, h⟩, k⟩ := h
  subst ex ey
  cases r1; cases r2; cases ry
  obtain ⟨t, rfl⟩ := rx
  obtain ⟨t1, t2, t3, hr⟩ : ∃ t u v, IsRange s.heap p a b 1 t u v := (I.hok p _ (rl.ok _ _ hc)).1
  show wpAny _ _ (do return Value.bool (← contains (.ref p) (.int i t))) _ _ s
  refine wpAny_bind (wpAny_contains_slot ⟨_, hr, rfl⟩ PySem.F.slot_range_contains (call_meets PySem.F.slot_range_contains ⟨_, hr, rfl⟩ PySem.F.entry_range_contains (PySem.F.args_range_contains_2 _ _) (range_has p a b i t1 t2 t3 t) ⟨hr, ?_⟩))
  refine wpAny_pure (wpAny_pure ⟨.bl _, H, I, rfl, k _ (.bl _) H C (Stp.refl _ _) rl (repB _) ?_⟩)
  rw [place_is]
  exact h
theorem op_niRngD : OpD X B (compareOp .NotIn) (rngInR true) := by
  intro pins s σ H x y v u Q I rx ry h
  obtain ⟨dx, dy, C, Qd, r1, r2, rl, ⟨i, p, a, b, ex, ey, hc, h⟩, k⟩ := h
  subst ex ey
  cases r1; cases r2; cases ry
  obtain ⟨t, rfl⟩ := rx
  obtain ⟨t1, t2, t3, hr⟩ : ∃ t u v, IsRange s.heap p a b 1 t u v := (I.hok p _ (rl.ok _ _ hc)).1
  show wpAny _ _ (do return Value.bool !(← contains (.ref p) (.int i t))) _ _ s
  refine wpAny_bind (wpAny_contains_slot ⟨_, hr, rfl⟩ PySem.F.slot_range_contains (call_meets PySem.F.slot_range_contains ⟨_, hr, rfl⟩ PySem.F.entry_range_contains (PySem.F.args_range_contains_2 _ _) (range_has p a b i t1 t2 t3 t) ⟨hr, ?_⟩))
  refine wpAny_pure (wpAny_pure ⟨.bl _, H, I, rfl, k _ (.bl _) H C (Stp.refl _ _) rl (repB _) ?_⟩)
  rw [place_is]
  exact h
end
end KB

namespace K01
open PySem PySem.Spec PyProof.Rows KB
open L2 hiding op_eqD op_neD call_listD
def topS (i : Nat) : Stmt := PySem.Challenge.pw_keptpages_k01_words_titles_paths.main.body.getD i (.Pass ⟨0, 0, 0, 0⟩)
abbrev s__law_pot : Stmt := topS 11
theorem sc__law_pot : FnScope ["_law_script"] ["_law_script"] (defScope s__law_pot) := ⟨rfl, rfl, rfl, by decide +kernel, rfl, by decide +kernel, by decide +kernel⟩
abbrev s__law_blend : Stmt := topS 10
theorem sc__law_blend : FnScope ["_law_number", "_law_turn", "_law_seed", "_law_once"] ["_law_number", "_law_turn"] (defScope s__law_blend) := ⟨rfl, rfl, rfl, by decide +kernel, rfl, by decide +kernel, by decide +kernel⟩
abbrev s__law_draw : Stmt := topS 12
theorem sc__law_draw : FnScope ["_law_pot_here", "_law_many", "_law_cell", "_law_digit"] ["_law_pot_here", "_law_many"] (defScope s__law_draw) := ⟨rfl, rfl, rfl, by decide +kernel, rfl, by decide +kernel, by decide +kernel⟩
abbrev s__law_pick : Stmt := topS 13
theorem sc__law_pick : FnScope ["_law_pot_here", "_law_some"] ["_law_pot_here", "_law_some"] (defScope s__law_pick) := ⟨rfl, rfl, rfl, by decide +kernel, rfl, by decide +kernel, by decide +kernel⟩
abbrev s__law_text : Stmt := topS 14
theorem sc__law_text : FnScope ["_law_pot_here", "_law_size", "_law_found", "_law_turn", "_law_at", "_law_k"] ["_law_pot_here", "_law_size"] (defScope s__law_text) := ⟨rfl, rfl, rfl, by decide +kernel, rfl, by decide +kernel, by decide +kernel⟩
abbrev s__law_things : Stmt := topS 18
theorem sc__law_things : FnScope ["_law_pot_here", "_law_texts", "_law_path", "_law_odd", "_law_at", "_law_things_here", "_law_plain", "_law_k"] ["_law_pot_here"] (defScope s__law_things) := ⟨rfl, rfl, rfl, by decide +kernel, rfl, by decide +kernel, by decide +kernel⟩
abbrev s_is_word : Stmt := topS 6
theorem sc_is_word : FnScope ["thing", "sign"] ["thing"] (defScope s_is_word) := ⟨rfl, rfl, rfl, by decide +kernel, rfl, by decide +kernel, by decide +kernel⟩
abbrev s_is_title : Stmt := topS 7
theorem sc_is_title : FnScope ["thing", "sign"] ["thing"] (defScope s_is_title) := ⟨rfl, rfl, rfl, by decide +kernel, rfl, by decide +kernel, by decide +kernel⟩
abbrev s_is_path : Stmt := topS 8
theorem sc_is_path : FnScope ["thing", "word"] ["thing"] (defScope s_is_path) := ⟨rfl, rfl, rfl, by decide +kernel, rfl, by decide +kernel, by decide +kernel⟩
abbrev s__law_is_word : Stmt := topS 15
theorem sc__law_is_word : FnScope ["_law_thing", "_law_sign"] ["_law_thing"] (defScope s__law_is_word) := ⟨rfl, rfl, rfl, by decide +kernel, rfl, by decide +kernel, by decide +kernel⟩
abbrev s__law_is_title : Stmt := topS 16
theorem sc__law_is_title : FnScope ["_law_thing"] ["_law_thing"] (defScope s__law_is_title) := ⟨rfl, rfl, rfl, by decide +kernel, rfl, by decide +kernel, by decide +kernel⟩
abbrev s__law_is_path : Stmt := topS 17
theorem sc__law_is_path : FnScope ["_law_thing", "_law_one"] ["_law_thing"] (defScope s__law_is_path) := ⟨rfl, rfl, rfl, by decide +kernel, rfl, by decide +kernel, by decide +kernel⟩
abbrev s_law : Stmt := topS 19
theorem sc_law : FnScope ["_law_script", "_law_pot_here", "_law_turn", "_law_thing", "_law_found", "_law_one"] ["_law_script"] (defScope s_law) := ⟨rfl, rfl, rfl, by decide +kernel, rfl, by decide +kernel, by decide +kernel⟩
structure Env (K : PySem.W.Frag) (mg : Str → Option Value) where
  a__law_pot : Addr
  d__law_pot : FuncData
  F__law_pot : Fun K "_law_pot" "_law_pot" s__law_pot a__law_pot d__law_pot
  b__law_pot : Binds K d__law_pot ["_law_script"] []
  m__law_pot : mg "_law_pot" = some (.ref a__law_pot)
  a__law_blend : Addr
  d__law_blend : FuncData
  F__law_blend : Fun K "_law_blend" "_law_blend" s__law_blend a__law_blend d__law_blend
  b__law_blend : Binds K d__law_blend ["_law_number", "_law_turn"] []
  m__law_blend : mg "_law_blend" = some (.ref a__law_blend)
  a__law_draw : Addr
  d__law_draw : FuncData
  F__law_draw : Fun K "_law_draw" "_law_draw" s__law_draw a__law_draw d__law_draw
  b__law_draw : Binds K d__law_draw ["_law_pot_here", "_law_many"] []
  m__law_draw : mg "_law_draw" = some (.ref a__law_draw)
  a__law_pick : Addr
  d__law_pick : FuncData
  F__law_pick : Fun K "_law_pick" "_law_pick" s__law_pick a__law_pick d__law_pick
  b__law_pick : Binds K d__law_pick ["_law_pot_here", "_law_some"] []
  m__law_pick : mg "_law_pick" = some (.ref a__law_pick)
  a__law_text : Addr
  d__law_text : FuncData
  F__law_text : Fun K "_law_text" "_law_text" s__law_text a__law_text d__law_text
  b__law_text : Binds K d__law_text ["_law_pot_here", "_law_size"] []
  m__law_text : mg "_law_text" = some (.ref a__law_text)
  a__law_things : Addr
  d__law_things : FuncData
  F__law_things : Fun K "_law_things" "_law_things" s__law_things a__law_things d__law_things
  b__law_things : Binds K d__law_things ["_law_pot_here"] []
  m__law_things : mg "_law_things" = some (.ref a__law_things)
  a_is_word : Addr
  d_is_word : FuncData
  F_is_word : Fun K "is_word" "is_word" s_is_word a_is_word d_is_word
  b_is_word : Binds K d_is_word ["thing"] []
  m_is_word : mg "is_word" = some (.ref a_is_word)
  a_is_title : Addr
  d_is_title : FuncData
  F_is_title : Fun K "is_title" "is_title" s_is_title a_is_title d_is_title
  b_is_title : Binds K d_is_title ["thing"] []
  m_is_title : mg "is_title" = some (.ref a_is_title)
  a_is_path : Addr
  d_is_path : FuncData
  F_is_path : Fun K "is_path" "is_path" s_is_path a_is_path d_is_path
  b_is_path : Binds K d_is_path ["thing"] []
  m_is_path : mg "is_path" = some (.ref a_is_path)
  a__law_is_word : Addr
  d__law_is_word : FuncData
  F__law_is_word : Fun K "_law_is_word" "_law_is_word" s__law_is_word a__law_is_word d__law_is_word
  b__law_is_word : Binds K d__law_is_word ["_law_thing"] []
  m__law_is_word : mg "_law_is_word" = some (.ref a__law_is_word)
  a__law_is_title : Addr
  d__law_is_title : FuncData
  F__law_is_title : Fun K "_law_is_title" "_law_is_title" s__law_is_title a__law_is_title d__law_is_title
  b__law_is_title : Binds K d__law_is_title ["_law_thing"] []
  m__law_is_title : mg "_law_is_title" = some (.ref a__law_is_title)
  a__law_is_path : Addr
  d__law_is_path : FuncData
  F__law_is_path : Fun K "_law_is_path" "_law_is_path" s__law_is_path a__law_is_path d__law_is_path
  b__law_is_path : Binds K d__law_is_path ["_law_thing"] []
  m__law_is_path : mg "_law_is_path" = some (.ref a__law_is_path)
  a_law : Addr
  d_law : FuncData
  F_law : Fun K "law" "law" s_law a_law d_law
  b_law : Binds K d_law ["_law_script"] []
  m_law : mg "law" = some (.ref a_law)
  z_abs : mg "abs" = none
  z_all : mg "all" = none
  z_bool : mg "bool" = none
  z_isinstance : mg "isinstance" = none
  z_len : mg "len" = none
  z_list : mg "list" = none
  z_max : mg "max" = none
  z_min : mg "min" = none
  z_range : mg "range" = none
  z_str : mg "str" = none
  z_tuple : mg "tuple" = none
  t_MOST_SIGNS : Tok
  c_MOST_SIGNS : mg "MOST_SIGNS" = some (.int 12 t_MOST_SIGNS)
  t_MOST_TITLE : Tok
  c_MOST_TITLE : mg "MOST_TITLE" = some (.int 60 t_MOST_TITLE)
  t_WORD_SIGNS : Tok
  c_WORD_SIGNS : mg "WORD_SIGNS" = some (.str (PySem.Str.ofString "abcdefghijklmnopqrstuvwxyz0123456789-") t_WORD_SIGNS)
section
variable {P : Program} {w : World} {K : PySem.W.Frag} {mg : Str → Option Value} {base : Heap}
def r__law_pot : DS := dRet (dLst (dCons (dCB (listR) (dCons (dVar 0) (dNil))) (dCons (dC (.int 0)) (dCons (dC (.int 3)) (dCons (dC (.int 0)) (dNil))))))
def D__law_pot : DSp := runD 1 1 r__law_pot
theorem ok__law_pot {P : Program} {w : World} {base : Heap} (E : Env K mg) (k : Nat) : FnOk P w K mg base CX0 (k + 1) E.a__law_pot E.d__law_pot ["_law_script"] (lSp P w K 1 D__law_pot) := fnok_of E.F__law_pot sc__law_pot rfl (fun cdv A outer s H Eo B hP hw hr => by
  subst hP hw
  have hB : B.P = B.P ∧ B.w = B.w := ⟨rfl, rfl⟩
  unfold r__law_pot
  exact jss_one (js_ret (j_lst (jas_cons (j_callTy (KB.call_listD) E.z_list bt_list (jas_cons (jv 0) (jas_nil))) (jas_cons (j_int) (jas_cons (j_int) (jas_cons (j_int) (jas_nil))))))))
def r__law_blend : DS := dSeq (dAsg (dOp addD (dOp addD (dOp addD (dOp modD (dVar 0) (dC (.int 2305843009213693951))) (dOp mulD (dOp mulD (dC (.int 104729)) (dVar 1)) (dVar 1))) (dOp mulD (dC (.int 17)) (dVar 1))) (dC (.int 5))) (gNm 2))
  (dSeq (dAsg (dOp modD (dOp mulD (dVar 2) (dC (.int 48271))) (dC (.int 2305843009213693921))) (gNm 3))
  (dRet (dOp modD (dOp addD (dOp mulD (dVar 3) (dOp addD (dOp modD (dVar 3) (dC (.int 1000003))) (dOp mulD (dC (.int 99991)) (dVar 1)))) (dOp fdivD (dVar 3) (dC (.int 11)))) (dC (.int 2305843009213693907)))))
def D__law_blend : DSp := runD 2 4 r__law_blend
theorem ok__law_blend {P : Program} {w : World} {base : Heap} (E : Env K mg) (k : Nat) : FnOk P w K mg base CX0 (k + 1) E.a__law_blend E.d__law_blend ["_law_number", "_law_turn"] (lSp P w K 2 D__law_blend) := fnok_of E.F__law_blend sc__law_blend rfl (fun cdv A outer s H Eo B hP hw hr => by
  subst hP hw
  have hB : B.P = B.P ∧ B.w = B.w := ⟨rfl, rfl⟩
  unfold r__law_blend
  exact jss_cons (js_set (i := 2) sc__law_blend.nd (j_op op_addD (j_op op_addD (j_op op_addD (j_op op_modD (jv 0) (j_int)) (j_op op_mulD (j_op op_mulD (j_int) (jv 1)) (jv 1))) (j_op op_mulD (j_int) (jv 1))) (j_int)))
    (jss_cons (js_set (i := 3) sc__law_blend.nd (j_op op_modD (j_op op_mulD (jv 2) (j_int)) (j_int)))
    (jss_one (js_ret (j_op op_modD (j_op op_addD (j_op op_mulD (jv 3) (j_op op_addD (j_op op_modD (jv 3) (j_int)) (j_op op_mulD (j_int) (jv 1)))) (j_op op_fdivD (jv 3) (j_int))) (j_int))))))
def r__law_draw_1 : DS := dRet (dOp modD (dOp fdivD (dCall D__law_blend [] (dCons (dOp ixD (dVar 0) (dC (.int 2))) (dCons (dOp ixD (dVar 0) (dC (.int 3))) (dNil)))) (dC (.int 7))) (dVar 1))
def r__law_draw_2 : DS := dSeq (dIf (dTest (dOp (gtD) (dOp ixD (dVar 0) (dC (.int 1))) (dC (.int 0)))) (dSeq (dAsg (dOp modD (dOp ixD (dVar 0) (dC (.int 1))) (dVar 1)) (gNm 3))
  (dSeq (dSetI (dVar 0) (dC (.int 1)) (dOp fdivD (dOp ixD (dVar 0) (dC (.int 1))) (dVar 1)))
  (dRet (dVar 3)))) (dNext))
  (r__law_draw_1)
def r__law_draw : DS := dSeq (dSetI (dVar 0) (dC (.int 3)) (dOp addD (dOp ixD (dVar 0) (dC (.int 3))) (dC (.int 1))))
  (dSeq (dIf (dAnd (dTest (dOp (eqR false) (dOp ixD (dVar 0) (dC (.int 1))) (dC (.int 0)))) (dTest (dOp (eqR true) (dOp ixD (dVar 0) (dC (.int 0))) (dLst (dNil))))) (dSeq (dAsg (dBM "list" popAtR (dOp ixD (dVar 0) (dC (.int 0))) (dCons (dC (.int 0)) (dNil))) (gNm 2))
  (dSeq (dSetI (dVar 0) (dC (.int 2)) (dCall D__law_blend [] (dCons (dOp addD (dOp ixD (dVar 0) (dC (.int 2))) (dVar 2)) (dCons (dCB (lenR) (dCons (dOp ixD (dVar 0) (dC (.int 0))) (dNil))) (dNil)))))
  (dIf (dTest (dOp (geD) (dCB absR (dCons (dVar 2) (dNil))) (dOp powD (dC (.int 10)) (dC (.int 18))))) (dSetI (dVar 0) (dC (.int 1)) (dCB absR (dCons (dVar 2) (dNil)))) (dNext)))) (dNext))
  (r__law_draw_2))
def D__law_draw : DSp := runD 2 4 r__law_draw
theorem ok__law_draw {P : Program} {w : World} {base : Heap} (E : Env K mg) (k : Nat) : FnOk P w K mg base CX0 (k + 2) E.a__law_draw E.d__law_draw ["_law_pot_here", "_law_many"] (lSp P w K 2 D__law_draw) := fnok_of E.F__law_draw sc__law_draw rfl (fun cdv A outer s H Eo B hP hw hr => by
  subst hP hw
  have hB : B.P = B.P ∧ B.w = B.w := ⟨rfl, rfl⟩
  unfold r__law_draw
  unfold r__law_draw_2
  unfold r__law_draw_1
  exact jss_cons (js_sset hB (room20 hr) (jv 0) (j_int) (j_op op_addD (j_ix (jv 0) (j_int)) (j_int)))
    (jss_cons (js_if (jt_w (jw_and (jt_cmp (op_eqD (room70 hr)) (j_ix (jv 0) (j_int)) (j_int)) (jw_and1 (jt_cmp (op_neD (room70 hr)) (j_ix (jv 0) (j_int)) (j_lst (jas_nil)))))) (jss_cons (js_set (i := 2) sc__law_draw.nd (j_bm PySem.F.plainAttrs_list PySem.F.slot_list_pop PySem.F.type_list_pop mt_popAtD (j_ix (jv 0) (j_int)) (jas_cons (j_int) (jas_nil))))
    (jss_cons (js_sset hB (room20 hr) (jv 0) (j_int) (j_call [] (ok__law_blend E k) (hr.mono (by omega)) E.m__law_blend E.F__law_blend.kp E.b__law_blend (fun _ _ _ _ q => q.1) .nil (fun _ => .nil) (jas_cons (j_op op_addD (j_ix (jv 0) (j_int)) (jv 2)) (jas_cons (j_callB (call_lenD0) E.z_len bt_len (jas_cons (j_ix (jv 0) (j_int)) (jas_nil))) (jas_nil)))))
    (jss_one (js_if (jt_cmp (op_geD) (j_callB call_absD E.z_abs bt_abs (jas_cons (jv 2) (jas_nil))) (j_op op_powD (j_int) (j_int))) (jss_one (js_sset hB (room20 hr) (jv 0) (j_int) (j_callB call_absD E.z_abs bt_abs (jas_cons (jv 2) (jas_nil))))) (jss_nil))))) (jss_nil))
    (jss_cons (js_if (jt_cmp (op_gtD) (j_ix (jv 0) (j_int)) (j_int)) (jss_cons (js_set (i := 3) sc__law_draw.nd (j_op op_modD (j_ix (jv 0) (j_int)) (jv 1)))
    (jss_cons (js_sset hB (room20 hr) (jv 0) (j_int) (j_op op_fdivD (j_ix (jv 0) (j_int)) (jv 1)))
    (jss_one (js_ret (jv 3))))) (jss_nil))
    (jss_one (js_ret (j_op op_modD (j_op op_fdivD (j_call [] (ok__law_blend E k) (hr.mono (by omega)) E.m__law_blend E.F__law_blend.kp E.b__law_blend (fun _ _ _ _ q => q.1) .nil (fun _ => .nil) (jas_cons (j_ix (jv 0) (j_int)) (jas_cons (j_ix (jv 0) (j_int)) (jas_nil)))) (j_int)) (jv 1)))))))
def r__law_pick : DS := dRet (dOp ixD (dVar 1) (dCall D__law_draw [] (dCons (dVar 0) (dCons (dCB (lenR) (dCons (dVar 1) (dNil))) (dNil)))))
def D__law_pick : DSp := runD 2 2 r__law_pick
theorem ok__law_pick {P : Program} {w : World} {base : Heap} (E : Env K mg) (k : Nat) : FnOk P w K mg base CX0 (k + 3) E.a__law_pick E.d__law_pick ["_law_pot_here", "_law_some"] (lSp P w K 2 D__law_pick) := fnok_of E.F__law_pick sc__law_pick rfl (fun cdv A outer s H Eo B hP hw hr => by
  subst hP hw
  have hB : B.P = B.P ∧ B.w = B.w := ⟨rfl, rfl⟩
  unfold r__law_pick
  exact jss_one (js_ret (j_ix (jv 1) (j_call [] (ok__law_draw E k) (hr.mono (by omega)) E.m__law_draw E.F__law_draw.kp E.b__law_draw (fun _ _ _ _ q => q.1) .nil (fun _ => .nil) (jas_cons (jv 0) (jas_cons (j_callB (call_lenD0) E.z_len bt_len (jas_cons (jv 1) (jas_nil))) (jas_nil)))))))
def l__law_text_1 : DS := dSeq (dAsg (dCall D__law_draw [] (dCons (dVar 0) (dCons (dOp addD (dCB (lenR) (dCons (dVar 2) (dNil))) (dC (.int 1))) (dNil)))) (gNm 4))
  (dAsg (dOp addD (dOp addD (dSl (dVar 2) (dNoP) (dPart (dVar 4))) (dLst (dCons (dCall D__law_pick [] (dCons (dVar 0) (dCons (dC (.str [65, 90, 95, 32, 46, 47, 126, 33, 96, 123, 64, 91, 58, 10])) (dNil)))) (dNil)))) (dSl (dVar 2) (dPart (dOp addD (dVar 4) (dC (.int 1)))) (dNoP))) (gNm 2))
def r__law_text_1 : DS := dRet (dBM "str" joinR (dC (.str [])) (dCons (dVar 2) (dNil)))
def r__law_text : DS := dSeq (dAsg (dLc (dRng1 (dCons (dVar 1) (dNil))) (gNm 5) (dYes) (dCall D__law_pick [] (dCons (dVar 0) (dCons (dC (.str [97, 98, 99, 100, 101, 102, 103, 104, 105, 106, 107, 108, 109, 110, 111, 112, 113, 114, 115, 116, 117, 118, 119, 120, 121, 122, 48, 49, 50, 51, 52, 53, 54, 55, 56, 57, 45])) (dNil)))) [5]) (gNm 2))
  (dSeq (dFor (dRng1 (dCons (dOp subD (dCall D__law_draw [] (dCons (dVar 0) (dCons (dC (.int 4)) (dNil)))) (dC (.int 1))) (dNil))) (gNm 3) (l__law_text_1))
  (r__law_text_1))
def D__law_text : DSp := runD 2 6 r__law_text
theorem ok__law_text {P : Program} {w : World} {base : Heap} (E : Env K mg) (k : Nat) : FnOk P w K mg base CX0 (k + 4) E.a__law_text E.d__law_text ["_law_pot_here", "_law_size"] (lSp P w K 2 D__law_text) := fnok_of E.F__law_text sc__law_text rfl (fun cdv A outer s H Eo B hP hw hr => by
  subst hP hw
  have hB : B.P = B.P ∧ B.w = B.w := ⟨rfl, rfl⟩
  unfold r__law_text
  unfold r__law_text_1
  unfold l__law_text_1
  exact jss_cons (js_setLc (i := 2) [("_law_k", 5)] rfl sc__law_text.nd (ji_range1 E.z_range (jas_cons (jv 1) (jas_nil))) (gl_name) (fun _ _ _ _ _ => pg_name (i := 5) sc__law_text.nd rfl (.inl rfl)) (fun _ _ _ _ _ => jts_nil) (fun _ _ _ _ _ => j_call [] (ok__law_pick E k) (hr.mono (by omega)) E.m__law_pick E.F__law_pick.kp E.b__law_pick (fun _ _ _ _ q => q.1) .nil (fun _ => .nil) (jas_cons (jv 0) (jas_cons (j_str [97, 98, 99, 100, 101, 102, 103, 104, 105, 106, 107, 108, 109, 110, 111, 112, 113, 114, 115, 116, 117, 118, 119, 120, 121, 122, 48, 49, 50, 51, 52, 53, 54, 55, 56, 57, 45]) (jas_nil)))) (ok := by kernel_rfl) (by rfl))
    (jss_cons (js_for PassesOwn.never rfl (ji_range1 E.z_range (jas_cons (j_op op_subD (j_call [] (ok__law_draw E k) (hr.mono (by omega)) E.m__law_draw E.F__law_draw.kp E.b__law_draw (fun _ _ _ _ q => q.1) .nil (fun _ => .nil) (jas_cons (jv 0) (jas_cons (j_int) (jas_nil)))) (j_int)) (jas_nil))) (jg_name (i := 3) sc__law_text.nd) (jss_cons (js_set (i := 4) sc__law_text.nd (j_call [] (ok__law_draw E k) (hr.mono (by omega)) E.m__law_draw E.F__law_draw.kp E.b__law_draw (fun _ _ _ _ q => q.1) .nil (fun _ => .nil) (jas_cons (jv 0) (jas_cons (j_op op_addD (j_callB (call_lenD0) E.z_len bt_len (jas_cons (jv 2) (jas_nil))) (j_int)) (jas_nil)))))
    (jss_one (js_set (i := 2) sc__law_text.nd (j_op op_addD (j_op op_addD (j_slice (jv 2) (jo_none) (jo_some (jv 4))) (j_lst (jas_cons (j_call [] (ok__law_pick E k) (hr.mono (by omega)) E.m__law_pick E.F__law_pick.kp E.b__law_pick (fun _ _ _ _ q => q.1) .nil (fun _ => .nil) (jas_cons (jv 0) (jas_cons (j_str [65, 90, 95, 32, 46, 47, 126, 33, 96, 123, 64, 91, 58, 10]) (jas_nil)))) (jas_nil)))) (j_slice (jv 2) (jo_some (j_op op_addD (jv 4) (j_int))) (jo_none)))))))
    (jss_one (js_ret (j_bm PySem.F.plainAttrs_str PySem.F.slot_str_join PySem.F.type_str_join mt_joinD (j_str []) (jas_cons (jv 2) (jas_nil)))))))
def r__law_things : DS := dSeq (dAsg (dLst (dCons (dCall D__law_text [] (dCons (dVar 0) (dCons (dOp addD (dC (.int 1)) (dCall D__law_draw [] (dCons (dVar 0) (dCons (dC (.int 14)) (dNil))))) (dNil)))) (dCons (dCall D__law_text [] (dCons (dVar 0) (dCons (dC (.int 12)) (dNil)))) (dCons (dCall D__law_text [] (dCons (dVar 0) (dCons (dOp addD (dC (.int 58)) (dCall D__law_draw [] (dCons (dVar 0) (dCons (dC (.int 4)) (dNil))))) (dNil)))) (dNil))))) (gNm 1))
  (dSeq (dAsg (dOp addD (dVar 1) (dLst (dCons (dCall D__law_text [] (dCons (dVar 0) (dCons (dCall D__law_draw [] (dCons (dVar 0) (dCons (dC (.int 3)) (dNil)))) (dNil)))) (dCons (dOp addD (dC (.str [32])) (dOp ixD (dVar 1) (dC (.int 0)))) (dCons (dOp addD (dOp ixD (dVar 1) (dC (.int 0))) (dC (.str [32]))) (dCons (dOp addD (dOp addD (dOp ixD (dVar 1) (dC (.int 0))) (dC (.str [32]))) (dOp ixD (dVar 1) (dC (.int 1)))) (dNil))))))) (gNm 1))
  (dSeq (dAsg (dCB tupleR (dCons (dLc (dRng1 (dCons (dCall D__law_draw [] (dCons (dVar 0) (dCons (dOp ixD (dLst (dCons (dC (.int 4)) (dCons (dC (.int 4)) (dCons (dC (.int 16)) (dNil))))) (dCall D__law_draw [] (dCons (dVar 0) (dCons (dC (.int 3)) (dNil))))) (dNil)))) (dNil))) (gNm 7) (dYes) (dCall D__law_text [] (dCons (dVar 0) (dCons (dOp addD (dC (.int 1)) (dCall D__law_draw [] (dCons (dVar 0) (dCons (dC (.int 12)) (dNil))))) (dNil)))) [7]) (dNil))) (gNm 2))
  (dSeq (dAsg (dCall D__law_pick [] (dCons (dVar 0) (dCons (dLst (dCons (dC .non) (dCons (dC (.int 1)) (dCons (dC (.bl true)) (dCons (dTup (dNil)) (dCons (dTup (dCons (dC (.str [97])) (dNil))) (dCons (dLst (dCons (dC (.str [97])) (dNil))) (dCons (dC (.str [])) (dCons (dC (.str [97, 47, 98])) (dCons (dC (.int 0)) (dCons (dEmp) (dNil)))))))))))) (dNil)))) (gNm 3))
  (dSeq (dAsg (dCall D__law_draw [] (dCons (dVar 0) (dCons (dOp addD (dCB (lenR) (dCons (dVar 2) (dNil))) (dC (.int 1))) (dNil)))) (gNm 4))
  (dSeq (dAsg (dOp addD (dVar 1) (dLst (dCons (dVar 2) (dCons (dOp addD (dOp addD (dSl (dVar 2) (dNoP) (dPart (dVar 4))) (dTup (dCons (dVar 3) (dNil)))) (dSl (dVar 2) (dPart (dVar 4)) (dNoP))) (dCons (dOp addD (dVar 2) (dVar 2)) (dCons (dCB (listR) (dCons (dVar 2) (dNil))) (dCons (dTup (dCons (dVar 2) (dNil))) (dCons (dBM "str" joinR (dC (.str [47])) (dCons (dVar 2) (dNil))) (dNil))))))))) (gNm 5))
  (dSeq (dAsg (dCB tupleR (dCons (dLc (dRng1 (dCons (dCall D__law_draw [] (dCons (dVar 0) (dCons (dC (.int 40)) (dNil)))) (dNil))) (gNm 7) (dYes) (dOp mulSD (dC (.str [97])) (dOp addD (dC (.int 1)) (dOp modD (dVar 7) (dC (.int 12))))) [7]) (dNil))) (gNm 6))
  (dRet (dOp addD (dVar 5) (dLst (dCons (dVar 6) (dCons (dOp addD (dVar 6) (dTup (dCons (dOp mulSD (dC (.str [97])) (dC (.int 13))) (dNil)))) (dCons (dTup (dNil)) (dCons (dC (.str [])) (dCons (dC (.str [32])) (dCons (dC .non) (dCons (dC (.int 0)) (dCons (dC (.int 1)) (dCons (dC (.bl true)) (dCons (dC (.bl false)) (dCons (dLst (dNil)) (dCons (dEmp) (dCons (dDisp ((dC (.str [97]), dC (.int 1)) :: ([]))) (dCons (dTup (dCons (dTup (dNil)) (dNil))) (dCons (dTup (dCons (dC (.str [])) (dNil))) (dNil)))))))))))))))))))))))))
def D__law_things : DSp := runD 1 8 r__law_things
theorem ok__law_things {P : Program} {w : World} {base : Heap} (E : Env K mg) (k : Nat) : FnOk P w K mg base CX0 (k + 5) E.a__law_things E.d__law_things ["_law_pot_here"] (lSp P w K 1 D__law_things) := fnok_of E.F__law_things sc__law_things rfl (fun cdv A outer s H Eo B hP hw hr => by
  subst hP hw
  have hB : B.P = B.P ∧ B.w = B.w := ⟨rfl, rfl⟩
  unfold r__law_things
  exact jss_cons (js_set (i := 1) sc__law_things.nd (j_lst (jas_cons (j_call [] (ok__law_text E k) (hr.mono (by omega)) E.m__law_text E.F__law_text.kp E.b__law_text (fun _ _ _ _ q => q.1) .nil (fun _ => .nil) (jas_cons (jv 0) (jas_cons (j_op op_addD (j_int) (j_call [] (ok__law_draw E k) (hr.mono (by omega)) E.m__law_draw E.F__law_draw.kp E.b__law_draw (fun _ _ _ _ q => q.1) .nil (fun _ => .nil) (jas_cons (jv 0) (jas_cons (j_int) (jas_nil))))) (jas_nil)))) (jas_cons (j_call [] (ok__law_text E k) (hr.mono (by omega)) E.m__law_text E.F__law_text.kp E.b__law_text (fun _ _ _ _ q => q.1) .nil (fun _ => .nil) (jas_cons (jv 0) (jas_cons (j_int) (jas_nil)))) (jas_cons (j_call [] (ok__law_text E k) (hr.mono (by omega)) E.m__law_text E.F__law_text.kp E.b__law_text (fun _ _ _ _ q => q.1) .nil (fun _ => .nil) (jas_cons (jv 0) (jas_cons (j_op op_addD (j_int) (j_call [] (ok__law_draw E k) (hr.mono (by omega)) E.m__law_draw E.F__law_draw.kp E.b__law_draw (fun _ _ _ _ q => q.1) .nil (fun _ => .nil) (jas_cons (jv 0) (jas_cons (j_int) (jas_nil))))) (jas_nil)))) (jas_nil))))))
    (jss_cons (js_set (i := 1) sc__law_things.nd (j_op op_addD (jv 1) (j_lst (jas_cons (j_call [] (ok__law_text E k) (hr.mono (by omega)) E.m__law_text E.F__law_text.kp E.b__law_text (fun _ _ _ _ q => q.1) .nil (fun _ => .nil) (jas_cons (jv 0) (jas_cons (j_call [] (ok__law_draw E k) (hr.mono (by omega)) E.m__law_draw E.F__law_draw.kp E.b__law_draw (fun _ _ _ _ q => q.1) .nil (fun _ => .nil) (jas_cons (jv 0) (jas_cons (j_int) (jas_nil)))) (jas_nil)))) (jas_cons (j_op op_addD (j_str [32]) (j_ix (jv 1) (j_int))) (jas_cons (j_op op_addD (j_ix (jv 1) (j_int)) (j_str [32])) (jas_cons (j_op op_addD (j_op op_addD (j_ix (jv 1) (j_int)) (j_str [32])) (j_ix (jv 1) (j_int))) (jas_nil))))))))
    (jss_cons (js_set (i := 2) sc__law_things.nd (j_callTy call_tupleD E.z_tuple bt_tuple (jas_cons (j_lc [("_law_k", 7)] rfl sc__law_things.nd (ji_range1 E.z_range (jas_cons (j_call [] (ok__law_draw E k) (hr.mono (by omega)) E.m__law_draw E.F__law_draw.kp E.b__law_draw (fun _ _ _ _ q => q.1) .nil (fun _ => .nil) (jas_cons (jv 0) (jas_cons (j_ix (j_lst (jas_cons (j_int) (jas_cons (j_int) (jas_cons (j_int) (jas_nil))))) (j_call [] (ok__law_draw E k) (hr.mono (by omega)) E.m__law_draw E.F__law_draw.kp E.b__law_draw (fun _ _ _ _ q => q.1) .nil (fun _ => .nil) (jas_cons (jv 0) (jas_cons (j_int) (jas_nil))))) (jas_nil)))) (jas_nil))) (gl_name) (fun _ _ _ _ _ => pg_name (i := 7) sc__law_things.nd rfl (.inl rfl)) (fun _ _ _ _ _ => jts_nil) (fun _ _ _ _ _ => j_call [] (ok__law_text E k) (hr.mono (by omega)) E.m__law_text E.F__law_text.kp E.b__law_text (fun _ _ _ _ q => q.1) .nil (fun _ => .nil) (jas_cons (jv 0) (jas_cons (j_op op_addD (j_int) (j_call [] (ok__law_draw E k) (hr.mono (by omega)) E.m__law_draw E.F__law_draw.kp E.b__law_draw (fun _ _ _ _ q => q.1) .nil (fun _ => .nil) (jas_cons (jv 0) (jas_cons (j_int) (jas_nil))))) (jas_nil)))) (ok := by kernel_rfl)) (jas_nil))))
    (jss_cons (js_set (i := 3) sc__law_things.nd (j_call [] (ok__law_pick E k) (hr.mono (by omega)) E.m__law_pick E.F__law_pick.kp E.b__law_pick (fun _ _ _ _ q => q.1) .nil (fun _ => .nil) (jas_cons (jv 0) (jas_cons (j_lst (jas_cons (j_non) (jas_cons (j_int) (jas_cons (j_bl) (jas_cons (j_tup (jas_nil)) (jas_cons (j_tup (jas_cons (j_str [97]) (jas_nil))) (jas_cons (j_lst (jas_cons (j_str [97]) (jas_nil))) (jas_cons (j_str []) (jas_cons (j_str [97, 47, 98]) (jas_cons (j_int) (jas_cons (j_emp) (jas_nil)))))))))))) (jas_nil)))))
    (jss_cons (js_set (i := 4) sc__law_things.nd (j_call [] (ok__law_draw E k) (hr.mono (by omega)) E.m__law_draw E.F__law_draw.kp E.b__law_draw (fun _ _ _ _ q => q.1) .nil (fun _ => .nil) (jas_cons (jv 0) (jas_cons (j_op op_addD (j_callB (call_lenD0) E.z_len bt_len (jas_cons (jv 2) (jas_nil))) (j_int)) (jas_nil)))))
    (jss_cons (js_set (i := 5) sc__law_things.nd (j_op op_addD (jv 1) (j_lst (jas_cons (jv 2) (jas_cons (j_op op_addD (j_op op_addD (j_slice (jv 2) (jo_none) (jo_some (jv 4))) (j_tup (jas_cons (jv 3) (jas_nil)))) (j_slice (jv 2) (jo_some (jv 4)) (jo_none))) (jas_cons (j_op op_addD (jv 2) (jv 2)) (jas_cons (j_callTy (KB.call_listD) E.z_list bt_list (jas_cons (jv 2) (jas_nil))) (jas_cons (j_tup (jas_cons (jv 2) (jas_nil))) (jas_cons (j_bm PySem.F.plainAttrs_str PySem.F.slot_str_join PySem.F.type_str_join mt_joinD (j_str [47]) (jas_cons (jv 2) (jas_nil))) (jas_nil))))))))))
    (jss_cons (js_set (i := 6) sc__law_things.nd (j_callTy call_tupleD E.z_tuple bt_tuple (jas_cons (j_lc [("_law_k", 7)] rfl sc__law_things.nd (ji_range1 E.z_range (jas_cons (j_call [] (ok__law_draw E k) (hr.mono (by omega)) E.m__law_draw E.F__law_draw.kp E.b__law_draw (fun _ _ _ _ q => q.1) .nil (fun _ => .nil) (jas_cons (jv 0) (jas_cons (j_int) (jas_nil)))) (jas_nil))) (gl_name) (fun _ _ _ _ _ => pg_name (i := 7) sc__law_things.nd rfl (.inl rfl)) (fun _ _ _ _ _ => jts_nil) (fun _ _ _ _ _ => j_op op_mulSD (j_str [97]) (j_op op_addD (j_int) (j_op op_modD (jv 7) (j_int)))) (ok := by kernel_rfl)) (jas_nil))))
    (jss_one (js_ret (j_op op_addD (jv 5) (j_lst (jas_cons (jv 6) (jas_cons (j_op op_addD (jv 6) (j_tup (jas_cons (j_op op_mulSD (j_str [97]) (j_int)) (jas_nil)))) (jas_cons (j_tup (jas_nil)) (jas_cons (j_str []) (jas_cons (j_str [32]) (jas_cons (j_non) (jas_cons (j_int) (jas_cons (j_int) (jas_cons (j_bl) (jas_cons (j_bl) (jas_cons (j_lst (jas_nil)) (jas_cons (j_emp) (jas_cons (j_disp (jps_cons (j_str [97]) (j_int) (jps_nil))) (jas_cons (j_tup (jas_cons (j_tup (jas_nil)) (jas_nil))) (jas_cons (j_tup (jas_cons (j_str []) (jas_nil))) (jas_nil)))))))))))))))))))))))))))
def r_is_word_1 : DS := dRet (dCB allR (dCons (dLc (dOverS (dVar 0)) (gNm 1) (dYes) (dOp (inSR false) (dVar 1) (dC (.str [97, 98, 99, 100, 101, 102, 103, 104, 105, 106, 107, 108, 109, 110, 111, 112, 113, 114, 115, 116, 117, 118, 119, 120, 121, 122, 48, 49, 50, 51, 52, 53, 54, 55, 56, 57, 45]))) [1]) (dNil)))
def r_is_word : DS := dSeq (dIf (dOr (dNot (dTru (dCB isiR (dCons (dVar 0) (dCons (dC (.ty "str")) dNil))))) (dNot (dTest (dChain (leD) (leD) (dC (.int 1)) (dCB (lenR) (dCons (dVar 0) (dNil))) (dC (.int 12)))))) (dRet (dC (.bl false))) (dNext))
  (r_is_word_1)
def D_is_word : DSp := runD 1 2 r_is_word
theorem ok_is_word {P : Program} {w : World} {base : Heap} (E : Env K mg) (k : Nat) : FnOk P w K mg base CX0 (k + 1) E.a_is_word E.d_is_word ["thing"] (lSp P w K 1 D_is_word) := fnok_of E.F_is_word sc_is_word rfl (fun cdv A outer s H Eo B hP hw hr => by
  subst hP hw
  have hB : B.P = B.P ∧ B.w = B.w := ⟨rfl, rfl⟩
  unfold r_is_word
  unfold r_is_word_1
  exact jss_cons (js_if (jt_w (jw_or (jt_not (jt_tru (j_callB call_isiD E.z_isinstance bt_isinstance (jas_cons (jv 0) (jas_cons (j_tyName "str" E.z_str bt_str) jas_nil))))) (jw_or1 (jt_not (jt_chain (op_leD) (op_leD) (j_int) (j_callB (call_lenD0) E.z_len bt_len (jas_cons (jv 0) (jas_nil))) (j_globI E.c_MOST_SIGNS)))))) (jss_one (js_ret (j_bl))) (jss_nil))
    (jss_one (js_ret (j_callB (call_allD rfl) E.z_all bt_all (jas_cons (j_lc [("sign", 1)] rfl sc_is_word.nd (ji_str (jv 0)) (gl_name) (fun _ _ _ _ _ => pg_name (i := 1) sc_is_word.nd rfl (.inl rfl)) (fun _ _ _ _ _ => jts_nil) (fun _ _ _ _ _ => j_cmp (op_inSD) (jv 1) (j_globS [97, 98, 99, 100, 101, 102, 103, 104, 105, 106, 107, 108, 109, 110, 111, 112, 113, 114, 115, 116, 117, 118, 119, 120, 121, 122, 48, 49, 50, 51, 52, 53, 54, 55, 56, 57, 45] E.c_WORD_SIGNS)) (ok := by kernel_rfl)) (jas_nil))))))
def r_is_title_1 : DS := dRet (dCB allR (dCons (dLc (dOverS (dVar 0)) (gNm 1) (dYes) (dChain (leD) (leD) (dC (.str [32])) (dVar 1) (dC (.str [126]))) [1]) (dNil)))
def r_is_title_2 : DS := dSeq (dIf (dOr (dTest (dOp (eqR false) (dOp ixD (dVar 0) (dC (.int 0))) (dC (.str [32])))) (dTest (dOp (eqR false) (dOp ixD (dVar 0) (dNeg (dC (.int 1)))) (dC (.str [32]))))) (dRet (dC (.bl false))) (dNext))
  (r_is_title_1)
def r_is_title : DS := dSeq (dIf (dOr (dNot (dTru (dCB isiR (dCons (dVar 0) (dCons (dC (.ty "str")) dNil))))) (dNot (dTest (dChain (leD) (leD) (dC (.int 1)) (dCB (lenR) (dCons (dVar 0) (dNil))) (dC (.int 60)))))) (dRet (dC (.bl false))) (dNext))
  (r_is_title_2)
def D_is_title : DSp := runD 1 2 r_is_title
theorem ok_is_title {P : Program} {w : World} {base : Heap} (E : Env K mg) (k : Nat) : FnOk P w K mg base CX0 (k + 1) E.a_is_title E.d_is_title ["thing"] (lSp P w K 1 D_is_title) := fnok_of E.F_is_title sc_is_title rfl (fun cdv A outer s H Eo B hP hw hr => by
  subst hP hw
  have hB : B.P = B.P ∧ B.w = B.w := ⟨rfl, rfl⟩
  unfold r_is_title
  unfold r_is_title_2
  unfold r_is_title_1
  exact jss_cons (js_if (jt_w (jw_or (jt_not (jt_tru (j_callB call_isiD E.z_isinstance bt_isinstance (jas_cons (jv 0) (jas_cons (j_tyName "str" E.z_str bt_str) jas_nil))))) (jw_or1 (jt_not (jt_chain (op_leD) (op_leD) (j_int) (j_callB (call_lenD0) E.z_len bt_len (jas_cons (jv 0) (jas_nil))) (j_globI E.c_MOST_TITLE)))))) (jss_one (js_ret (j_bl))) (jss_nil))
    (jss_cons (js_if (jt_w (jw_or (jt_cmp (op_eqD (room70 hr)) (j_ix (jv 0) (j_int)) (j_str [32])) (jw_or1 (jt_cmp (op_eqD (room70 hr)) (j_ix (jv 0) (j_neg (j_int))) (j_str [32]))))) (jss_one (js_ret (j_bl))) (jss_nil))
    (jss_one (js_ret (j_callB (call_allD rfl) E.z_all bt_all (jas_cons (j_lc [("sign", 1)] rfl sc_is_title.nd (ji_str (jv 0)) (gl_name) (fun _ _ _ _ _ => pg_name (i := 1) sc_is_title.nd rfl (.inl rfl)) (fun _ _ _ _ _ => jts_nil) (fun _ _ _ _ _ => j_chain (op_leD) (op_leD) (j_str [32]) (jv 1) (j_str [126])) (ok := by kernel_rfl)) (jas_nil)))))))
def r_is_path : DS := dRet (dAndT (dCB isiR (dCons (dVar 0) (dCons (dC (.ty "tuple")) dNil))) (dCB allR (dCons (dLc (dOverT (dVar 0)) (gNm 1) (dYes) (dCall D_is_word [] (dCons (dVar 1) (dNil))) [1]) (dNil))))
def D_is_path : DSp := runD 1 2 r_is_path
theorem ok_is_path {P : Program} {w : World} {base : Heap} (E : Env K mg) (k : Nat) : FnOk P w K mg base CX0 (k + 2) E.a_is_path E.d_is_path ["thing"] (lSp P w K 1 D_is_path) := fnok_of E.F_is_path sc_is_path rfl (fun cdv A outer s H Eo B hP hw hr => by
  subst hP hw
  have hB : B.P = B.P ∧ B.w = B.w := ⟨rfl, rfl⟩
  unfold r_is_path
  exact jss_one (js_ret (j_and (j_callB call_isiD E.z_isinstance bt_isinstance (jas_cons (jv 0) (jas_cons (j_tyName "tuple" E.z_tuple bt_tuple) jas_nil))) (j_one (j_callB (call_allD rfl) E.z_all bt_all (jas_cons (j_lc [("word", 1)] rfl sc_is_path.nd (ji_tup (jv 0)) (gl_name) (fun _ _ _ _ _ => pg_name (i := 1) sc_is_path.nd rfl (.inl rfl)) (fun _ _ _ _ _ => jts_nil) (fun _ _ _ _ _ => j_call [] (ok_is_word E k) (hr.mono (by omega)) E.m_is_word E.F_is_word.kp E.b_is_word (fun _ _ _ _ q => q.1) .nil (fun _ => .nil) (jas_cons (jv 1) (jas_nil))) (ok := by kernel_rfl)) (jas_nil)))))))
def r__law_is_word_1 : DS := dRet (dCB allR (dCons (dLc (dOverS (dVar 0)) (gNm 1) (dYes) (dOrT (dChain (leD) (leD) (dC (.str [97])) (dVar 1) (dC (.str [122]))) (dOrT (dChain (leD) (leD) (dC (.str [48])) (dVar 1) (dC (.str [57]))) (dOp (eqR false) (dVar 1) (dC (.str [45]))))) [1]) (dNil)))
def r__law_is_word : DS := dSeq (dIf (dOr (dNot (dTru (dCB isiR (dCons (dVar 0) (dCons (dC (.ty "str")) dNil))))) (dTest (dOp (rngInR true) (dCB (lenR) (dCons (dVar 0) (dNil))) (dCB rangeR (dCons (dC (.int 1)) (dCons (dC (.int 13)) (dNil))))))) (dRet (dC (.bl false))) (dNext))
  (r__law_is_word_1)
def D__law_is_word : DSp := runD 1 2 r__law_is_word
theorem ok__law_is_word {P : Program} {w : World} {base : Heap} (E : Env K mg) (k : Nat) : FnOk P w K mg base CX0 (k + 1) E.a__law_is_word E.d__law_is_word ["_law_thing"] (lSp P w K 1 D__law_is_word) := fnok_of E.F__law_is_word sc__law_is_word rfl (fun cdv A outer s H Eo B hP hw hr => by
  subst hP hw
  have hB : B.P = B.P ∧ B.w = B.w := ⟨rfl, rfl⟩
  unfold r__law_is_word
  unfold r__law_is_word_1
  exact jss_cons (js_if (jt_w (jw_or (jt_not (jt_tru (j_callB call_isiD E.z_isinstance bt_isinstance (jas_cons (jv 0) (jas_cons (j_tyName "str" E.z_str bt_str) jas_nil))))) (jw_or1 (jt_cmp (op_niRngD) (j_callB (call_lenD0) E.z_len bt_len (jas_cons (jv 0) (jas_nil))) (j_callTy call_rangeD E.z_range bt_range (jas_cons (j_int) (jas_cons (j_int) (jas_nil)))))))) (jss_one (js_ret (j_bl))) (jss_nil))
    (jss_one (js_ret (j_callB (call_allD rfl) E.z_all bt_all (jas_cons (j_lc [("_law_sign", 1)] rfl sc__law_is_word.nd (ji_str (jv 0)) (gl_name) (fun _ _ _ _ _ => pg_name (i := 1) sc__law_is_word.nd rfl (.inl rfl)) (fun _ _ _ _ _ => jts_nil) (fun _ _ _ _ _ => j_or (j_chain (op_leD) (op_leD) (j_str [97]) (jv 1) (j_str [122])) (j_or (j_chain (op_leD) (op_leD) (j_str [48]) (jv 1) (j_str [57])) (j_one (j_cmp (op_eqD (room70 hr)) (jv 1) (j_str [45]))))) (ok := by kernel_rfl)) (jas_nil))))))
def r__law_is_title_1 : DS := dRet (dOp (inSR true) (dC (.str [10])) (dVar 0))
def r__law_is_title : DS := dSeq (dIf (dOr (dNot (dTru (dCB isiR (dCons (dVar 0) (dCons (dC (.ty "str")) dNil))))) (dOr (dTest (dOp (eqR false) (dVar 0) (dC (.str [])))) (dOr (dTest (dOp (eqR true) (dBM "str" stripR (dVar 0) (dCons (dC (.str [32])) (dNil))) (dVar 0))) (dTest (dOp (gtD) (dCB (lenR) (dCons (dVar 0) (dNil))) (dC (.int 60))))))) (dRet (dC (.bl false))) (dNext))
  (r__law_is_title_1)
def D__law_is_title : DSp := runD 1 1 r__law_is_title
theorem ok__law_is_title {P : Program} {w : World} {base : Heap} (E : Env K mg) (k : Nat) : FnOk P w K mg base CX0 (k + 1) E.a__law_is_title E.d__law_is_title ["_law_thing"] (lSp P w K 1 D__law_is_title) := fnok_of E.F__law_is_title sc__law_is_title rfl (fun cdv A outer s H Eo B hP hw hr => by
  subst hP hw
  have hB : B.P = B.P ∧ B.w = B.w := ⟨rfl, rfl⟩
  unfold r__law_is_title
  unfold r__law_is_title_1
  exact jss_cons (js_if (jt_w (jw_or (jt_not (jt_tru (j_callB call_isiD E.z_isinstance bt_isinstance (jas_cons (jv 0) (jas_cons (j_tyName "str" E.z_str bt_str) jas_nil))))) (jw_or (jt_cmp (op_eqD (room70 hr)) (jv 0) (j_str [])) (jw_or (jt_cmp (op_neD (room70 hr)) (j_bm PySem.F.plainAttrs_str PySem.F.slot_str_strip PySem.F.type_str_strip mt_stripD (jv 0) (jas_cons (j_str [32]) (jas_nil))) (jv 0)) (jw_or1 (jt_cmp (op_gtD) (j_callB (call_lenD0) E.z_len bt_len (jas_cons (jv 0) (jas_nil))) (j_int))))))) (jss_one (js_ret (j_bl))) (jss_nil))
    (jss_one (js_ret (j_cmp (op_niSD) (j_str [10]) (jv 0)))))
def r__law_is_path : DS := dRet (dAndT (dCB isiR (dCons (dVar 0) (dCons (dC (.ty "tuple")) dNil))) (dCB allR (dCons (dLc (dOverT (dVar 0)) (gNm 1) (dYes) (dCall D__law_is_word [] (dCons (dVar 1) (dNil))) [1]) (dNil))))
def D__law_is_path : DSp := runD 1 2 r__law_is_path
theorem ok__law_is_path {P : Program} {w : World} {base : Heap} (E : Env K mg) (k : Nat) : FnOk P w K mg base CX0 (k + 2) E.a__law_is_path E.d__law_is_path ["_law_thing"] (lSp P w K 1 D__law_is_path) := fnok_of E.F__law_is_path sc__law_is_path rfl (fun cdv A outer s H Eo B hP hw hr => by
  subst hP hw
  have hB : B.P = B.P ∧ B.w = B.w := ⟨rfl, rfl⟩
  unfold r__law_is_path
  exact jss_one (js_ret (j_and (j_callB call_isiD E.z_isinstance bt_isinstance (jas_cons (jv 0) (jas_cons (j_tyName "tuple" E.z_tuple bt_tuple) jas_nil))) (j_one (j_callB (call_allD rfl) E.z_all bt_all (jas_cons (j_lc [("_law_one", 1)] rfl sc__law_is_path.nd (ji_tup (jv 0)) (gl_name) (fun _ _ _ _ _ => pg_name (i := 1) sc__law_is_path.nd rfl (.inl rfl)) (fun _ _ _ _ _ => jts_nil) (fun _ _ _ _ _ => j_call [] (ok__law_is_word E k) (hr.mono (by omega)) E.m__law_is_word E.F__law_is_word.kp E.b__law_is_word (fun _ _ _ _ q => q.1) .nil (fun _ => .nil) (jas_cons (jv 1) (jas_nil))) (ok := by kernel_rfl)) (jas_nil)))))))
def r_law_1 : DS := dIf (dTest (dOp (eqR true) (dVar 4) (dLst (dCons (dCall D__law_is_word [] (dCons (dVar 3) (dNil))) (dCons (dCall D__law_is_title [] (dCons (dVar 3) (dNil))) (dCons (dCall D__law_is_path [] (dCons (dVar 3) (dNil))) (dNil))))))) (dRet (dC (.bl false))) (dNext)
def l_law_1 : DS := dSeq (dAsg (dLst (dCons (dCall D_is_word [] (dCons (dVar 3) (dNil))) (dCons (dCall D_is_title [] (dCons (dVar 3) (dNil))) (dCons (dCall D_is_path [] (dCons (dVar 3) (dNil))) (dNil))))) (gNm 4))
  (dSeq (dIf (dNot (dTru (dCB allR (dCons (dLc (dOver (dVar 4)) (gNm 5) (dYes) (dCB isiR (dCons (dVar 5) (dCons (dC (.ty "bool")) dNil))) [5]) (dNil))))) (dRet (dC (.bl false))) (dNext))
  (r_law_1))
def l_law_2 : DS := dFor (dOver (dCall D__law_things [] (dCons (dVar 1) (dNil)))) (gNm 3) (l_law_1)
def r_law_2 : DS := dRet (dC (.bl true))
def r_law : DS := dSeq (dAsg (dCall D__law_pot [] (dCons (dVar 0) (dNil))) (gNm 1))
  (dSeq (dFor (dRng1 (dCons (dCB max2R (dCons (dC (.int 1)) (dCons (dCB min2R (dCons (dCB (lenR) (dCons (dVar 0) (dNil))) (dCons (dC (.int 8)) (dNil)))) (dNil)))) (dNil))) (gNm 2) (l_law_2))
  (r_law_2))
def D_law : DSp := runD 1 6 r_law
theorem ok_law {P : Program} {w : World} {base : Heap} (E : Env K mg) (k : Nat) : FnOk P w K mg base CX0 (k + 6) E.a_law E.d_law ["_law_script"] (lSp P w K 1 D_law) := fnok_of E.F_law sc_law rfl (fun cdv A outer s H Eo B hP hw hr => by
  subst hP hw
  have hB : B.P = B.P ∧ B.w = B.w := ⟨rfl, rfl⟩
  unfold r_law
  unfold r_law_2
  unfold l_law_2
  unfold l_law_1
  unfold r_law_1
  exact jss_cons (js_set (i := 1) sc_law.nd (j_call [] (ok__law_pot E k) (hr.mono (by omega)) E.m__law_pot E.F__law_pot.kp E.b__law_pot (fun _ _ _ _ q => q.1) .nil (fun _ => .nil) (jas_cons (jv 0) (jas_nil))))
    (jss_cons (js_for PassesOwn.never rfl (ji_range1 E.z_range (jas_cons (j_callB (call_max2D rfl) E.z_max bt_max (jas_cons (j_int) (jas_cons (j_callB (call_min2D rfl) E.z_min bt_min (jas_cons (j_callB (call_lenD0) E.z_len bt_len (jas_cons (jv 0) (jas_nil))) (jas_cons (j_int) (jas_nil)))) (jas_nil)))) (jas_nil))) (jg_name (i := 2) sc_law.nd) (jss_one (js_for PassesOwn.never rfl (ji_list (j_call [] (ok__law_things E k) (hr.mono (by omega)) E.m__law_things E.F__law_things.kp E.b__law_things (fun _ _ _ _ q => q.1) .nil (fun _ => .nil) (jas_cons (jv 1) (jas_nil)))) (jg_name (i := 3) sc_law.nd) (jss_cons (js_set (i := 4) sc_law.nd (j_lst (jas_cons (j_call [] (ok_is_word E k) (hr.mono (by omega)) E.m_is_word E.F_is_word.kp E.b_is_word (fun _ _ _ _ q => q.1) .nil (fun _ => .nil) (jas_cons (jv 3) (jas_nil))) (jas_cons (j_call [] (ok_is_title E k) (hr.mono (by omega)) E.m_is_title E.F_is_title.kp E.b_is_title (fun _ _ _ _ q => q.1) .nil (fun _ => .nil) (jas_cons (jv 3) (jas_nil))) (jas_cons (j_call [] (ok_is_path E k) (hr.mono (by omega)) E.m_is_path E.F_is_path.kp E.b_is_path (fun _ _ _ _ q => q.1) .nil (fun _ => .nil) (jas_cons (jv 3) (jas_nil))) (jas_nil))))))
    (jss_cons (js_if (jt_not (jt_tru (j_callB (call_allD rfl) E.z_all bt_all (jas_cons (j_lc [("_law_one", 5)] rfl sc_law.nd (ji_list (jv 4)) (gl_name) (fun _ _ _ _ _ => pg_name (i := 5) sc_law.nd rfl (.inl rfl)) (fun _ _ _ _ _ => jts_nil) (fun _ _ _ _ _ => j_callB call_isiD E.z_isinstance bt_isinstance (jas_cons (jv 5) (jas_cons (j_tyName "bool" E.z_bool bt_bool) jas_nil))) (ok := by kernel_rfl)) (jas_nil))))) (jss_one (js_ret (j_bl))) (jss_nil))
    (jss_one (js_if (jt_cmp (op_neD (room70 hr)) (jv 4) (j_lst (jas_cons (j_call [] (ok__law_is_word E k) (hr.mono (by omega)) E.m__law_is_word E.F__law_is_word.kp E.b__law_is_word (fun _ _ _ _ q => q.1) .nil (fun _ => .nil) (jas_cons (jv 3) (jas_nil))) (jas_cons (j_call [] (ok__law_is_title E k) (hr.mono (by omega)) E.m__law_is_title E.F__law_is_title.kp E.b__law_is_title (fun _ _ _ _ q => q.1) .nil (fun _ => .nil) (jas_cons (jv 3) (jas_nil))) (jas_cons (j_call [] (ok__law_is_path E k) (hr.mono (by omega)) E.m__law_is_path E.F__law_is_path.kp E.b__law_is_path (fun _ _ _ _ q => q.1) .nil (fun _ => .nil) (jas_cons (jv 3) (jas_nil))) (jas_nil)))))) (jss_one (js_ret (j_bl))) (jss_nil))))))))
    (jss_one (js_ret (j_bl)))))
end
theorem all_mk {l : PySem.W.OpenLaw} {w : World} {K : PySem.W.Frag} {h : Heap} {mg : Str → Option Value} {fa : Addr} (X : K.In h) (G : h.Ns mainGlobals mg) (hfa : mg "law" = some (.ref fa))
    {f1 f2 f3 f4 f5 f6 f7 f8 f9 f10 f11 f12 f13 : Addr} {od1 an1 od2 an2 od3 an3 od4 an4 od5 an5 od6 an6 od7 an7 od8 an8 od9 an9 od10 an10 od11 an11 od12 an12 od13 an13 : Option Addr} {sl1 sl2 sl3 sl4 sl5 sl6 sl7 sl8 sl9 sl10 sl11 sl12 sl13 : Array (Option Value)} {oc1 kV1 dc1 pm1 cd1 ct1 oc2 kV2 dc2 pm2 cd2 ct2 oc3 kV3 dc3 pm3 cd3 ct3 oc4 kV4 dc4 pm4 cd4 ct4 oc5 kV5 dc5 pm5 cd5 ct5 oc6 kV6 dc6 pm6 cd6 ct6 oc7 kV7 dc7 pm7 cd7 ct7 oc8 kV8 dc8 pm8 cd8 ct8 oc9 kV9 dc9 pm9 cd9 ct9 oc10 kV10 dc10 pm10 cd10 ct10 oc11 kV11 dc11 pm11 cd11 ct11 oc12 kV12 dc12 pm12 cd12 ct12 oc13 kV13 dc13 pm13 cd13 ct13 : Value}
    (a1 : PySem.W.nsIn K mainGlobals "_law_pot" = some (some (.ref f1))) (l1 : K.lookup f1 = some ⟨oc1, od1, .func (PySem.W.fnOf "_law_pot" "_law_pot" (defArgs s__law_pot) (defBody s__law_pot) (defScope s__law_pot) .none kV1 dc1 pm1 an1 cd1 ct1), sl1⟩) (c1 : PySem.W.codeIn K cd1 "_law_pot" = true) (k1 : PySem.W.keepIn K (.ref f1) = true)
    (a2 : PySem.W.nsIn K mainGlobals "_law_blend" = some (some (.ref f2))) (l2 : K.lookup f2 = some ⟨oc2, od2, .func (PySem.W.fnOf "_law_blend" "_law_blend" (defArgs s__law_blend) (defBody s__law_blend) (defScope s__law_blend) .none kV2 dc2 pm2 an2 cd2 ct2), sl2⟩) (c2 : PySem.W.codeIn K cd2 "_law_blend" = true) (k2 : PySem.W.keepIn K (.ref f2) = true)
    (a3 : PySem.W.nsIn K mainGlobals "_law_draw" = some (some (.ref f3))) (l3 : K.lookup f3 = some ⟨oc3, od3, .func (PySem.W.fnOf "_law_draw" "_law_draw" (defArgs s__law_draw) (defBody s__law_draw) (defScope s__law_draw) .none kV3 dc3 pm3 an3 cd3 ct3), sl3⟩) (c3 : PySem.W.codeIn K cd3 "_law_draw" = true) (k3 : PySem.W.keepIn K (.ref f3) = true)
    (a4 : PySem.W.nsIn K mainGlobals "_law_pick" = some (some (.ref f4))) (l4 : K.lookup f4 = some ⟨oc4, od4, .func (PySem.W.fnOf "_law_pick" "_law_pick" (defArgs s__law_pick) (defBody s__law_pick) (defScope s__law_pick) .none kV4 dc4 pm4 an4 cd4 ct4), sl4⟩) (c4 : PySem.W.codeIn K cd4 "_law_pick" = true) (k4 : PySem.W.keepIn K (.ref f4) = true)
    (a5 : PySem.W.nsIn K mainGlobals "_law_text" = some (some (.ref f5))) (l5 : K.lookup f5 = some ⟨oc5, od5, .func (PySem.W.fnOf "_law_text" "_law_text" (defArgs s__law_text) (defBody s__law_text) (defScope s__law_text) .none kV5 dc5 pm5 an5 cd5 ct5), sl5⟩) (c5 : PySem.W.codeIn K cd5 "_law_text" = true) (k5 : PySem.W.keepIn K (.ref f5) = true)
    (a6 : PySem.W.nsIn K mainGlobals "_law_things" = some (some (.ref f6))) (l6 : K.lookup f6 = some ⟨oc6, od6, .func (PySem.W.fnOf "_law_things" "_law_things" (defArgs s__law_things) (defBody s__law_things) (defScope s__law_things) .none kV6 dc6 pm6 an6 cd6 ct6), sl6⟩) (c6 : PySem.W.codeIn K cd6 "_law_things" = true) (k6 : PySem.W.keepIn K (.ref f6) = true)
    (a7 : PySem.W.nsIn K mainGlobals "is_word" = some (some (.ref f7))) (l7 : K.lookup f7 = some ⟨oc7, od7, .func (PySem.W.fnOf "is_word" "is_word" (defArgs s_is_word) (defBody s_is_word) (defScope s_is_word) .none kV7 dc7 pm7 an7 cd7 ct7), sl7⟩) (c7 : PySem.W.codeIn K cd7 "is_word" = true) (k7 : PySem.W.keepIn K (.ref f7) = true)
    (a8 : PySem.W.nsIn K mainGlobals "is_title" = some (some (.ref f8))) (l8 : K.lookup f8 = some ⟨oc8, od8, .func (PySem.W.fnOf "is_title" "is_title" (defArgs s_is_title) (defBody s_is_title) (defScope s_is_title) .none kV8 dc8 pm8 an8 cd8 ct8), sl8⟩) (c8 : PySem.W.codeIn K cd8 "is_title" = true) (k8 : PySem.W.keepIn K (.ref f8) = true)
    (a9 : PySem.W.nsIn K mainGlobals "is_path" = some (some (.ref f9))) (l9 : K.lookup f9 = some ⟨oc9, od9, .func (PySem.W.fnOf "is_path" "is_path" (defArgs s_is_path) (defBody s_is_path) (defScope s_is_path) .none kV9 dc9 pm9 an9 cd9 ct9), sl9⟩) (c9 : PySem.W.codeIn K cd9 "is_path" = true) (k9 : PySem.W.keepIn K (.ref f9) = true)
    (a10 : PySem.W.nsIn K mainGlobals "_law_is_word" = some (some (.ref f10))) (l10 : K.lookup f10 = some ⟨oc10, od10, .func (PySem.W.fnOf "_law_is_word" "_law_is_word" (defArgs s__law_is_word) (defBody s__law_is_word) (defScope s__law_is_word) .none kV10 dc10 pm10 an10 cd10 ct10), sl10⟩) (c10 : PySem.W.codeIn K cd10 "_law_is_word" = true) (k10 : PySem.W.keepIn K (.ref f10) = true)
    (a11 : PySem.W.nsIn K mainGlobals "_law_is_title" = some (some (.ref f11))) (l11 : K.lookup f11 = some ⟨oc11, od11, .func (PySem.W.fnOf "_law_is_title" "_law_is_title" (defArgs s__law_is_title) (defBody s__law_is_title) (defScope s__law_is_title) .none kV11 dc11 pm11 an11 cd11 ct11), sl11⟩) (c11 : PySem.W.codeIn K cd11 "_law_is_title" = true) (k11 : PySem.W.keepIn K (.ref f11) = true)
    (a12 : PySem.W.nsIn K mainGlobals "_law_is_path" = some (some (.ref f12))) (l12 : K.lookup f12 = some ⟨oc12, od12, .func (PySem.W.fnOf "_law_is_path" "_law_is_path" (defArgs s__law_is_path) (defBody s__law_is_path) (defScope s__law_is_path) .none kV12 dc12 pm12 an12 cd12 ct12), sl12⟩) (c12 : PySem.W.codeIn K cd12 "_law_is_path" = true) (k12 : PySem.W.keepIn K (.ref f12) = true)
    (a13 : PySem.W.nsIn K mainGlobals "law" = some (some (.ref f13))) (l13 : K.lookup f13 = some ⟨oc13, od13, .func (PySem.W.fnOf "law" "law" (defArgs s_law) (defBody s_law) (defScope s_law) .none kV13 dc13 pm13 an13 cd13 ct13), sl13⟩) (c13 : PySem.W.codeIn K cd13 "law" = true) (k13 : PySem.W.keepIn K (.ref f13) = true)
    (z_abs : PySem.W.nsIn K mainGlobals "abs" = some none)
    (z_all : PySem.W.nsIn K mainGlobals "all" = some none)
    (z_bool : PySem.W.nsIn K mainGlobals "bool" = some none)
    (z_isinstance : PySem.W.nsIn K mainGlobals "isinstance" = some none)
    (z_len : PySem.W.nsIn K mainGlobals "len" = some none)
    (z_list : PySem.W.nsIn K mainGlobals "list" = some none)
    (z_max : PySem.W.nsIn K mainGlobals "max" = some none)
    (z_min : PySem.W.nsIn K mainGlobals "min" = some none)
    (z_range : PySem.W.nsIn K mainGlobals "range" = some none)
    (z_str : PySem.W.nsIn K mainGlobals "str" = some none)
    (z_tuple : PySem.W.nsIn K mainGlobals "tuple" = some none)
    {t_MOST_SIGNS : Tok}
    (g_MOST_SIGNS : PySem.W.nsIn K mainGlobals "MOST_SIGNS" = some (some (.int 12 t_MOST_SIGNS)))
    {t_MOST_TITLE : Tok}
    (g_MOST_TITLE : PySem.W.nsIn K mainGlobals "MOST_TITLE" = some (some (.int 60 t_MOST_TITLE)))
    {t_WORD_SIGNS : Tok}
    (g_WORD_SIGNS : PySem.W.nsIn K mainGlobals "WORD_SIGNS" = some (some (.str (PySem.Str.ofString "abcdefghijklmnopqrstuvwxyz0123456789-") t_WORD_SIGNS)))
    : ∃ fd : FuncData, (∀ (s : Shared) (v : Value), BindsTo s fd ⟨[v], []⟩ [("_law_script", v)]) ∧ ∀ base : Heap, K.In base → base.Ns mainGlobals mg → FnOk l.prog w K mg base CX0 6 fa fd ["_law_script"] (lSp l.prog w K 1 D_law) := by
  have e := hfa.symm.trans (PySem.W.mg_of X G a13)
  cases e
  have F1 := fun_mk (st := s__law_pot) l1 c1 k1
  have F2 := fun_mk (st := s__law_blend) l2 c2 k2
  have F3 := fun_mk (st := s__law_draw) l3 c3 k3
  have F4 := fun_mk (st := s__law_pick) l4 c4 k4
  have F5 := fun_mk (st := s__law_text) l5 c5 k5
  have F6 := fun_mk (st := s__law_things) l6 c6 k6
  have F7 := fun_mk (st := s_is_word) l7 c7 k7
  have F8 := fun_mk (st := s_is_title) l8 c8 k8
  have F9 := fun_mk (st := s_is_path) l9 c9 k9
  have F10 := fun_mk (st := s__law_is_word) l10 c10 k10
  have F11 := fun_mk (st := s__law_is_title) l11 c11 k11
  have F12 := fun_mk (st := s__law_is_path) l12 c12 k12
  have F13 := fun_mk (st := s_law) l13 c13 k13
  have b1 := F1.binds (ps := ["_law_script"]) fun _ _ _ _ _ _ us hl => match us, hl with | [_], _ => rfl
  have b2 := F2.binds (ps := ["_law_number", "_law_turn"]) fun _ _ _ _ _ _ us hl => match us, hl with | [_, _], _ => rfl
  have b3 := F3.binds (ps := ["_law_pot_here", "_law_many"]) fun _ _ _ _ _ _ us hl => match us, hl with | [_, _], _ => rfl
  have b4 := F4.binds (ps := ["_law_pot_here", "_law_some"]) fun _ _ _ _ _ _ us hl => match us, hl with | [_, _], _ => rfl
  have b5 := F5.binds (ps := ["_law_pot_here", "_law_size"]) fun _ _ _ _ _ _ us hl => match us, hl with | [_, _], _ => rfl
  have b6 := F6.binds (ps := ["_law_pot_here"]) fun _ _ _ _ _ _ us hl => match us, hl with | [_], _ => rfl
  have b7 := F7.binds (ps := ["thing"]) fun _ _ _ _ _ _ us hl => match us, hl with | [_], _ => rfl
  have b8 := F8.binds (ps := ["thing"]) fun _ _ _ _ _ _ us hl => match us, hl with | [_], _ => rfl
  have b9 := F9.binds (ps := ["thing"]) fun _ _ _ _ _ _ us hl => match us, hl with | [_], _ => rfl
  have b10 := F10.binds (ps := ["_law_thing"]) fun _ _ _ _ _ _ us hl => match us, hl with | [_], _ => rfl
  have b11 := F11.binds (ps := ["_law_thing"]) fun _ _ _ _ _ _ us hl => match us, hl with | [_], _ => rfl
  have b12 := F12.binds (ps := ["_law_thing"]) fun _ _ _ _ _ _ us hl => match us, hl with | [_], _ => rfl
  have b13 := F13.binds (ps := ["_law_script"]) fun _ _ _ _ _ _ us hl => match us, hl with | [_], _ => rfl
  refine ⟨PySem.W.fnOf "law" "law" (defArgs s_law) (defBody s_law) (defScope s_law) .none kV13 dc13 pm13 an13 cd13 ct13, fun s v => .of_eq rfl, fun base _ _ => ?_⟩
  -- the environment
  have g : FnOk l.prog w K mg base CX0 (0 + 6) _ _ ["_law_script"] (lSp l.prog w K 1 D_law) := ok_law (⟨f1, _, F1, b1, PySem.W.mg_of X G a1, f2, _, F2, b2, PySem.W.mg_of X G a2, f3, _, F3, b3, PySem.W.mg_of X G a3, f4, _, F4, b4, PySem.W.mg_of X G a4, f5, _, F5, b5, PySem.W.mg_of X G a5, f6, _, F6, b6, PySem.W.mg_of X G a6, f7, _, F7, b7, PySem.W.mg_of X G a7, f8, _, F8, b8, PySem.W.mg_of X G a8, f9, _, F9, b9, PySem.W.mg_of X G a9, f10, _, F10, b10, PySem.W.mg_of X G a10, f11, _, F11, b11, PySem.W.mg_of X G a11, f12, _, F12, b12, PySem.W.mg_of X G a12, _, _, F13, b13, PySem.W.mg_of X G a13, PySem.W.mg_none_of X G z_abs, PySem.W.mg_none_of X G z_all, PySem.W.mg_none_of X G z_bool, PySem.W.mg_none_of X G z_isinstance, PySem.W.mg_none_of X G z_len, PySem.W.mg_none_of X G z_list, PySem.W.mg_none_of X G z_max, PySem.W.mg_none_of X G z_min, PySem.W.mg_none_of X G z_range, PySem.W.mg_none_of X G z_str, PySem.W.mg_none_of X G z_tuple, t_MOST_SIGNS, PySem.W.mg_of X G g_MOST_SIGNS, t_MOST_TITLE, PySem.W.mg_of X G g_MOST_TITLE, t_WORD_SIGNS, PySem.W.mg_of X G g_WORD_SIGNS⟩ : Env K mg) 0
  exact g
end K01

namespace K01
open PySem PySem.Spec PyProof.Rows KB
open L2 hiding op_eqD op_neD call_listD
theorem blend {x : Int} {t : Nat} {C : Cp} {Q : DQ} {E} (ht : t < 2 ^ 20) (k : ∀ r : Int, 0 ≤ r → r < 2305843009213693907 → Q (.int r) C) : D__law_blend [.int x, .int t] C Q E := by
  unfold D__law_blend runD r__law_blend
  try simp only [dSeq, dGetI_eq, Bool.not_true, Bool.not_false, dAsg, dOp, dVar, dC, gNm, gTp, gCn, gNl, dRet, dIf, dTest, dTru, dNot, dAnd, dOr, dNext, dDrop, dCons, dNil, dTup, dLst, dEmp, dEmpG, dPar, dPar3, dSetI, dCall, dCB, dBM, dBM0, dIfE, dNeg, dSl, dPart, dNoP, dAug, addI, dBreak, dCont, dAlt, dYes, dPairs, dDisp, gSubD, dBMd, addD_ii, addD_ss, addD_tt, subD_ii, mulD_ii, modD_ii, fdivD_ii, powD_ii, ltD_ii, leD_ii, gtD_ii, geD_ii, ltD_ss, leD_ss, eqR_ii, eqR_ss, eqR_tt, eqR_bb, abs_ii, max_ii, min_ii, truD_b, slD_t, slD_s, inR_t, List.map, List.length, List.replicate, List.cons_append, List.nil_append, List.append_nil, List.getElem?_cons_succ, List.getElem?_cons_zero, Option.some.injEq, exists_eq_left', exists_eq_left, ex2, ex3, exists_eq', List.set_cons_succ, List.set_cons_zero, Nat.reduceAdd, Nat.reduceSub, true_and, and_true, D.bl.injEq, D.int.injEq, D.str.injEq, D.ptr.injEq, D.tup.injEq, decide_eq_true_eq, beq_iff_eq, Bool.false_eq_true, if_true, if_false, reduceIte, wipeD, List.foldr_cons, List.foldr_nil, Nat.reduceLeDiff, List.cons.injEq, and_self, List.length_cons, List.length_nil]
  have m1 := Int.emod_nonneg x (b := 2305843009213693951) (by decide)
  have m2 := Int.emod_lt_of_pos x (b := 2305843009213693951) (by decide)
  have tt : (104729 * (t : Int)) * t < 2 ^ 58 := by
    have h1 : (104729 * (t : Int)) * t ≤ 2 ^ 17 * 2 ^ 20 * 2 ^ 20 := by
      have : (104729 * (t : Int)) ≤ 2 ^ 17 * 2 ^ 20 := by omega
      exact Int.mul_le_mul this (by omega) (by omega) (by decide)
    omega
  have t0 : 0 ≤ (104729 * (t : Int)) * t := Int.mul_nonneg (by omega) (by omega)
  generalize hs : x % 2305843009213693951 + 104729 * ↑t * ↑t + 17 * ↑t + 5 = sd
  have s0 : 0 ≤ sd := by omega
  have s1 : sd < 2 ^ 63 := by omega
  generalize ho : sd * 48271 % 2305843009213693921 = on
  have o0 : 0 ≤ on := by rw [← ho]; exact Int.emod_nonneg _ (by decide)
  have o1 : on < 2305843009213693921 := by rw [← ho]; exact Int.emod_lt_of_pos _ (by decide)
  refine ⟨by decide, CMulW_small (by omega), CMulW_small (by omega), CMulW_small (by omega), CMulW_small (by omega), by decide, by decide, CMulW_small (by omega), CMulW_small (by omega), CDivW_small (by decide), by decide, C, Sub.refl C, ?_⟩
  exact k _ (Int.emod_nonneg _ (by decide)) (Int.emod_lt_of_pos _ (by decide))
def Pot (C : Cp) (p q : Addr) (N : Nat) : Prop := ∃ (xs : List Int) (b c : Int) (n : Nat), C p = some (.lst [.ptr q, .int b, .int c, .int n]) ∧ C q = some (.lst (xs.map D.int)) ∧ p ≠ q ∧ 0 ≤ b ∧ 0 ≤ c ∧ c < 2 ^ 62 ∧ n ≤ N ∧ xs.length ≤ 63
def S2 (p q : Addr) : Addr → Prop := fun r => r = p ∨ r = q
theorem npts_ints : ∀ xs : List Int, okEqs (xs.map D.int)
  | [] => ⟨rfl, by decide⟩
  | x :: r => by
    obtain ⟨a, b⟩ := npts_ints r
    refine ⟨by rw [List.map_cons]; unfold npts npt; rw [a]; rfl, ?_⟩
    rw [List.map_cons]
    unfold deps dep
    omega
theorem cpow_18 : CPow 10 18 := ⟨by decide, by decide, by decide⟩
theorem draw {C : Cp} {p q : Addr} {N : Nat} {m : Int} {Q : DQ} {E} (hP : Pot C p q N) (hN : N < 2 ^ 19) (hm : 0 < m) (hm2 : m < 2 ^ 64) (k : ∀ (i : Nat) C', (i : Int) < m → Pot C' p q (N + 1) → Fr (S2 p q) C C' → Q (.int i) C') : D__law_draw [.ptr p, .int m] C Q E := by
  obtain ⟨xs, b, c, n, h1, h2, hne, hb, hc0, hc, hn, hl⟩ := hP
  unfold D__law_draw runD r__law_draw
  try simp only [dSeq, dGetI_eq, Bool.not_true, Bool.not_false, dAsg, dOp, dVar, dC, gNm, gTp, gCn, gNl, dRet, dIf, dTest, dTru, dNot, dAnd, dOr, dNext, dDrop, dCons, dNil, dTup, dLst, dEmp, dEmpG, dPar, dPar3, dSetI, dCall, dCB, dBM, dBM0, dIfE, dNeg, dSl, dPart, dNoP, dAug, addI, dBreak, dCont, dAlt, dYes, dPairs, dDisp, gSubD, dBMd, addD_ii, addD_ss, addD_tt, subD_ii, mulD_ii, modD_ii, fdivD_ii, powD_ii, ltD_ii, leD_ii, gtD_ii, geD_ii, ltD_ss, leD_ss, eqR_ii, eqR_ss, eqR_tt, eqR_bb, abs_ii, max_ii, min_ii, truD_b, slD_t, slD_s, inR_t, List.map, List.length, List.replicate, List.cons_append, List.nil_append, List.append_nil, List.getElem?_cons_succ, List.getElem?_cons_zero, Option.some.injEq, exists_eq_left', exists_eq_left, ex2, ex3, exists_eq', List.set_cons_succ, List.set_cons_zero, Nat.reduceAdd, Nat.reduceSub, true_and, and_true, D.bl.injEq, D.int.injEq, D.str.injEq, D.ptr.injEq, D.tup.injEq, decide_eq_true_eq, beq_iff_eq, Bool.false_eq_true, if_true, if_false, reduceIte, wipeD, List.foldr_cons, List.foldr_nil, Nat.reduceLeDiff, List.cons.injEq, and_self, List.length_cons, List.length_nil]
  refine ix_n (j := 3) (.inl h1) rfl ?_
  try simp only [dSeq, dGetI_eq, Bool.not_true, Bool.not_false, dAsg, dOp, dVar, dC, gNm, gTp, gCn, gNl, dRet, dIf, dTest, dTru, dNot, dAnd, dOr, dNext, dDrop, dCons, dNil, dTup, dLst, dEmp, dEmpG, dPar, dPar3, dSetI, dCall, dCB, dBM, dBM0, dIfE, dNeg, dSl, dPart, dNoP, dAug, addI, dBreak, dCont, dAlt, dYes, dPairs, dDisp, gSubD, dBMd, addD_ii, addD_ss, addD_tt, subD_ii, mulD_ii, modD_ii, fdivD_ii, powD_ii, ltD_ii, leD_ii, gtD_ii, geD_ii, ltD_ss, leD_ss, eqR_ii, eqR_ss, eqR_tt, eqR_bb, abs_ii, max_ii, min_ii, truD_b, slD_t, slD_s, inR_t, List.map, List.length, List.replicate, List.cons_append, List.nil_append, List.append_nil, List.getElem?_cons_succ, List.getElem?_cons_zero, Option.some.injEq, exists_eq_left', exists_eq_left, ex2, ex3, exists_eq', List.set_cons_succ, List.set_cons_zero, Nat.reduceAdd, Nat.reduceSub, true_and, and_true, D.bl.injEq, D.int.injEq, D.str.injEq, D.ptr.injEq, D.tup.injEq, decide_eq_true_eq, beq_iff_eq, Bool.false_eq_true, if_true, if_false, reduceIte, wipeD, List.foldr_cons, List.foldr_nil, Nat.reduceLeDiff, List.cons.injEq, and_self, List.length_cons, List.length_nil]
  refine set_l h1 (j := 3) rfl ?_
  try simp only [dSeq, dGetI_eq, Bool.not_true, Bool.not_false, dAsg, dOp, dVar, dC, gNm, gTp, gCn, gNl, dRet, dIf, dTest, dTru, dNot, dAnd, dOr, dNext, dDrop, dCons, dNil, dTup, dLst, dEmp, dEmpG, dPar, dPar3, dSetI, dCall, dCB, dBM, dBM0, dIfE, dNeg, dSl, dPart, dNoP, dAug, addI, dBreak, dCont, dAlt, dYes, dPairs, dDisp, gSubD, dBMd, addD_ii, addD_ss, addD_tt, subD_ii, mulD_ii, modD_ii, fdivD_ii, powD_ii, ltD_ii, leD_ii, gtD_ii, geD_ii, ltD_ss, leD_ss, eqR_ii, eqR_ss, eqR_tt, eqR_bb, abs_ii, max_ii, min_ii, truD_b, slD_t, slD_s, inR_t, List.map, List.length, List.replicate, List.cons_append, List.nil_append, List.append_nil, List.getElem?_cons_succ, List.getElem?_cons_zero, Option.some.injEq, exists_eq_left', exists_eq_left, ex2, ex3, exists_eq', List.set_cons_succ, List.set_cons_zero, Nat.reduceAdd, Nat.reduceSub, true_and, and_true, D.bl.injEq, D.int.injEq, D.str.injEq, D.ptr.injEq, D.tup.injEq, decide_eq_true_eq, beq_iff_eq, Bool.false_eq_true, if_true, if_false, reduceIte, wipeD, List.foldr_cons, List.foldr_nil, Nat.reduceLeDiff, List.cons.injEq, and_self, List.length_cons, List.length_nil]
  have tail : ∀ (C1 C2 : Cp) (xs : List Int) (b c : Int) (x2 x3 : Option D), Sub C1 C2 → C1 p = some (.lst [.ptr q, .int b, .int c, .int ((n : Int) + 1)]) → C1 q = some (.lst (xs.map D.int)) → Fr (S2 p q) C C1 → 0 ≤ b → 0 ≤ c → c < 2 ^ 62 → xs.length ≤ 63 →
      r__law_draw_2 { nx := fun _ C' => ∃ C'', Sub C'' C' ∧ Q .non C'', rt := fun d C' => ∃ C'', Sub C'' C' ∧ Q d C'' } [some (.ptr p), some (.int m), x2, x3] C2 := by
    intro C1 C2 xs b c x2 x3 hs h1 h2 hf hb hc0 hc hl
    unfold r__law_draw_2
    try simp only [dSeq, dGetI_eq, Bool.not_true, Bool.not_false, dAsg, dOp, dVar, dC, gNm, gTp, gCn, gNl, dRet, dIf, dTest, dTru, dNot, dAnd, dOr, dNext, dDrop, dCons, dNil, dTup, dLst, dEmp, dEmpG, dPar, dPar3, dSetI, dCall, dCB, dBM, dBM0, dIfE, dNeg, dSl, dPart, dNoP, dAug, addI, dBreak, dCont, dAlt, dYes, dPairs, dDisp, gSubD, dBMd, addD_ii, addD_ss, addD_tt, subD_ii, mulD_ii, modD_ii, fdivD_ii, powD_ii, ltD_ii, leD_ii, gtD_ii, geD_ii, ltD_ss, leD_ss, eqR_ii, eqR_ss, eqR_tt, eqR_bb, abs_ii, max_ii, min_ii, truD_b, slD_t, slD_s, inR_t, List.map, List.length, List.replicate, List.cons_append, List.nil_append, List.append_nil, List.getElem?_cons_succ, List.getElem?_cons_zero, Option.some.injEq, exists_eq_left', exists_eq_left, ex2, ex3, exists_eq', List.set_cons_succ, List.set_cons_zero, Nat.reduceAdd, Nat.reduceSub, true_and, and_true, D.bl.injEq, D.int.injEq, D.str.injEq, D.ptr.injEq, D.tup.injEq, decide_eq_true_eq, beq_iff_eq, Bool.false_eq_true, if_true, if_false, reduceIte, wipeD, List.foldr_cons, List.foldr_nil, Nat.reduceLeDiff, List.cons.injEq, and_self, List.length_cons, List.length_nil]
    refine ix_n (j := 1) (.inl (hs _ _ h1)) rfl ?_
    try simp only [dSeq, dGetI_eq, Bool.not_true, Bool.not_false, dAsg, dOp, dVar, dC, gNm, gTp, gCn, gNl, dRet, dIf, dTest, dTru, dNot, dAnd, dOr, dNext, dDrop, dCons, dNil, dTup, dLst, dEmp, dEmpG, dPar, dPar3, dSetI, dCall, dCB, dBM, dBM0, dIfE, dNeg, dSl, dPart, dNoP, dAug, addI, dBreak, dCont, dAlt, dYes, dPairs, dDisp, gSubD, dBMd, addD_ii, addD_ss, addD_tt, subD_ii, mulD_ii, modD_ii, fdivD_ii, powD_ii, ltD_ii, leD_ii, gtD_ii, geD_ii, ltD_ss, leD_ss, eqR_ii, eqR_ss, eqR_tt, eqR_bb, abs_ii, max_ii, min_ii, truD_b, slD_t, slD_s, inR_t, List.map, List.length, List.replicate, List.cons_append, List.nil_append, List.append_nil, List.getElem?_cons_succ, List.getElem?_cons_zero, Option.some.injEq, exists_eq_left', exists_eq_left, ex2, ex3, exists_eq', List.set_cons_succ, List.set_cons_zero, Nat.reduceAdd, Nat.reduceSub, true_and, and_true, D.bl.injEq, D.int.injEq, D.str.injEq, D.ptr.injEq, D.tup.injEq, decide_eq_true_eq, beq_iff_eq, Bool.false_eq_true, if_true, if_false, reduceIte, wipeD, List.foldr_cons, List.foldr_nil, Nat.reduceLeDiff, List.cons.injEq, and_self, List.length_cons, List.length_nil]
    split
    · refine ix_n (j := 1) (.inl (hs _ _ h1)) rfl ?_
      try simp only [dSeq, dGetI_eq, Bool.not_true, Bool.not_false, dAsg, dOp, dVar, dC, gNm, gTp, gCn, gNl, dRet, dIf, dTest, dTru, dNot, dAnd, dOr, dNext, dDrop, dCons, dNil, dTup, dLst, dEmp, dEmpG, dPar, dPar3, dSetI, dCall, dCB, dBM, dBM0, dIfE, dNeg, dSl, dPart, dNoP, dAug, addI, dBreak, dCont, dAlt, dYes, dPairs, dDisp, gSubD, dBMd, addD_ii, addD_ss, addD_tt, subD_ii, mulD_ii, modD_ii, fdivD_ii, powD_ii, ltD_ii, leD_ii, gtD_ii, geD_ii, ltD_ss, leD_ss, eqR_ii, eqR_ss, eqR_tt, eqR_bb, abs_ii, max_ii, min_ii, truD_b, slD_t, slD_s, inR_t, List.map, List.length, List.replicate, List.cons_append, List.nil_append, List.append_nil, List.getElem?_cons_succ, List.getElem?_cons_zero, Option.some.injEq, exists_eq_left', exists_eq_left, ex2, ex3, exists_eq', List.set_cons_succ, List.set_cons_zero, Nat.reduceAdd, Nat.reduceSub, true_and, and_true, D.bl.injEq, D.int.injEq, D.str.injEq, D.ptr.injEq, D.tup.injEq, decide_eq_true_eq, beq_iff_eq, Bool.false_eq_true, if_true, if_false, reduceIte, wipeD, List.foldr_cons, List.foldr_nil, Nat.reduceLeDiff, List.cons.injEq, and_self, List.length_cons, List.length_nil]
      refine ⟨hm, ?_⟩
      refine ix_n (j := 1) (.inl (hs _ _ h1)) rfl ?_
      try simp only [dSeq, dGetI_eq, Bool.not_true, Bool.not_false, dAsg, dOp, dVar, dC, gNm, gTp, gCn, gNl, dRet, dIf, dTest, dTru, dNot, dAnd, dOr, dNext, dDrop, dCons, dNil, dTup, dLst, dEmp, dEmpG, dPar, dPar3, dSetI, dCall, dCB, dBM, dBM0, dIfE, dNeg, dSl, dPart, dNoP, dAug, addI, dBreak, dCont, dAlt, dYes, dPairs, dDisp, gSubD, dBMd, addD_ii, addD_ss, addD_tt, subD_ii, mulD_ii, modD_ii, fdivD_ii, powD_ii, ltD_ii, leD_ii, gtD_ii, geD_ii, ltD_ss, leD_ss, eqR_ii, eqR_ss, eqR_tt, eqR_bb, abs_ii, max_ii, min_ii, truD_b, slD_t, slD_s, inR_t, List.map, List.length, List.replicate, List.cons_append, List.nil_append, List.append_nil, List.getElem?_cons_succ, List.getElem?_cons_zero, Option.some.injEq, exists_eq_left', exists_eq_left, ex2, ex3, exists_eq', List.set_cons_succ, List.set_cons_zero, Nat.reduceAdd, Nat.reduceSub, true_and, and_true, D.bl.injEq, D.int.injEq, D.str.injEq, D.ptr.injEq, D.tup.injEq, decide_eq_true_eq, beq_iff_eq, Bool.false_eq_true, if_true, if_false, reduceIte, wipeD, List.foldr_cons, List.foldr_nil, Nat.reduceLeDiff, List.cons.injEq, and_self, List.length_cons, List.length_nil]
      refine ⟨CDivW_small ⟨hm, by omega⟩, ?_⟩
      refine set_l (hs _ _ h1) (j := 1) rfl ?_
      try simp only [dSeq, dGetI_eq, Bool.not_true, Bool.not_false, dAsg, dOp, dVar, dC, gNm, gTp, gCn, gNl, dRet, dIf, dTest, dTru, dNot, dAnd, dOr, dNext, dDrop, dCons, dNil, dTup, dLst, dEmp, dEmpG, dPar, dPar3, dSetI, dCall, dCB, dBM, dBM0, dIfE, dNeg, dSl, dPart, dNoP, dAug, addI, dBreak, dCont, dAlt, dYes, dPairs, dDisp, gSubD, dBMd, addD_ii, addD_ss, addD_tt, subD_ii, mulD_ii, modD_ii, fdivD_ii, powD_ii, ltD_ii, leD_ii, gtD_ii, geD_ii, ltD_ss, leD_ss, eqR_ii, eqR_ss, eqR_tt, eqR_bb, abs_ii, max_ii, min_ii, truD_b, slD_t, slD_s, inR_t, List.map, List.length, List.replicate, List.cons_append, List.nil_append, List.append_nil, List.getElem?_cons_succ, List.getElem?_cons_zero, Option.some.injEq, exists_eq_left', exists_eq_left, ex2, ex3, exists_eq', List.set_cons_succ, List.set_cons_zero, Nat.reduceAdd, Nat.reduceSub, true_and, and_true, D.bl.injEq, D.int.injEq, D.str.injEq, D.ptr.injEq, D.tup.injEq, decide_eq_true_eq, beq_iff_eq, Bool.false_eq_true, if_true, if_false, reduceIte, wipeD, List.foldr_cons, List.foldr_nil, Nat.reduceLeDiff, List.cons.injEq, and_self, List.length_cons, List.length_nil]
      refine ⟨_, sub_both hs, ?_⟩
      have e0 := Int.emod_nonneg b (b := m) (by omega)
      have e1 := Int.emod_lt_of_pos b hm
      have e2 : ((b % m).toNat : Int) = b % m := Int.toNat_of_nonneg e0
      have := k (b % m).toNat (up C1 p (.lst [.ptr q, .int (b / m), .int c, .int ((n : Int) + 1)])) (by omega) ⟨xs, b / m, c, n + 1, up_same, by rw [up_ne (Ne.symm hne)]; exact h2, hne, Int.ediv_nonneg hb (by omega), hc0, hc, by omega, hl⟩ (hf.up (.inl rfl))
      rw [e2] at this
      exact this
    · unfold r__law_draw_1
      try simp only [dSeq, dGetI_eq, Bool.not_true, Bool.not_false, dAsg, dOp, dVar, dC, gNm, gTp, gCn, gNl, dRet, dIf, dTest, dTru, dNot, dAnd, dOr, dNext, dDrop, dCons, dNil, dTup, dLst, dEmp, dEmpG, dPar, dPar3, dSetI, dCall, dCB, dBM, dBM0, dIfE, dNeg, dSl, dPart, dNoP, dAug, addI, dBreak, dCont, dAlt, dYes, dPairs, dDisp, gSubD, dBMd, addD_ii, addD_ss, addD_tt, subD_ii, mulD_ii, modD_ii, fdivD_ii, powD_ii, ltD_ii, leD_ii, gtD_ii, geD_ii, ltD_ss, leD_ss, eqR_ii, eqR_ss, eqR_tt, eqR_bb, abs_ii, max_ii, min_ii, truD_b, slD_t, slD_s, inR_t, List.map, List.length, List.replicate, List.cons_append, List.nil_append, List.append_nil, List.getElem?_cons_succ, List.getElem?_cons_zero, Option.some.injEq, exists_eq_left', exists_eq_left, ex2, ex3, exists_eq', List.set_cons_succ, List.set_cons_zero, Nat.reduceAdd, Nat.reduceSub, true_and, and_true, D.bl.injEq, D.int.injEq, D.str.injEq, D.ptr.injEq, D.tup.injEq, decide_eq_true_eq, beq_iff_eq, Bool.false_eq_true, if_true, if_false, reduceIte, wipeD, List.foldr_cons, List.foldr_nil, Nat.reduceLeDiff, List.cons.injEq, and_self, List.length_cons, List.length_nil]
      refine ix_n (j := 2) (.inl (hs _ _ h1)) rfl ?_
      try simp only [dSeq, dGetI_eq, Bool.not_true, Bool.not_false, dAsg, dOp, dVar, dC, gNm, gTp, gCn, gNl, dRet, dIf, dTest, dTru, dNot, dAnd, dOr, dNext, dDrop, dCons, dNil, dTup, dLst, dEmp, dEmpG, dPar, dPar3, dSetI, dCall, dCB, dBM, dBM0, dIfE, dNeg, dSl, dPart, dNoP, dAug, addI, dBreak, dCont, dAlt, dYes, dPairs, dDisp, gSubD, dBMd, addD_ii, addD_ss, addD_tt, subD_ii, mulD_ii, modD_ii, fdivD_ii, powD_ii, ltD_ii, leD_ii, gtD_ii, geD_ii, ltD_ss, leD_ss, eqR_ii, eqR_ss, eqR_tt, eqR_bb, abs_ii, max_ii, min_ii, truD_b, slD_t, slD_s, inR_t, List.map, List.length, List.replicate, List.cons_append, List.nil_append, List.append_nil, List.getElem?_cons_succ, List.getElem?_cons_zero, Option.some.injEq, exists_eq_left', exists_eq_left, ex2, ex3, exists_eq', List.set_cons_succ, List.set_cons_zero, Nat.reduceAdd, Nat.reduceSub, true_and, and_true, D.bl.injEq, D.int.injEq, D.str.injEq, D.ptr.injEq, D.tup.injEq, decide_eq_true_eq, beq_iff_eq, Bool.false_eq_true, if_true, if_false, reduceIte, wipeD, List.foldr_cons, List.foldr_nil, Nat.reduceLeDiff, List.cons.injEq, and_self, List.length_cons, List.length_nil]
      refine ix_n (j := 3) (.inl (hs _ _ h1)) rfl ?_
      have e3 : ((n : Int) + 1) = ((n + 1 : Nat) : Int) := by omega
      rw [e3]
      refine blend (by omega) fun r r0 r1 => ?_
      try simp only [dSeq, dGetI_eq, Bool.not_true, Bool.not_false, dAsg, dOp, dVar, dC, gNm, gTp, gCn, gNl, dRet, dIf, dTest, dTru, dNot, dAnd, dOr, dNext, dDrop, dCons, dNil, dTup, dLst, dEmp, dEmpG, dPar, dPar3, dSetI, dCall, dCB, dBM, dBM0, dIfE, dNeg, dSl, dPart, dNoP, dAug, addI, dBreak, dCont, dAlt, dYes, dPairs, dDisp, gSubD, dBMd, addD_ii, addD_ss, addD_tt, subD_ii, mulD_ii, modD_ii, fdivD_ii, powD_ii, ltD_ii, leD_ii, gtD_ii, geD_ii, ltD_ss, leD_ss, eqR_ii, eqR_ss, eqR_tt, eqR_bb, abs_ii, max_ii, min_ii, truD_b, slD_t, slD_s, inR_t, List.map, List.length, List.replicate, List.cons_append, List.nil_append, List.append_nil, List.getElem?_cons_succ, List.getElem?_cons_zero, Option.some.injEq, exists_eq_left', exists_eq_left, ex2, ex3, exists_eq', List.set_cons_succ, List.set_cons_zero, Nat.reduceAdd, Nat.reduceSub, true_and, and_true, D.bl.injEq, D.int.injEq, D.str.injEq, D.ptr.injEq, D.tup.injEq, decide_eq_true_eq, beq_iff_eq, Bool.false_eq_true, if_true, if_false, reduceIte, wipeD, List.foldr_cons, List.foldr_nil, Nat.reduceLeDiff, List.cons.injEq, and_self, List.length_cons, List.length_nil]
      refine ⟨CDivW_small (by decide), hm, C1, hs, ?_⟩
      have e0 := Int.emod_nonneg (r / 7) (b := m) (by omega)
      have e1 := Int.emod_lt_of_pos (r / 7) hm
      have e2 : ((r / 7 % m).toNat : Int) = r / 7 % m := Int.toNat_of_nonneg e0
      have := k (r / 7 % m).toNat C1 (by omega) ⟨xs, b, c, n + 1, h1, h2, hne, hb, hc0, hc, by omega, hl⟩ hf
      rw [e2] at this
      exact this
  have g1 : (up C p (.lst [.ptr q, .int b, .int c, .int ((n : Int) + 1)])) p = some (.lst [.ptr q, .int b, .int c, .int ((n : Int) + 1)]) := up_same
  have g2 : (up C p (.lst [.ptr q, .int b, .int c, .int ((n : Int) + 1)])) q = some (.lst (xs.map D.int)) := by rw [up_ne (Ne.symm hne)]; exact h2
  have gf : Fr (S2 p q) C (up C p (.lst [.ptr q, .int b, .int c, .int ((n : Int) + 1)])) := (Fr.refl C).up (.inl rfl)
  generalize up C p (.lst [.ptr q, .int b, .int c, .int ((n : Int) + 1)]) = C1 at g1 g2 gf
  refine ix_n (j := 1) (.inl g1) rfl ?_
  try simp only [dSeq, dGetI_eq, Bool.not_true, Bool.not_false, dAsg, dOp, dVar, dC, gNm, gTp, gCn, gNl, dRet, dIf, dTest, dTru, dNot, dAnd, dOr, dNext, dDrop, dCons, dNil, dTup, dLst, dEmp, dEmpG, dPar, dPar3, dSetI, dCall, dCB, dBM, dBM0, dIfE, dNeg, dSl, dPart, dNoP, dAug, addI, dBreak, dCont, dAlt, dYes, dPairs, dDisp, gSubD, dBMd, addD_ii, addD_ss, addD_tt, subD_ii, mulD_ii, modD_ii, fdivD_ii, powD_ii, ltD_ii, leD_ii, gtD_ii, geD_ii, ltD_ss, leD_ss, eqR_ii, eqR_ss, eqR_tt, eqR_bb, abs_ii, max_ii, min_ii, truD_b, slD_t, slD_s, inR_t, List.map, List.length, List.replicate, List.cons_append, List.nil_append, List.append_nil, List.getElem?_cons_succ, List.getElem?_cons_zero, Option.some.injEq, exists_eq_left', exists_eq_left, ex2, ex3, exists_eq', List.set_cons_succ, List.set_cons_zero, Nat.reduceAdd, Nat.reduceSub, true_and, and_true, D.bl.injEq, D.int.injEq, D.str.injEq, D.ptr.injEq, D.tup.injEq, decide_eq_true_eq, beq_iff_eq, Bool.false_eq_true, if_true, if_false, reduceIte, wipeD, List.foldr_cons, List.foldr_nil, Nat.reduceLeDiff, List.cons.injEq, and_self, List.length_cons, List.length_nil]
  split
  · refine ix_n (j := 0) (.inl g1) rfl ?_
    try simp only [dSeq, dGetI_eq, Bool.not_true, Bool.not_false, dAsg, dOp, dVar, dC, gNm, gTp, gCn, gNl, dRet, dIf, dTest, dTru, dNot, dAnd, dOr, dNext, dDrop, dCons, dNil, dTup, dLst, dEmp, dEmpG, dPar, dPar3, dSetI, dCall, dCB, dBM, dBM0, dIfE, dNeg, dSl, dPart, dNoP, dAug, addI, dBreak, dCont, dAlt, dYes, dPairs, dDisp, gSubD, dBMd, addD_ii, addD_ss, addD_tt, subD_ii, mulD_ii, modD_ii, fdivD_ii, powD_ii, ltD_ii, leD_ii, gtD_ii, geD_ii, ltD_ss, leD_ss, eqR_ii, eqR_ss, eqR_tt, eqR_bb, abs_ii, max_ii, min_ii, truD_b, slD_t, slD_s, inR_t, List.map, List.length, List.replicate, List.cons_append, List.nil_append, List.append_nil, List.getElem?_cons_succ, List.getElem?_cons_zero, Option.some.injEq, exists_eq_left', exists_eq_left, ex2, ex3, exists_eq', List.set_cons_succ, List.set_cons_zero, Nat.reduceAdd, Nat.reduceSub, true_and, and_true, D.bl.injEq, D.int.injEq, D.str.injEq, D.ptr.injEq, D.tup.injEq, decide_eq_true_eq, beq_iff_eq, Bool.false_eq_true, if_true, if_false, reduceIte, wipeD, List.foldr_cons, List.foldr_nil, Nat.reduceLeDiff, List.cons.injEq, and_self, List.length_cons, List.length_nil]
    intro z hz
    have zq : z ≠ q := fun e => by subst e; rw [g2] at hz; cases hz
    have zp : z ≠ p := fun e => by subst e; rw [g1] at hz; cases hz
    have u1 : (up C1 z (.lst [])) p = some (.lst [.ptr q, .int b, .int c, .int ((n : Int) + 1)]) := by rw [up_ne (Ne.symm zp)]; exact g1
    have u2 : (up C1 z (.lst [])) q = some (.lst (xs.map D.int)) := by rw [up_ne (Ne.symm zq)]; exact g2
    refine eqR_pp (.inl u2) (.inl up_same) (npts_ints xs) rfl ?_
    try simp only [dSeq, dGetI_eq, Bool.not_true, Bool.not_false, dAsg, dOp, dVar, dC, gNm, gTp, gCn, gNl, dRet, dIf, dTest, dTru, dNot, dAnd, dOr, dNext, dDrop, dCons, dNil, dTup, dLst, dEmp, dEmpG, dPar, dPar3, dSetI, dCall, dCB, dBM, dBM0, dIfE, dNeg, dSl, dPart, dNoP, dAug, addI, dBreak, dCont, dAlt, dYes, dPairs, dDisp, gSubD, dBMd, addD_ii, addD_ss, addD_tt, subD_ii, mulD_ii, modD_ii, fdivD_ii, powD_ii, ltD_ii, leD_ii, gtD_ii, geD_ii, ltD_ss, leD_ss, eqR_ii, eqR_ss, eqR_tt, eqR_bb, abs_ii, max_ii, min_ii, truD_b, slD_t, slD_s, inR_t, List.map, List.length, List.replicate, List.cons_append, List.nil_append, List.append_nil, List.getElem?_cons_succ, List.getElem?_cons_zero, Option.some.injEq, exists_eq_left', exists_eq_left, ex2, ex3, exists_eq', List.set_cons_succ, List.set_cons_zero, Nat.reduceAdd, Nat.reduceSub, true_and, and_true, D.bl.injEq, D.int.injEq, D.str.injEq, D.ptr.injEq, D.tup.injEq, decide_eq_true_eq, beq_iff_eq, Bool.false_eq_true, if_true, if_false, reduceIte, wipeD, List.foldr_cons, List.foldr_nil, Nat.reduceLeDiff, List.cons.injEq, and_self, List.length_cons, List.length_nil]
    split
    · rename_i hx
      refine ix_n (j := 0) (.inl u1) rfl ?_
      try simp only [dSeq, dGetI_eq, Bool.not_true, Bool.not_false, dAsg, dOp, dVar, dC, gNm, gTp, gCn, gNl, dRet, dIf, dTest, dTru, dNot, dAnd, dOr, dNext, dDrop, dCons, dNil, dTup, dLst, dEmp, dEmpG, dPar, dPar3, dSetI, dCall, dCB, dBM, dBM0, dIfE, dNeg, dSl, dPart, dNoP, dAug, addI, dBreak, dCont, dAlt, dYes, dPairs, dDisp, gSubD, dBMd, addD_ii, addD_ss, addD_tt, subD_ii, mulD_ii, modD_ii, fdivD_ii, powD_ii, ltD_ii, leD_ii, gtD_ii, geD_ii, ltD_ss, leD_ss, eqR_ii, eqR_ss, eqR_tt, eqR_bb, abs_ii, max_ii, min_ii, truD_b, slD_t, slD_s, inR_t, List.map, List.length, List.replicate, List.cons_append, List.nil_append, List.append_nil, List.getElem?_cons_succ, List.getElem?_cons_zero, Option.some.injEq, exists_eq_left', exists_eq_left, ex2, ex3, exists_eq', List.set_cons_succ, List.set_cons_zero, Nat.reduceAdd, Nat.reduceSub, true_and, and_true, D.bl.injEq, D.int.injEq, D.str.injEq, D.ptr.injEq, D.tup.injEq, decide_eq_true_eq, beq_iff_eq, Bool.false_eq_true, if_true, if_false, reduceIte, wipeD, List.foldr_cons, List.foldr_nil, Nat.reduceLeDiff, List.cons.injEq, and_self, List.length_cons, List.length_nil]
      refine ⟨tyL (.inl u2), ?_⟩
      cases xs with
      | nil => exact absurd hx (by decide)
      | cons x xs =>
      refine popAt_n (j := 0) u2 (d := .int x) rfl (by rw [List.length_map, sizeLine_eq]; simp at hl ⊢; omega) ?_
      simp only [List.map_cons, List.eraseIdx_cons_zero]
      generalize hC3 : up (up C1 z (.lst [])) q (.lst (xs.map D.int)) = C3
      have v1 : C3 p = some (.lst [.ptr q, .int b, .int c, .int ((n : Int) + 1)]) := by rw [← hC3, up_ne hne]; exact u1
      have v2 : C3 q = some (.lst (xs.map D.int)) := by rw [← hC3]; exact up_same
      have vs : Sub (up C1 q (.lst (xs.map D.int))) C3 := by rw [← hC3]; exact sub_both (sub_up hz)
      refine ix_n (j := 2) (.inl v1) rfl ?_
      try simp only [dSeq, dGetI_eq, Bool.not_true, Bool.not_false, dAsg, dOp, dVar, dC, gNm, gTp, gCn, gNl, dRet, dIf, dTest, dTru, dNot, dAnd, dOr, dNext, dDrop, dCons, dNil, dTup, dLst, dEmp, dEmpG, dPar, dPar3, dSetI, dCall, dCB, dBM, dBM0, dIfE, dNeg, dSl, dPart, dNoP, dAug, addI, dBreak, dCont, dAlt, dYes, dPairs, dDisp, gSubD, dBMd, addD_ii, addD_ss, addD_tt, subD_ii, mulD_ii, modD_ii, fdivD_ii, powD_ii, ltD_ii, leD_ii, gtD_ii, geD_ii, ltD_ss, leD_ss, eqR_ii, eqR_ss, eqR_tt, eqR_bb, abs_ii, max_ii, min_ii, truD_b, slD_t, slD_s, inR_t, List.map, List.length, List.replicate, List.cons_append, List.nil_append, List.append_nil, List.getElem?_cons_succ, List.getElem?_cons_zero, Option.some.injEq, exists_eq_left', exists_eq_left, ex2, ex3, exists_eq', List.set_cons_succ, List.set_cons_zero, Nat.reduceAdd, Nat.reduceSub, true_and, and_true, D.bl.injEq, D.int.injEq, D.str.injEq, D.ptr.injEq, D.tup.injEq, decide_eq_true_eq, beq_iff_eq, Bool.false_eq_true, if_true, if_false, reduceIte, wipeD, List.foldr_cons, List.foldr_nil, Nat.reduceLeDiff, List.cons.injEq, and_self, List.length_cons, List.length_nil]
      refine ix_n (j := 0) (.inl v1) rfl ?_
      try simp only [dSeq, dGetI_eq, Bool.not_true, Bool.not_false, dAsg, dOp, dVar, dC, gNm, gTp, gCn, gNl, dRet, dIf, dTest, dTru, dNot, dAnd, dOr, dNext, dDrop, dCons, dNil, dTup, dLst, dEmp, dEmpG, dPar, dPar3, dSetI, dCall, dCB, dBM, dBM0, dIfE, dNeg, dSl, dPart, dNoP, dAug, addI, dBreak, dCont, dAlt, dYes, dPairs, dDisp, gSubD, dBMd, addD_ii, addD_ss, addD_tt, subD_ii, mulD_ii, modD_ii, fdivD_ii, powD_ii, ltD_ii, leD_ii, gtD_ii, geD_ii, ltD_ss, leD_ss, eqR_ii, eqR_ss, eqR_tt, eqR_bb, abs_ii, max_ii, min_ii, truD_b, slD_t, slD_s, inR_t, List.map, List.length, List.replicate, List.cons_append, List.nil_append, List.append_nil, List.getElem?_cons_succ, List.getElem?_cons_zero, Option.some.injEq, exists_eq_left', exists_eq_left, ex2, ex3, exists_eq', List.set_cons_succ, List.set_cons_zero, Nat.reduceAdd, Nat.reduceSub, true_and, and_true, D.bl.injEq, D.int.injEq, D.str.injEq, D.ptr.injEq, D.tup.injEq, decide_eq_true_eq, beq_iff_eq, Bool.false_eq_true, if_true, if_false, reduceIte, wipeD, List.foldr_cons, List.foldr_nil, Nat.reduceLeDiff, List.cons.injEq, and_self, List.length_cons, List.length_nil]
      refine len_l (.inl v2) ?_
      refine blend (by rw [List.length_map]; simp at hl; omega) fun r r0 r1 => ?_
      try simp only [dSeq, dGetI_eq, Bool.not_true, Bool.not_false, dAsg, dOp, dVar, dC, gNm, gTp, gCn, gNl, dRet, dIf, dTest, dTru, dNot, dAnd, dOr, dNext, dDrop, dCons, dNil, dTup, dLst, dEmp, dEmpG, dPar, dPar3, dSetI, dCall, dCB, dBM, dBM0, dIfE, dNeg, dSl, dPart, dNoP, dAug, addI, dBreak, dCont, dAlt, dYes, dPairs, dDisp, gSubD, dBMd, addD_ii, addD_ss, addD_tt, subD_ii, mulD_ii, modD_ii, fdivD_ii, powD_ii, ltD_ii, leD_ii, gtD_ii, geD_ii, ltD_ss, leD_ss, eqR_ii, eqR_ss, eqR_tt, eqR_bb, abs_ii, max_ii, min_ii, truD_b, slD_t, slD_s, inR_t, List.map, List.length, List.replicate, List.cons_append, List.nil_append, List.append_nil, List.getElem?_cons_succ, List.getElem?_cons_zero, Option.some.injEq, exists_eq_left', exists_eq_left, ex2, ex3, exists_eq', List.set_cons_succ, List.set_cons_zero, Nat.reduceAdd, Nat.reduceSub, true_and, and_true, D.bl.injEq, D.int.injEq, D.str.injEq, D.ptr.injEq, D.tup.injEq, decide_eq_true_eq, beq_iff_eq, Bool.false_eq_true, if_true, if_false, reduceIte, wipeD, List.foldr_cons, List.foldr_nil, Nat.reduceLeDiff, List.cons.injEq, and_self, List.length_cons, List.length_nil]
      refine set_l v1 (j := 2) rfl ?_
      try simp only [dSeq, dGetI_eq, Bool.not_true, Bool.not_false, dAsg, dOp, dVar, dC, gNm, gTp, gCn, gNl, dRet, dIf, dTest, dTru, dNot, dAnd, dOr, dNext, dDrop, dCons, dNil, dTup, dLst, dEmp, dEmpG, dPar, dPar3, dSetI, dCall, dCB, dBM, dBM0, dIfE, dNeg, dSl, dPart, dNoP, dAug, addI, dBreak, dCont, dAlt, dYes, dPairs, dDisp, gSubD, dBMd, addD_ii, addD_ss, addD_tt, subD_ii, mulD_ii, modD_ii, fdivD_ii, powD_ii, ltD_ii, leD_ii, gtD_ii, geD_ii, ltD_ss, leD_ss, eqR_ii, eqR_ss, eqR_tt, eqR_bb, abs_ii, max_ii, min_ii, truD_b, slD_t, slD_s, inR_t, List.map, List.length, List.replicate, List.cons_append, List.nil_append, List.append_nil, List.getElem?_cons_succ, List.getElem?_cons_zero, Option.some.injEq, exists_eq_left', exists_eq_left, ex2, ex3, exists_eq', List.set_cons_succ, List.set_cons_zero, Nat.reduceAdd, Nat.reduceSub, true_and, and_true, D.bl.injEq, D.int.injEq, D.str.injEq, D.ptr.injEq, D.tup.injEq, decide_eq_true_eq, beq_iff_eq, Bool.false_eq_true, if_true, if_false, reduceIte, wipeD, List.foldr_cons, List.foldr_nil, Nat.reduceLeDiff, List.cons.injEq, and_self, List.length_cons, List.length_nil]
      refine ⟨cpow_18, ?_⟩
      generalize hx' : (if x < 0 then -x else x) = x'
      have x0 : 0 ≤ x' := by rw [← hx']; split <;> omega
      split
      · refine set_l (p := p) up_same (j := 1) rfl ?_
        try simp only [dSeq, dGetI_eq, Bool.not_true, Bool.not_false, dAsg, dOp, dVar, dC, gNm, gTp, gCn, gNl, dRet, dIf, dTest, dTru, dNot, dAnd, dOr, dNext, dDrop, dCons, dNil, dTup, dLst, dEmp, dEmpG, dPar, dPar3, dSetI, dCall, dCB, dBM, dBM0, dIfE, dNeg, dSl, dPart, dNoP, dAug, addI, dBreak, dCont, dAlt, dYes, dPairs, dDisp, gSubD, dBMd, addD_ii, addD_ss, addD_tt, subD_ii, mulD_ii, modD_ii, fdivD_ii, powD_ii, ltD_ii, leD_ii, gtD_ii, geD_ii, ltD_ss, leD_ss, eqR_ii, eqR_ss, eqR_tt, eqR_bb, abs_ii, max_ii, min_ii, truD_b, slD_t, slD_s, inR_t, List.map, List.length, List.replicate, List.cons_append, List.nil_append, List.append_nil, List.getElem?_cons_succ, List.getElem?_cons_zero, Option.some.injEq, exists_eq_left', exists_eq_left, ex2, ex3, exists_eq', List.set_cons_succ, List.set_cons_zero, Nat.reduceAdd, Nat.reduceSub, true_and, and_true, D.bl.injEq, D.int.injEq, D.str.injEq, D.ptr.injEq, D.tup.injEq, decide_eq_true_eq, beq_iff_eq, Bool.false_eq_true, if_true, if_false, reduceIte, wipeD, List.foldr_cons, List.foldr_nil, Nat.reduceLeDiff, List.cons.injEq, and_self, List.length_cons, List.length_nil]
        refine tail (up (up (up C1 q (.lst (xs.map D.int))) p (.lst [.ptr q, .int b, .int r, .int ((n : Int) + 1)])) p (.lst [.ptr q, .int x', .int r, .int ((n : Int) + 1)])) _ xs _ r _ _ (sub_both (sub_both vs)) up_same ?_ ?_ ?_ r0 (by omega) (by simp at hl; omega)
        · rw [up_ne (Ne.symm hne), up_ne (Ne.symm hne)]; exact up_same
        · exact ((gf.up (.inr rfl)).up (.inl rfl)).up (.inl rfl)
        · exact x0
      · refine tail (up (up C1 q (.lst (xs.map D.int))) p (.lst [.ptr q, .int b, .int r, .int ((n : Int) + 1)])) _ xs b r _ _ (sub_both vs) up_same ?_ ((gf.up (.inr rfl)).up (.inl rfl)) hb r0 (by omega) (by simp at hl; omega)
        rw [up_ne (Ne.symm hne)]; exact up_same
    · exact tail C1 _ xs b c _ _ (sub_up hz) g1 g2 gf hb hc0 hc hl
  · exact tail C1 _ xs b c _ _ (Sub.refl _) g1 g2 gf hb hc0 hc hl
end K01

namespace K01
open PySem PySem.Spec PyProof.Rows KB
open L2 hiding op_eqD op_neD call_listD
variable {C : Cp} {p q : Addr} {N : Nat} {Q : DQ} {E : Exn → Cp → Prop}
theorem draw' {m : Int} (hP : Pot C p q N) (hN : N < 2 ^ 19) (hm : 0 < m) (hm2 : m < 2 ^ 64) (k : ∀ (i : Nat) C', (i : Int) < m → Pot C' p q (N + 1) → Kp (S2 p q) C C' → Q (.int i) C') : D__law_draw [.ptr p, .int m] C Q E :=
  draw hP hN hm hm2 fun i C' a b c => k i C' a b c.kp
theorem pick_s {l : List Nat} (hP : Pot C p q N) (hN : N < 2 ^ 19) (hl : 0 < l.length) (hl2 : l.length ≤ 1000) (k : ∀ c C', c ∈ l → Pot C' p q (N + 1) → Kp (S2 p q) C C' → Q (.str [c]) C') : D__law_pick [.ptr p, .str l] C Q E := by
  unfold D__law_pick runD r__law_pick
  try simp only [dSeq, dGetI_eq, Bool.not_true, Bool.not_false, dAsg, dOp, dVar, dC, gNm, gTp, gCn, gNl, dRet, dIf, dTest, dTru, dNot, dAnd, dOr, dNext, dDrop, dCons, dNil, dTup, dLst, dEmp, dEmpG, dPar, dPar3, dSetI, dCall, dCB, dBM, dBM0, dIfE, dNeg, dSl, dPart, dNoP, dAug, addI, dBreak, dCont, dAlt, dYes, dPairs, dDisp, gSubD, dBMd, addD_ii, addD_ss, addD_tt, subD_ii, mulD_ii, modD_ii, fdivD_ii, powD_ii, ltD_ii, leD_ii, gtD_ii, geD_ii, ltD_ss, leD_ss, eqR_ii, eqR_ss, eqR_tt, eqR_bb, abs_ii, max_ii, min_ii, truD_b, slD_t, slD_s, inR_t, List.map, List.length, List.replicate, List.cons_append, List.nil_append, List.append_nil, List.getElem?_cons_succ, List.getElem?_cons_zero, Option.some.injEq, exists_eq_left', exists_eq_left, ex2, ex3, exists_eq', List.set_cons_succ, List.set_cons_zero, Nat.reduceAdd, Nat.reduceSub, true_and, and_true, D.bl.injEq, D.int.injEq, D.str.injEq, D.ptr.injEq, D.tup.injEq, decide_eq_true_eq, beq_iff_eq, Bool.false_eq_true, if_true, if_false, reduceIte, wipeD, List.foldr_cons, List.foldr_nil, Nat.reduceLeDiff, List.cons.injEq, and_self, List.length_cons, List.length_nil]
  have hz : l.length ≤ sizeLine := by rw [sizeLine_eq]; omega
  refine len_s hz (draw' hP hN (by omega) (by omega) fun i C' hi hP' hK => ?_)
  have hi : i < l.length := by omega
  refine ix_sn hz (List.getElem?_eq_getElem hi) ?_
  exact ⟨C', Sub.refl _, k _ C' (List.getElem_mem hi) hP' hK⟩
theorem pick_l {xs : List D} {r : Addr} (hP : Pot C p q N) (hN : N < 2 ^ 19) (hr : isL C r xs) (hn : ¬ S2 p q r) (hl : 0 < xs.length) (hl2 : xs.length ≤ 1000) (k : ∀ d C', d ∈ xs → Pot C' p q (N + 1) → Kp (S2 p q) C C' → Q d C') : D__law_pick [.ptr p, .ptr r] C Q E := by
  unfold D__law_pick runD r__law_pick
  try simp only [dSeq, dGetI_eq, Bool.not_true, Bool.not_false, dAsg, dOp, dVar, dC, gNm, gTp, gCn, gNl, dRet, dIf, dTest, dTru, dNot, dAnd, dOr, dNext, dDrop, dCons, dNil, dTup, dLst, dEmp, dEmpG, dPar, dPar3, dSetI, dCall, dCB, dBM, dBM0, dIfE, dNeg, dSl, dPart, dNoP, dAug, addI, dBreak, dCont, dAlt, dYes, dPairs, dDisp, gSubD, dBMd, addD_ii, addD_ss, addD_tt, subD_ii, mulD_ii, modD_ii, fdivD_ii, powD_ii, ltD_ii, leD_ii, gtD_ii, geD_ii, ltD_ss, leD_ss, eqR_ii, eqR_ss, eqR_tt, eqR_bb, abs_ii, max_ii, min_ii, truD_b, slD_t, slD_s, inR_t, List.map, List.length, List.replicate, List.cons_append, List.nil_append, List.append_nil, List.getElem?_cons_succ, List.getElem?_cons_zero, Option.some.injEq, exists_eq_left', exists_eq_left, ex2, ex3, exists_eq', List.set_cons_succ, List.set_cons_zero, Nat.reduceAdd, Nat.reduceSub, true_and, and_true, D.bl.injEq, D.int.injEq, D.str.injEq, D.ptr.injEq, D.tup.injEq, decide_eq_true_eq, beq_iff_eq, Bool.false_eq_true, if_true, if_false, reduceIte, wipeD, List.foldr_cons, List.foldr_nil, Nat.reduceLeDiff, List.cons.injEq, and_self, List.length_cons, List.length_nil]
  refine len_l hr (draw' hP hN (by omega) (by omega) fun i C' hi hP' hK => ?_)
  have hi : i < xs.length := by omega
  refine ix_n (hK.isL hn hr) (List.getElem?_eq_getElem hi) ?_
  exact ⟨C', Sub.refl _, k _ C' (List.getElem_mem hi) hP' hK⟩
theorem Pot.ne (h : Pot C p q N) {r : Addr} (z : C r = none) : ¬ S2 p q r := by
  obtain ⟨xs, b, c, n, h1, h2, _⟩ := h
  rintro (e | e)
  · subst e; rw [h1] at z; cases z
  · subst e; rw [h2] at z; cases z
theorem Pot.up (h : Pot C p q N) {r : Addr} {c : Cell} (z : ¬ S2 p q r) : Pot (up C r c) p q N := by
  obtain ⟨xs, b, c', n, h1, h2, h3⟩ := h
  refine ⟨xs, b, c', n, ?_, ?_, h3⟩
  · rw [up_ne (fun e => z (.inl e.symm))]; exact h1
  · rw [up_ne (fun e => z (.inr e.symm))]; exact h2
theorem Pot.mono (h : Pot C p q N) {M : Nat} (l : N ≤ M) : Pot C p q M := by
  obtain ⟨xs, b, c', n, h1, h2, h3, h4, h5, h6, h7, h8⟩ := h
  exact ⟨xs, b, c', n, h1, h2, h3, h4, h5, h6, by omega, h8⟩
def Short (m : Nat) (xs : List (List Nat)) : Prop := ∀ x ∈ xs, x.length ≤ m
theorem short_nil {m : Nat} : Short m [] := fun x hx => (by cases hx)
theorem erase_map {α β : Type} (f : α → β) : ∀ (xs : List α) (i : Nat), (xs.map f).eraseIdx i = (xs.eraseIdx i).map f
  | [], _ => rfl
  | _ :: _, 0 => rfl
  | x :: r, i + 1 => by
    rw [List.map_cons, List.eraseIdx_cons_succ, List.eraseIdx_cons_succ, List.map_cons, erase_map f r i]
theorem sum_short {m : Nat} : ∀ {xs : List (List Nat)}, Short m xs → (xs.map List.length).sum ≤ xs.length * m
  | [], _ => by simp
  | x :: r, h => by
    have h1 := h x List.mem_cons_self
    have h2 := sum_short (xs := r) fun y hy => h y (List.mem_cons_of_mem _ hy)
    rw [List.map_cons, List.sum_cons, List.length_cons, Nat.succ_mul]
    omega
theorem join_len : ∀ (ys : List (List Nat)), (joinD [] ys).length = (ys.map List.length).sum := by
  intro ys
  unfold joinD
  induction ys with
  | nil => rfl
  | cons x r ih =>
    cases r with
    | nil => simp [TL.joinL]
    | cons y r => 
      rw [List.map_cons, List.sum_cons, ← ih]
      simp [TL.joinL]
theorem cut_len {l : List Nat} {a b : Option Int} : (cutL l a b).length ≤ l.length := by
  unfold cutL
  rw [List.length_take, List.length_drop]
  omega
end K01

namespace K01
open PySem PySem.Spec PyProof.Rows KB
open L2 hiding op_eqD op_neD call_listD
variable {C : Cp} {p q : Addr} {N : Nat} {Q : DQ} {E : Exn → Cp → Prop}
abbrev None : Addr → Prop := fun _ => False
theorem isi {d : D} {n tb : String} {b : Bool} (hn : nameD C d n) (hb : kitB n tb = some b) (k : Q (.bl b) C) : isiR [d, .ty tb] C Q := ⟨d, tb, n, b, rfl, hn, hb, k⟩
def Fine (l : List Nat) : Prop := l.length ≤ 1000 ∧ ∀ c ∈ l, c = 10 ∨ (32 ≤ c ∧ c ≤ 126)
def Oth (C : Cp) (d : D) : Prop := d = .non ∨ (∃ b, d = .bl b) ∨ (∃ i, d = .int i) ∨ ∃ p, d = .ptr p ∧ ((∃ ds, C p = some (.lst ds)) ∨ ∃ kvs, C p = some (.dk kvs))
def Th0 (C : Cp) (d : D) : Prop := (∃ l, d = .str l ∧ Fine l) ∨ (∃ ds, d = .tup ds) ∨ Oth C d
def Th (C : Cp) (d : D) : Prop := (∃ l, d = .str l ∧ Fine l) ∨ (∃ ds, d = .tup ds ∧ ds.length ≤ 500 ∧ ∀ e ∈ ds, Th0 C e) ∨ Oth C d
theorem oth_is {d : D} (h : Oth C d) : ∃ n, nameD C d n ∧ kitB n "str" = some false ∧ kitB n "tuple" = some false := by
  rcases h with h | ⟨b, h⟩ | ⟨i, h⟩ | ⟨p, h, ⟨ds, e⟩ | ⟨kvs, e⟩⟩
  · subst h; exact ⟨"NoneType", rfl, by kernel_rfl, by kernel_rfl⟩
  · subst h; exact ⟨"bool", rfl, by kernel_rfl, by kernel_rfl⟩
  · subst h; exact ⟨"int", rfl, by kernel_rfl, by kernel_rfl⟩
  · subst h; exact ⟨"list", .inl ⟨rfl, ds, .inl e⟩, by kernel_rfl, by kernel_rfl⟩
  · subst h; exact ⟨"dict", .inr ⟨rfl, kvs, e⟩, by kernel_rfl, by kernel_rfl⟩
theorem Th.th0 {d : D} (h : Th C d) : Th0 C d := by
  rcases h with h | ⟨ds, e, _⟩ | h
  · exact .inl h
  · exact .inr (.inl ⟨ds, e⟩)
  · exact .inr (.inr h)
theorem Oth.kp {d : D} {C' : Cp} (h : Oth C d) (k : Kp None C C') : Oth C' d := by
  rcases h with h | h | h | ⟨p, h, ⟨ds, e⟩ | ⟨kvs, e⟩⟩
  · exact .inl h
  · exact .inr (.inl h)
  · exact .inr (.inr (.inl h))
  · exact .inr (.inr (.inr ⟨p, h, .inl ⟨ds, k _ _ (fun h => h) e⟩⟩))
  · exact .inr (.inr (.inr ⟨p, h, .inr ⟨kvs, k _ _ (fun h => h) e⟩⟩))
theorem Th0.kp {d : D} {C' : Cp} (h : Th0 C d) (k : Kp None C C') : Th0 C' d := by
  rcases h with h | h | h
  · exact .inl h
  · exact .inr (.inl h)
  · exact .inr (.inr (h.kp k))
theorem Th.kp {d : D} {C' : Cp} (h : Th C d) (k : Kp None C C') : Th C' d := by
  rcases h with h | ⟨ds, e, hl, h⟩ | h
  · exact .inl h
  · exact .inr (.inl ⟨ds, e, hl, fun x hx => (h x hx).kp k⟩)
  · exact .inr (.inr (h.kp k))
def ALPHA : List Nat := [97, 98, 99, 100, 101, 102, 103, 104, 105, 106, 107, 108, 109, 110, 111, 112, 113, 114, 115, 116, 117, 118, 119, 120, 121, 122, 48, 49, 50, 51, 52, 53, 54, 55, 56, 57, 45]
def isW (l : List Nat) : Bool := decide (1 ≤ l.length ∧ l.length ≤ 12) && l.all fun c => decide (c ∈ ALPHA)
def isWd : D → Bool
  | .str l => isW l
  | _ => false
def isT (l : List Nat) : Bool := decide (1 ≤ l.length ∧ l.length ≤ 60) && (!(l.head? == some 32) && (!(l.getLast? == some 32) && l.all fun c => decide (c ≠ 10)))
def isTd : D → Bool
  | .str l => isT l
  | _ => false
def isPd : D → Bool
  | .tup ds => ds.all isWd
  | _ => false
theorem alpha_is (c : Nat) : decide (c ∈ ALPHA) = (decide (97 ≤ c ∧ c ≤ 122) || (decide (48 ≤ c ∧ c ≤ 57) || decide (c = 45))) := by
  rw [Bool.eq_iff_iff]
  simp only [decide_eq_true_eq, Bool.or_eq_true, ALPHA, List.mem_cons, List.not_mem_nil, or_false]
  omega
theorem lt_one {a b : Nat} : ([a] < [b]) = (a < b) := by
  rw [List.cons_lt_cons_iff]
  simp
theorem all_take {α : Type} (f : α → Bool) (l : List α) : (l.map f).all id = l.all f := by
  rw [List.all_map]
  rfl
/-- all([f(sign) for sign in text]) -/
theorem lc_str {l : List Nat} {f : Nat → Bool} {te : DE} {s : Sl} {i : Nat} {Q : DQ} (hl : l.length ≤ 1000) (he : ∀ c ∈ l, ∀ Q' : DQ, Q' (.bl (f c)) C → te ((wipeD s [i]).set i (some (.str [c]))) C Q') (h0 : s[0]? = some (some (.str l)))
    (k : ∀ p, C p = none → Q (.ptr p) (up C p (.lst ((l.map f).map D.bl)))) : dLc (dOverS (dVar 0)) (gNm i) dYes te [i] s C Q := by
  unfold dLc
  try unfold dOverS
  unfold dVar
  refine ⟨_, h0, ?_⟩
  refine ⟨fun j acc C' => acc = ((l.map f).take j).map D.bl ∧ C' = C, ⟨by simp, rfl⟩, fun _ _ _ _ _ => trivial, fun j x acc C' e hp hj => ?_, by rw [List.length_map, sizeLine_eq]; omega, fun acc C' p hp hn => ?_⟩
  · obtain ⟨rfl, rfl⟩ := hp
    rw [List.getElem?_map] at e
    cases ee : l[j]? with
    | none => rw [ee] at e; cases e
    | some c =>
      rw [ee] at e
      cases e
      simp only [gNm, dYes, if_true]
      refine he c (List.mem_of_getElem? ee) _ ⟨C', Sub.refl _, ?_, rfl⟩
      rw [List.take_add_one, List.getElem?_map, ee, List.map_append]
      rfl
  · obtain ⟨rfl, rfl⟩ := hp
    rw [List.length_map, List.take_of_length_le (by rw [List.length_map]; exact Nat.le_refl _)]
    exact k p hn
theorem all_l {p : Addr} {bs : List Bool} (h : isL C p (bs.map D.bl)) (k : Q (.bl (bs.all id)) C) : allR [.ptr p] C Q := ⟨p, bs, rfl, h, k⟩
theorem is_word {d : D} (h : Th0 C d) (k : ∀ C', Kp None C C' → Q (.bl (isWd d)) C') : D_is_word [d] C Q E := by
  unfold D_is_word runD r_is_word
  try simp only [dSeq, dChain, dOrT, dAndT, dNotT, dGetI_eq, Bool.not_true, Bool.not_false, dAsg, dOp, dVar, dC, gNm, gTp, gCn, gNl, dRet, dIf, dTest, dTru, dNot, dAnd, dOr, dNext, dDrop, dCons, dNil, dTup, dLst, dEmp, dEmpG, dPar, dPar3, dSetI, dCall, dCB, dBM, dBM0, dIfE, dNeg, dSl, dPart, dNoP, dAug, addI, dBreak, dCont, dAlt, dYes, dPairs, dDisp, gSubD, dBMd, addD_ii, addD_ss, addD_tt, subD_ii, mulD_ii, modD_ii, fdivD_ii, powD_ii, ltD_ii, leD_ii, gtD_ii, geD_ii, ltD_ss, leD_ss, eqR_ii, eqR_ss, eqR_tt, eqR_bb, abs_ii, max_ii, min_ii, truD_b, slD_t, slD_s, inR_t, List.map, List.length, List.replicate, List.cons_append, List.nil_append, List.append_nil, List.getElem?_cons_succ, List.getElem?_cons_zero, Option.some.injEq, exists_eq_left', exists_eq_left, ex2, ex3, exists_eq', List.set_cons_succ, List.set_cons_zero, Nat.reduceAdd, Nat.reduceSub, true_and, and_true, D.bl.injEq, D.int.injEq, D.str.injEq, D.ptr.injEq, D.tup.injEq, decide_eq_true_eq, beq_iff_eq, Bool.false_eq_true, if_true, if_false, reduceIte, wipeD, List.foldr_cons, List.foldr_nil, Nat.reduceLeDiff, List.cons.injEq, and_self, List.length_cons, List.length_nil]
  rcases h with ⟨l, rfl, hf⟩ | ⟨ds, rfl⟩ | h
  · refine isi (n := "str") rfl (b := true) (by kernel_rfl) ?_
    try simp only [dSeq, dChain, dOrT, dAndT, dNotT, dGetI_eq, Bool.not_true, Bool.not_false, dAsg, dOp, dVar, dC, gNm, gTp, gCn, gNl, dRet, dIf, dTest, dTru, dNot, dAnd, dOr, dNext, dDrop, dCons, dNil, dTup, dLst, dEmp, dEmpG, dPar, dPar3, dSetI, dCall, dCB, dBM, dBM0, dIfE, dNeg, dSl, dPart, dNoP, dAug, addI, dBreak, dCont, dAlt, dYes, dPairs, dDisp, gSubD, dBMd, addD_ii, addD_ss, addD_tt, subD_ii, mulD_ii, modD_ii, fdivD_ii, powD_ii, ltD_ii, leD_ii, gtD_ii, geD_ii, ltD_ss, leD_ss, eqR_ii, eqR_ss, eqR_tt, eqR_bb, abs_ii, max_ii, min_ii, truD_b, slD_t, slD_s, inR_t, List.map, List.length, List.replicate, List.cons_append, List.nil_append, List.append_nil, List.getElem?_cons_succ, List.getElem?_cons_zero, Option.some.injEq, exists_eq_left', exists_eq_left, ex2, ex3, exists_eq', List.set_cons_succ, List.set_cons_zero, Nat.reduceAdd, Nat.reduceSub, true_and, and_true, D.bl.injEq, D.int.injEq, D.str.injEq, D.ptr.injEq, D.tup.injEq, decide_eq_true_eq, beq_iff_eq, Bool.false_eq_true, if_true, if_false, reduceIte, wipeD, List.foldr_cons, List.foldr_nil, Nat.reduceLeDiff, List.cons.injEq, and_self, List.length_cons, List.length_nil]
    refine len_s (by rw [sizeLine_eq]; have := hf.1; omega) ?_
    try simp only [dSeq, dChain, dOrT, dAndT, dNotT, dGetI_eq, Bool.not_true, Bool.not_false, dAsg, dOp, dVar, dC, gNm, gTp, gCn, gNl, dRet, dIf, dTest, dTru, dNot, dAnd, dOr, dNext, dDrop, dCons, dNil, dTup, dLst, dEmp, dEmpG, dPar, dPar3, dSetI, dCall, dCB, dBM, dBM0, dIfE, dNeg, dSl, dPart, dNoP, dAug, addI, dBreak, dCont, dAlt, dYes, dPairs, dDisp, gSubD, dBMd, addD_ii, addD_ss, addD_tt, subD_ii, mulD_ii, modD_ii, fdivD_ii, powD_ii, ltD_ii, leD_ii, gtD_ii, geD_ii, ltD_ss, leD_ss, eqR_ii, eqR_ss, eqR_tt, eqR_bb, abs_ii, max_ii, min_ii, truD_b, slD_t, slD_s, inR_t, List.map, List.length, List.replicate, List.cons_append, List.nil_append, List.append_nil, List.getElem?_cons_succ, List.getElem?_cons_zero, Option.some.injEq, exists_eq_left', exists_eq_left, ex2, ex3, exists_eq', List.set_cons_succ, List.set_cons_zero, Nat.reduceAdd, Nat.reduceSub, true_and, and_true, D.bl.injEq, D.int.injEq, D.str.injEq, D.ptr.injEq, D.tup.injEq, decide_eq_true_eq, beq_iff_eq, Bool.false_eq_true, if_true, if_false, reduceIte, wipeD, List.foldr_cons, List.foldr_nil, Nat.reduceLeDiff, List.cons.injEq, and_self, List.length_cons, List.length_nil]
    by_cases h1 : 1 ≤ l.length
    · rw [if_pos (by omega)]
      by_cases h2 : l.length ≤ 12
      · rw [if_neg (by simp; omega)]
        unfold r_is_word_1
        try simp only [dSeq, dChain, dOrT, dAndT, dNotT, dGetI_eq, Bool.not_true, Bool.not_false, dAsg, dOp, dVar, dC, gNm, gTp, gCn, gNl, dRet, dIf, dTest, dTru, dNot, dAnd, dOr, dNext, dDrop, dCons, dNil, dTup, dLst, dEmp, dEmpG, dPar, dPar3, dSetI, dCall, dCB, dBM, dBM0, dIfE, dNeg, dSl, dPart, dNoP, dAug, addI, dBreak, dCont, dAlt, dYes, dPairs, dDisp, gSubD, dBMd, addD_ii, addD_ss, addD_tt, subD_ii, mulD_ii, modD_ii, fdivD_ii, powD_ii, ltD_ii, leD_ii, gtD_ii, geD_ii, ltD_ss, leD_ss, eqR_ii, eqR_ss, eqR_tt, eqR_bb, abs_ii, max_ii, min_ii, truD_b, slD_t, slD_s, inR_t, List.map, List.length, List.replicate, List.cons_append, List.nil_append, List.append_nil, List.getElem?_cons_succ, List.getElem?_cons_zero, Option.some.injEq, exists_eq_left', exists_eq_left, ex2, ex3, exists_eq', List.set_cons_succ, List.set_cons_zero, Nat.reduceAdd, Nat.reduceSub, true_and, and_true, D.bl.injEq, D.int.injEq, D.str.injEq, D.ptr.injEq, D.tup.injEq, decide_eq_true_eq, beq_iff_eq, Bool.false_eq_true, if_true, if_false, reduceIte, wipeD, List.foldr_cons, List.foldr_nil, Nat.reduceLeDiff, List.cons.injEq, and_self, List.length_cons, List.length_nil]
        refine lc_str (f := fun c => decide (c ∈ ALPHA)) (by have := hf.1; omega) (fun c hc Q' q => ?_) rfl fun p hp => ?_
        · try simp only [dSeq, dChain, dOrT, dAndT, dNotT, dGetI_eq, Bool.not_true, Bool.not_false, dAsg, dOp, dVar, dC, gNm, gTp, gCn, gNl, dRet, dIf, dTest, dTru, dNot, dAnd, dOr, dNext, dDrop, dCons, dNil, dTup, dLst, dEmp, dEmpG, dPar, dPar3, dSetI, dCall, dCB, dBM, dBM0, dIfE, dNeg, dSl, dPart, dNoP, dAug, addI, dBreak, dCont, dAlt, dYes, dPairs, dDisp, gSubD, dBMd, addD_ii, addD_ss, addD_tt, subD_ii, mulD_ii, modD_ii, fdivD_ii, powD_ii, ltD_ii, leD_ii, gtD_ii, geD_ii, ltD_ss, leD_ss, eqR_ii, eqR_ss, eqR_tt, eqR_bb, abs_ii, max_ii, min_ii, truD_b, slD_t, slD_s, inR_t, List.map, List.length, List.replicate, List.cons_append, List.nil_append, List.append_nil, List.getElem?_cons_succ, List.getElem?_cons_zero, Option.some.injEq, exists_eq_left', exists_eq_left, ex2, ex3, exists_eq', List.set_cons_succ, List.set_cons_zero, Nat.reduceAdd, Nat.reduceSub, true_and, and_true, D.bl.injEq, D.int.injEq, D.str.injEq, D.ptr.injEq, D.tup.injEq, decide_eq_true_eq, beq_iff_eq, Bool.false_eq_true, if_true, if_false, reduceIte, wipeD, List.foldr_cons, List.foldr_nil, Nat.reduceLeDiff, List.cons.injEq, and_self, List.length_cons, List.length_nil]
          exact ⟨c, ALPHA, rfl, rfl, q⟩
        · refine all_l (.inl up_same) ⟨_, Sub.refl _, ?_⟩
          have e : isWd (.str l) = (l.map fun c => decide (c ∈ ALPHA)).all id := by
            rw [all_take]
            show isW l = _
            unfold isW
            rw [decide_eq_true ⟨h1, h2⟩, Bool.true_and]
          rw [← e]
          exact k _ ((Kp.refl C).new hp)
      · rw [if_pos (by simp; omega)]
        have e : isWd (.str l) = false := by
          show isW l = _
          unfold isW
          rw [decide_eq_false (by omega)]
          rfl
        refine ⟨_, Sub.refl _, ?_⟩
        rw [← e]
        exact k C (Kp.refl C)
    · rw [if_neg (by omega)]
      have e : isWd (.str l) = false := by
        show isW l = _
        unfold isW
        rw [decide_eq_false (by omega)]
        rfl
      try simp only [dSeq, dChain, dOrT, dAndT, dNotT, dGetI_eq, Bool.not_true, Bool.not_false, dAsg, dOp, dVar, dC, gNm, gTp, gCn, gNl, dRet, dIf, dTest, dTru, dNot, dAnd, dOr, dNext, dDrop, dCons, dNil, dTup, dLst, dEmp, dEmpG, dPar, dPar3, dSetI, dCall, dCB, dBM, dBM0, dIfE, dNeg, dSl, dPart, dNoP, dAug, addI, dBreak, dCont, dAlt, dYes, dPairs, dDisp, gSubD, dBMd, addD_ii, addD_ss, addD_tt, subD_ii, mulD_ii, modD_ii, fdivD_ii, powD_ii, ltD_ii, leD_ii, gtD_ii, geD_ii, ltD_ss, leD_ss, eqR_ii, eqR_ss, eqR_tt, eqR_bb, abs_ii, max_ii, min_ii, truD_b, slD_t, slD_s, inR_t, List.map, List.length, List.replicate, List.cons_append, List.nil_append, List.append_nil, List.getElem?_cons_succ, List.getElem?_cons_zero, Option.some.injEq, exists_eq_left', exists_eq_left, ex2, ex3, exists_eq', List.set_cons_succ, List.set_cons_zero, Nat.reduceAdd, Nat.reduceSub, true_and, and_true, D.bl.injEq, D.int.injEq, D.str.injEq, D.ptr.injEq, D.tup.injEq, decide_eq_true_eq, beq_iff_eq, Bool.false_eq_true, if_true, if_false, reduceIte, wipeD, List.foldr_cons, List.foldr_nil, Nat.reduceLeDiff, List.cons.injEq, and_self, List.length_cons, List.length_nil]
      refine ⟨_, Sub.refl _, ?_⟩
      rw [← e]
      exact k C (Kp.refl C)
  · refine isi (n := "tuple") rfl (b := false) (by kernel_rfl) ?_
    try simp only [dSeq, dChain, dOrT, dAndT, dNotT, dGetI_eq, Bool.not_true, Bool.not_false, dAsg, dOp, dVar, dC, gNm, gTp, gCn, gNl, dRet, dIf, dTest, dTru, dNot, dAnd, dOr, dNext, dDrop, dCons, dNil, dTup, dLst, dEmp, dEmpG, dPar, dPar3, dSetI, dCall, dCB, dBM, dBM0, dIfE, dNeg, dSl, dPart, dNoP, dAug, addI, dBreak, dCont, dAlt, dYes, dPairs, dDisp, gSubD, dBMd, addD_ii, addD_ss, addD_tt, subD_ii, mulD_ii, modD_ii, fdivD_ii, powD_ii, ltD_ii, leD_ii, gtD_ii, geD_ii, ltD_ss, leD_ss, eqR_ii, eqR_ss, eqR_tt, eqR_bb, abs_ii, max_ii, min_ii, truD_b, slD_t, slD_s, inR_t, List.map, List.length, List.replicate, List.cons_append, List.nil_append, List.append_nil, List.getElem?_cons_succ, List.getElem?_cons_zero, Option.some.injEq, exists_eq_left', exists_eq_left, ex2, ex3, exists_eq', List.set_cons_succ, List.set_cons_zero, Nat.reduceAdd, Nat.reduceSub, true_and, and_true, D.bl.injEq, D.int.injEq, D.str.injEq, D.ptr.injEq, D.tup.injEq, decide_eq_true_eq, beq_iff_eq, Bool.false_eq_true, if_true, if_false, reduceIte, wipeD, List.foldr_cons, List.foldr_nil, Nat.reduceLeDiff, List.cons.injEq, and_self, List.length_cons, List.length_nil]
    exact ⟨_, Sub.refl _, k C (Kp.refl C)⟩
  · obtain ⟨n, h1, h2, _⟩ := oth_is h
    refine isi h1 h2 ?_
    try simp only [dSeq, dChain, dOrT, dAndT, dNotT, dGetI_eq, Bool.not_true, Bool.not_false, dAsg, dOp, dVar, dC, gNm, gTp, gCn, gNl, dRet, dIf, dTest, dTru, dNot, dAnd, dOr, dNext, dDrop, dCons, dNil, dTup, dLst, dEmp, dEmpG, dPar, dPar3, dSetI, dCall, dCB, dBM, dBM0, dIfE, dNeg, dSl, dPart, dNoP, dAug, addI, dBreak, dCont, dAlt, dYes, dPairs, dDisp, gSubD, dBMd, addD_ii, addD_ss, addD_tt, subD_ii, mulD_ii, modD_ii, fdivD_ii, powD_ii, ltD_ii, leD_ii, gtD_ii, geD_ii, ltD_ss, leD_ss, eqR_ii, eqR_ss, eqR_tt, eqR_bb, abs_ii, max_ii, min_ii, truD_b, slD_t, slD_s, inR_t, List.map, List.length, List.replicate, List.cons_append, List.nil_append, List.append_nil, List.getElem?_cons_succ, List.getElem?_cons_zero, Option.some.injEq, exists_eq_left', exists_eq_left, ex2, ex3, exists_eq', List.set_cons_succ, List.set_cons_zero, Nat.reduceAdd, Nat.reduceSub, true_and, and_true, D.bl.injEq, D.int.injEq, D.str.injEq, D.ptr.injEq, D.tup.injEq, decide_eq_true_eq, beq_iff_eq, Bool.false_eq_true, if_true, if_false, reduceIte, wipeD, List.foldr_cons, List.foldr_nil, Nat.reduceLeDiff, List.cons.injEq, and_self, List.length_cons, List.length_nil]
    have e : isWd d = false := by
      rcases h with h | ⟨b, h⟩ | ⟨i, h⟩ | ⟨p, h, _⟩ <;> (subst h; rfl)
    refine ⟨_, Sub.refl _, ?_⟩
    rw [← e]
    exact k C (Kp.refl C)
theorem law_is_word {d : D} (h : Th0 C d) (k : ∀ C', Kp None C C' → Q (.bl (isWd d)) C') : D__law_is_word [d] C Q E := by
  unfold D__law_is_word runD r__law_is_word
  try simp only [dSeq, dChain, dOrT, dAndT, dNotT, dGetI_eq, Bool.not_true, Bool.not_false, dAsg, dOp, dVar, dC, gNm, gTp, gCn, gNl, dRet, dIf, dTest, dTru, dNot, dAnd, dOr, dNext, dDrop, dCons, dNil, dTup, dLst, dEmp, dEmpG, dPar, dPar3, dSetI, dCall, dCB, dBM, dBM0, dIfE, dNeg, dSl, dPart, dNoP, dAug, addI, dBreak, dCont, dAlt, dYes, dPairs, dDisp, gSubD, dBMd, addD_ii, addD_ss, addD_tt, subD_ii, mulD_ii, modD_ii, fdivD_ii, powD_ii, ltD_ii, leD_ii, gtD_ii, geD_ii, ltD_ss, leD_ss, eqR_ii, eqR_ss, eqR_tt, eqR_bb, abs_ii, max_ii, min_ii, truD_b, slD_t, slD_s, inR_t, List.map, List.length, List.replicate, List.cons_append, List.nil_append, List.append_nil, List.getElem?_cons_succ, List.getElem?_cons_zero, Option.some.injEq, exists_eq_left', exists_eq_left, ex2, ex3, exists_eq', List.set_cons_succ, List.set_cons_zero, Nat.reduceAdd, Nat.reduceSub, true_and, and_true, D.bl.injEq, D.int.injEq, D.str.injEq, D.ptr.injEq, D.tup.injEq, decide_eq_true_eq, beq_iff_eq, Bool.false_eq_true, if_true, if_false, reduceIte, wipeD, List.foldr_cons, List.foldr_nil, Nat.reduceLeDiff, List.cons.injEq, and_self, List.length_cons, List.length_nil]
  rcases h with ⟨l, rfl, hf⟩ | ⟨ds, rfl⟩ | h
  · refine isi (n := "str") rfl (b := true) (by kernel_rfl) ?_
    try simp only [dSeq, dChain, dOrT, dAndT, dNotT, dGetI_eq, Bool.not_true, Bool.not_false, dAsg, dOp, dVar, dC, gNm, gTp, gCn, gNl, dRet, dIf, dTest, dTru, dNot, dAnd, dOr, dNext, dDrop, dCons, dNil, dTup, dLst, dEmp, dEmpG, dPar, dPar3, dSetI, dCall, dCB, dBM, dBM0, dIfE, dNeg, dSl, dPart, dNoP, dAug, addI, dBreak, dCont, dAlt, dYes, dPairs, dDisp, gSubD, dBMd, addD_ii, addD_ss, addD_tt, subD_ii, mulD_ii, modD_ii, fdivD_ii, powD_ii, ltD_ii, leD_ii, gtD_ii, geD_ii, ltD_ss, leD_ss, eqR_ii, eqR_ss, eqR_tt, eqR_bb, abs_ii, max_ii, min_ii, truD_b, slD_t, slD_s, inR_t, List.map, List.length, List.replicate, List.cons_append, List.nil_append, List.append_nil, List.getElem?_cons_succ, List.getElem?_cons_zero, Option.some.injEq, exists_eq_left', exists_eq_left, ex2, ex3, exists_eq', List.set_cons_succ, List.set_cons_zero, Nat.reduceAdd, Nat.reduceSub, true_and, and_true, D.bl.injEq, D.int.injEq, D.str.injEq, D.ptr.injEq, D.tup.injEq, decide_eq_true_eq, beq_iff_eq, Bool.false_eq_true, if_true, if_false, reduceIte, wipeD, List.foldr_cons, List.foldr_nil, Nat.reduceLeDiff, List.cons.injEq, and_self, List.length_cons, List.length_nil]
    refine len_s (by rw [sizeLine_eq]; have := hf.1; omega) ?_
    refine ⟨1, 13, rfl, fun rg hrg => ?_⟩
    refine ⟨_, rg, 1, 13, rfl, rfl, up_same, ?_⟩
    try simp only [dSeq, dChain, dOrT, dAndT, dNotT, dGetI_eq, Bool.not_true, Bool.not_false, dAsg, dOp, dVar, dC, gNm, gTp, gCn, gNl, dRet, dIf, dTest, dTru, dNot, dAnd, dOr, dNext, dDrop, dCons, dNil, dTup, dLst, dEmp, dEmpG, dPar, dPar3, dSetI, dCall, dCB, dBM, dBM0, dIfE, dNeg, dSl, dPart, dNoP, dAug, addI, dBreak, dCont, dAlt, dYes, dPairs, dDisp, gSubD, dBMd, addD_ii, addD_ss, addD_tt, subD_ii, mulD_ii, modD_ii, fdivD_ii, powD_ii, ltD_ii, leD_ii, gtD_ii, geD_ii, ltD_ss, leD_ss, eqR_ii, eqR_ss, eqR_tt, eqR_bb, abs_ii, max_ii, min_ii, truD_b, slD_t, slD_s, inR_t, List.map, List.length, List.replicate, List.cons_append, List.nil_append, List.append_nil, List.getElem?_cons_succ, List.getElem?_cons_zero, Option.some.injEq, exists_eq_left', exists_eq_left, ex2, ex3, exists_eq', List.set_cons_succ, List.set_cons_zero, Nat.reduceAdd, Nat.reduceSub, true_and, and_true, D.bl.injEq, D.int.injEq, D.str.injEq, D.ptr.injEq, D.tup.injEq, decide_eq_true_eq, beq_iff_eq, Bool.false_eq_true, if_true, if_false, reduceIte, wipeD, List.foldr_cons, List.foldr_nil, Nat.reduceLeDiff, List.cons.injEq, and_self, List.length_cons, List.length_nil]
    have kr : Kp None C (up C rg (.raw (RngO rg 1 13))) := (Kp.refl C).new hrg
    generalize up C rg (.raw (RngO rg 1 13)) = C1 at kr
    by_cases h1 : 1 ≤ l.length ∧ l.length ≤ 12
    · rw [if_neg (by simp; omega)]
      unfold r__law_is_word_1
      try simp only [dSeq, dChain, dOrT, dAndT, dNotT, dGetI_eq, Bool.not_true, Bool.not_false, dAsg, dOp, dVar, dC, gNm, gTp, gCn, gNl, dRet, dIf, dTest, dTru, dNot, dAnd, dOr, dNext, dDrop, dCons, dNil, dTup, dLst, dEmp, dEmpG, dPar, dPar3, dSetI, dCall, dCB, dBM, dBM0, dIfE, dNeg, dSl, dPart, dNoP, dAug, addI, dBreak, dCont, dAlt, dYes, dPairs, dDisp, gSubD, dBMd, addD_ii, addD_ss, addD_tt, subD_ii, mulD_ii, modD_ii, fdivD_ii, powD_ii, ltD_ii, leD_ii, gtD_ii, geD_ii, ltD_ss, leD_ss, eqR_ii, eqR_ss, eqR_tt, eqR_bb, abs_ii, max_ii, min_ii, truD_b, slD_t, slD_s, inR_t, List.map, List.length, List.replicate, List.cons_append, List.nil_append, List.append_nil, List.getElem?_cons_succ, List.getElem?_cons_zero, Option.some.injEq, exists_eq_left', exists_eq_left, ex2, ex3, exists_eq', List.set_cons_succ, List.set_cons_zero, Nat.reduceAdd, Nat.reduceSub, true_and, and_true, D.bl.injEq, D.int.injEq, D.str.injEq, D.ptr.injEq, D.tup.injEq, decide_eq_true_eq, beq_iff_eq, Bool.false_eq_true, if_true, if_false, reduceIte, wipeD, List.foldr_cons, List.foldr_nil, Nat.reduceLeDiff, List.cons.injEq, and_self, List.length_cons, List.length_nil]
      refine lc_str (f := fun c => decide (c ∈ ALPHA)) (by have := hf.1; omega) (fun c hc Q' q => ?_) rfl fun p hp => ?_
      · try simp only [dSeq, dChain, dOrT, dAndT, dNotT, dGetI_eq, Bool.not_true, Bool.not_false, dAsg, dOp, dVar, dC, gNm, gTp, gCn, gNl, dRet, dIf, dTest, dTru, dNot, dAnd, dOr, dNext, dDrop, dCons, dNil, dTup, dLst, dEmp, dEmpG, dPar, dPar3, dSetI, dCall, dCB, dBM, dBM0, dIfE, dNeg, dSl, dPart, dNoP, dAug, addI, dBreak, dCont, dAlt, dYes, dPairs, dDisp, gSubD, dBMd, addD_ii, addD_ss, addD_tt, subD_ii, mulD_ii, modD_ii, fdivD_ii, powD_ii, ltD_ii, leD_ii, gtD_ii, geD_ii, ltD_ss, leD_ss, eqR_ii, eqR_ss, eqR_tt, eqR_bb, abs_ii, max_ii, min_ii, truD_b, slD_t, slD_s, inR_t, List.map, List.length, List.replicate, List.cons_append, List.nil_append, List.append_nil, List.getElem?_cons_succ, List.getElem?_cons_zero, Option.some.injEq, exists_eq_left', exists_eq_left, ex2, ex3, exists_eq', List.set_cons_succ, List.set_cons_zero, Nat.reduceAdd, Nat.reduceSub, true_and, and_true, D.bl.injEq, D.int.injEq, D.str.injEq, D.ptr.injEq, D.tup.injEq, decide_eq_true_eq, beq_iff_eq, Bool.false_eq_true, if_true, if_false, reduceIte, wipeD, List.foldr_cons, List.foldr_nil, Nat.reduceLeDiff, List.cons.injEq, and_self, List.length_cons, List.length_nil]
        rw [alpha_is] at q
        simp only [lt_one] at *
        by_cases a1 : 97 ≤ c
        · by_cases a2 : c ≤ 122
          · simp [a1, a2, Nat.not_lt.mpr a1, Nat.not_lt.mpr a2] at q ⊢
            exact q
          · by_cases a3 : c ≤ 57
            · omega
            · have a4 : 122 < c := by omega
              have a5 : 57 < c := by omega
              have a6 : 48 ≤ c := by omega
              have a7 : ¬ c = 45 := by omega
              have a8 : (c == 45) = false := by simpa using a7
              simp [a1, a2, a3, a4, a5, a6, a7, Nat.not_lt.mpr a1, Nat.not_lt.mpr a6] at q ⊢
              rw [a8]; exact q
        · have a2 : c < 97 := by omega
          by_cases a3 : 48 ≤ c
          · by_cases a4 : c ≤ 57
            · simp [a1, a2, a3, a4, Nat.not_lt.mpr a3, Nat.not_lt.mpr a4] at q ⊢
              exact q
            · have a5 : 57 < c := by omega
              have a7 : ¬ c = 45 := by omega
              have a8 : (c == 45) = false := by simpa using a7
              simp [a1, a2, a3, a4, a5, a7, Nat.not_lt.mpr a3] at q ⊢
              rw [a8]; exact q
          · have a4 : c < 48 := by omega
            simp [a1, a2, a3, a4] at q ⊢
            exact q
      · refine all_l (.inl up_same) ⟨_, Sub.refl _, ?_⟩
        have e : isWd (.str l) = (l.map fun c => decide (c ∈ ALPHA)).all id := by
          rw [all_take]
          show isW l = _
          unfold isW
          rw [decide_eq_true h1, Bool.true_and]
        rw [← e]
        exact k _ (kr.new hp)
    · rw [if_pos (by simp; omega)]
      have e : isWd (.str l) = false := by
        show isW l = _
        unfold isW
        rw [decide_eq_false h1]
        rfl
      refine ⟨_, Sub.refl _, ?_⟩
      rw [← e]
      exact k _ kr
  · refine isi (n := "tuple") rfl (b := false) (by kernel_rfl) ?_
    try simp only [dSeq, dChain, dOrT, dAndT, dNotT, dGetI_eq, Bool.not_true, Bool.not_false, dAsg, dOp, dVar, dC, gNm, gTp, gCn, gNl, dRet, dIf, dTest, dTru, dNot, dAnd, dOr, dNext, dDrop, dCons, dNil, dTup, dLst, dEmp, dEmpG, dPar, dPar3, dSetI, dCall, dCB, dBM, dBM0, dIfE, dNeg, dSl, dPart, dNoP, dAug, addI, dBreak, dCont, dAlt, dYes, dPairs, dDisp, gSubD, dBMd, addD_ii, addD_ss, addD_tt, subD_ii, mulD_ii, modD_ii, fdivD_ii, powD_ii, ltD_ii, leD_ii, gtD_ii, geD_ii, ltD_ss, leD_ss, eqR_ii, eqR_ss, eqR_tt, eqR_bb, abs_ii, max_ii, min_ii, truD_b, slD_t, slD_s, inR_t, List.map, List.length, List.replicate, List.cons_append, List.nil_append, List.append_nil, List.getElem?_cons_succ, List.getElem?_cons_zero, Option.some.injEq, exists_eq_left', exists_eq_left, ex2, ex3, exists_eq', List.set_cons_succ, List.set_cons_zero, Nat.reduceAdd, Nat.reduceSub, true_and, and_true, D.bl.injEq, D.int.injEq, D.str.injEq, D.ptr.injEq, D.tup.injEq, decide_eq_true_eq, beq_iff_eq, Bool.false_eq_true, if_true, if_false, reduceIte, wipeD, List.foldr_cons, List.foldr_nil, Nat.reduceLeDiff, List.cons.injEq, and_self, List.length_cons, List.length_nil]
    exact ⟨_, Sub.refl _, k C (Kp.refl C)⟩
  · obtain ⟨n, h1, h2, _⟩ := oth_is h
    refine isi h1 h2 ?_
    try simp only [dSeq, dChain, dOrT, dAndT, dNotT, dGetI_eq, Bool.not_true, Bool.not_false, dAsg, dOp, dVar, dC, gNm, gTp, gCn, gNl, dRet, dIf, dTest, dTru, dNot, dAnd, dOr, dNext, dDrop, dCons, dNil, dTup, dLst, dEmp, dEmpG, dPar, dPar3, dSetI, dCall, dCB, dBM, dBM0, dIfE, dNeg, dSl, dPart, dNoP, dAug, addI, dBreak, dCont, dAlt, dYes, dPairs, dDisp, gSubD, dBMd, addD_ii, addD_ss, addD_tt, subD_ii, mulD_ii, modD_ii, fdivD_ii, powD_ii, ltD_ii, leD_ii, gtD_ii, geD_ii, ltD_ss, leD_ss, eqR_ii, eqR_ss, eqR_tt, eqR_bb, abs_ii, max_ii, min_ii, truD_b, slD_t, slD_s, inR_t, List.map, List.length, List.replicate, List.cons_append, List.nil_append, List.append_nil, List.getElem?_cons_succ, List.getElem?_cons_zero, Option.some.injEq, exists_eq_left', exists_eq_left, ex2, ex3, exists_eq', List.set_cons_succ, List.set_cons_zero, Nat.reduceAdd, Nat.reduceSub, true_and, and_true, D.bl.injEq, D.int.injEq, D.str.injEq, D.ptr.injEq, D.tup.injEq, decide_eq_true_eq, beq_iff_eq, Bool.false_eq_true, if_true, if_false, reduceIte, wipeD, List.foldr_cons, List.foldr_nil, Nat.reduceLeDiff, List.cons.injEq, and_self, List.length_cons, List.length_nil]
    have e : isWd d = false := by
      rcases h with h | ⟨b, h⟩ | ⟨i, h⟩ | ⟨p, h, _⟩ <;> (subst h; rfl)
    refine ⟨_, Sub.refl _, ?_⟩
    rw [← e]
    exact k C (Kp.refl C)
/-- all([f(word) for word in tuple]) -/
theorem lc_tup {ds : List D} {f : D → Bool} {te : DE} {s : Sl} {i : Nat} {Q : DQ} (hl : ds.length ≤ 1000) (he : ∀ d ∈ ds, ∀ C1 : Cp, Kp None C C1 → ∀ Q' : DQ, (∀ C2, Kp None C1 C2 → Q' (.bl (f d)) C2) → te ((wipeD s [i]).set i (some d)) C1 Q') (h0 : s[0]? = some (some (.tup ds)))
    (k : ∀ p C1, Kp None C C1 → C1 p = none → Q (.ptr p) (up C1 p (.lst ((ds.map f).map D.bl)))) : dLc (dOverT (dVar 0)) (gNm i) dYes te [i] s C Q := by
  unfold dLc
  try unfold dOverT
  unfold dVar
  refine ⟨_, h0, ?_⟩
  refine ⟨fun j acc C' => acc = ((ds.map f).take j).map D.bl ∧ Kp None C C', ⟨by simp, Kp.refl _⟩, fun _ _ _ _ _ => trivial, fun j x acc C' e hp hj => ?_, by rw [sizeLine_eq]; omega, fun acc C' p hp hn => ?_⟩
  · obtain ⟨rfl, kk⟩ := hp
    simp only [gNm, dYes, if_true]
    refine he x (List.mem_of_getElem? e) C' kk _ fun C2 k2 => ⟨C2, Sub.refl _, ?_, kk.trans k2⟩
    rw [List.take_add_one, List.getElem?_map, e, List.map_append]
    rfl
  · obtain ⟨rfl, kk⟩ := hp
    rw [List.take_of_length_le (by rw [List.length_map]; exact Nat.le_refl _)]
    exact k p C' kk hn
theorem is_path {d : D} (h : Th C d) (k : ∀ C', Kp None C C' → Q (.bl (isPd d)) C') : D_is_path [d] C Q E := by
  unfold D_is_path runD r_is_path
  try simp only [dSeq, dChain, dOrT, dAndT, dNotT, dGetI_eq, Bool.not_true, Bool.not_false, dAsg, dOp, dVar, dC, gNm, gTp, gCn, gNl, dRet, dIf, dTest, dTru, dNot, dAnd, dOr, dNext, dDrop, dCons, dNil, dTup, dLst, dEmp, dEmpG, dPar, dPar3, dSetI, dCall, dCB, dBM, dBM0, dIfE, dNeg, dSl, dPart, dNoP, dAug, addI, dBreak, dCont, dAlt, dYes, dPairs, dDisp, gSubD, dBMd, addD_ii, addD_ss, addD_tt, subD_ii, mulD_ii, modD_ii, fdivD_ii, powD_ii, ltD_ii, leD_ii, gtD_ii, geD_ii, ltD_ss, leD_ss, eqR_ii, eqR_ss, eqR_tt, eqR_bb, abs_ii, max_ii, min_ii, truD_b, slD_t, slD_s, inR_t, List.map, List.length, List.replicate, List.cons_append, List.nil_append, List.append_nil, List.getElem?_cons_succ, List.getElem?_cons_zero, Option.some.injEq, exists_eq_left', exists_eq_left, ex2, ex3, exists_eq', List.set_cons_succ, List.set_cons_zero, Nat.reduceAdd, Nat.reduceSub, true_and, and_true, D.bl.injEq, D.int.injEq, D.str.injEq, D.ptr.injEq, D.tup.injEq, decide_eq_true_eq, beq_iff_eq, Bool.false_eq_true, if_true, if_false, reduceIte, wipeD, List.foldr_cons, List.foldr_nil, Nat.reduceLeDiff, List.cons.injEq, and_self, List.length_cons, List.length_nil]
  rcases h with ⟨l, rfl, hf⟩ | ⟨ds, rfl, hl, hd⟩ | h
  · refine isi (n := "str") rfl (b := false) (by kernel_rfl) ?_
    try simp only [dSeq, dChain, dOrT, dAndT, dNotT, dGetI_eq, Bool.not_true, Bool.not_false, dAsg, dOp, dVar, dC, gNm, gTp, gCn, gNl, dRet, dIf, dTest, dTru, dNot, dAnd, dOr, dNext, dDrop, dCons, dNil, dTup, dLst, dEmp, dEmpG, dPar, dPar3, dSetI, dCall, dCB, dBM, dBM0, dIfE, dNeg, dSl, dPart, dNoP, dAug, addI, dBreak, dCont, dAlt, dYes, dPairs, dDisp, gSubD, dBMd, addD_ii, addD_ss, addD_tt, subD_ii, mulD_ii, modD_ii, fdivD_ii, powD_ii, ltD_ii, leD_ii, gtD_ii, geD_ii, ltD_ss, leD_ss, eqR_ii, eqR_ss, eqR_tt, eqR_bb, abs_ii, max_ii, min_ii, truD_b, slD_t, slD_s, inR_t, List.map, List.length, List.replicate, List.cons_append, List.nil_append, List.append_nil, List.getElem?_cons_succ, List.getElem?_cons_zero, Option.some.injEq, exists_eq_left', exists_eq_left, ex2, ex3, exists_eq', List.set_cons_succ, List.set_cons_zero, Nat.reduceAdd, Nat.reduceSub, true_and, and_true, D.bl.injEq, D.int.injEq, D.str.injEq, D.ptr.injEq, D.tup.injEq, decide_eq_true_eq, beq_iff_eq, Bool.false_eq_true, if_true, if_false, reduceIte, wipeD, List.foldr_cons, List.foldr_nil, Nat.reduceLeDiff, List.cons.injEq, and_self, List.length_cons, List.length_nil]
    exact ⟨_, Sub.refl _, k C (Kp.refl C)⟩
  · refine isi (n := "tuple") rfl (b := true) (by kernel_rfl) ?_
    try simp only [dSeq, dChain, dOrT, dAndT, dNotT, dGetI_eq, Bool.not_true, Bool.not_false, dAsg, dOp, dVar, dC, gNm, gTp, gCn, gNl, dRet, dIf, dTest, dTru, dNot, dAnd, dOr, dNext, dDrop, dCons, dNil, dTup, dLst, dEmp, dEmpG, dPar, dPar3, dSetI, dCall, dCB, dBM, dBM0, dIfE, dNeg, dSl, dPart, dNoP, dAug, addI, dBreak, dCont, dAlt, dYes, dPairs, dDisp, gSubD, dBMd, addD_ii, addD_ss, addD_tt, subD_ii, mulD_ii, modD_ii, fdivD_ii, powD_ii, ltD_ii, leD_ii, gtD_ii, geD_ii, ltD_ss, leD_ss, eqR_ii, eqR_ss, eqR_tt, eqR_bb, abs_ii, max_ii, min_ii, truD_b, slD_t, slD_s, inR_t, List.map, List.length, List.replicate, List.cons_append, List.nil_append, List.append_nil, List.getElem?_cons_succ, List.getElem?_cons_zero, Option.some.injEq, exists_eq_left', exists_eq_left, ex2, ex3, exists_eq', List.set_cons_succ, List.set_cons_zero, Nat.reduceAdd, Nat.reduceSub, true_and, and_true, D.bl.injEq, D.int.injEq, D.str.injEq, D.ptr.injEq, D.tup.injEq, decide_eq_true_eq, beq_iff_eq, Bool.false_eq_true, if_true, if_false, reduceIte, wipeD, List.foldr_cons, List.foldr_nil, Nat.reduceLeDiff, List.cons.injEq, and_self, List.length_cons, List.length_nil]
    refine lc_tup (f := isWd) (by omega) (fun d hm C1 k1 Q' q => ?_) rfl fun p C1 k1 hp => ?_
    · try simp only [dSeq, dChain, dOrT, dAndT, dNotT, dGetI_eq, Bool.not_true, Bool.not_false, dAsg, dOp, dVar, dC, gNm, gTp, gCn, gNl, dRet, dIf, dTest, dTru, dNot, dAnd, dOr, dNext, dDrop, dCons, dNil, dTup, dLst, dEmp, dEmpG, dPar, dPar3, dSetI, dCall, dCB, dBM, dBM0, dIfE, dNeg, dSl, dPart, dNoP, dAug, addI, dBreak, dCont, dAlt, dYes, dPairs, dDisp, gSubD, dBMd, addD_ii, addD_ss, addD_tt, subD_ii, mulD_ii, modD_ii, fdivD_ii, powD_ii, ltD_ii, leD_ii, gtD_ii, geD_ii, ltD_ss, leD_ss, eqR_ii, eqR_ss, eqR_tt, eqR_bb, abs_ii, max_ii, min_ii, truD_b, slD_t, slD_s, inR_t, List.map, List.length, List.replicate, List.cons_append, List.nil_append, List.append_nil, List.getElem?_cons_succ, List.getElem?_cons_zero, Option.some.injEq, exists_eq_left', exists_eq_left, ex2, ex3, exists_eq', List.set_cons_succ, List.set_cons_zero, Nat.reduceAdd, Nat.reduceSub, true_and, and_true, D.bl.injEq, D.int.injEq, D.str.injEq, D.ptr.injEq, D.tup.injEq, decide_eq_true_eq, beq_iff_eq, Bool.false_eq_true, if_true, if_false, reduceIte, wipeD, List.foldr_cons, List.foldr_nil, Nat.reduceLeDiff, List.cons.injEq, and_self, List.length_cons, List.length_nil]
      exact is_word ((hd d hm).kp k1) fun C2 k2 => q C2 k2
    · refine all_l (.inl up_same) ⟨_, Sub.refl _, ?_⟩
      have e : isPd (.tup ds) = (ds.map isWd).all id := by
        rw [List.all_map]
        rfl
      rw [← e]
      exact k _ (k1.new hp)
  · obtain ⟨n, h1, _, h2⟩ := oth_is h
    refine isi h1 h2 ?_
    try simp only [dSeq, dChain, dOrT, dAndT, dNotT, dGetI_eq, Bool.not_true, Bool.not_false, dAsg, dOp, dVar, dC, gNm, gTp, gCn, gNl, dRet, dIf, dTest, dTru, dNot, dAnd, dOr, dNext, dDrop, dCons, dNil, dTup, dLst, dEmp, dEmpG, dPar, dPar3, dSetI, dCall, dCB, dBM, dBM0, dIfE, dNeg, dSl, dPart, dNoP, dAug, addI, dBreak, dCont, dAlt, dYes, dPairs, dDisp, gSubD, dBMd, addD_ii, addD_ss, addD_tt, subD_ii, mulD_ii, modD_ii, fdivD_ii, powD_ii, ltD_ii, leD_ii, gtD_ii, geD_ii, ltD_ss, leD_ss, eqR_ii, eqR_ss, eqR_tt, eqR_bb, abs_ii, max_ii, min_ii, truD_b, slD_t, slD_s, inR_t, List.map, List.length, List.replicate, List.cons_append, List.nil_append, List.append_nil, List.getElem?_cons_succ, List.getElem?_cons_zero, Option.some.injEq, exists_eq_left', exists_eq_left, ex2, ex3, exists_eq', List.set_cons_succ, List.set_cons_zero, Nat.reduceAdd, Nat.reduceSub, true_and, and_true, D.bl.injEq, D.int.injEq, D.str.injEq, D.ptr.injEq, D.tup.injEq, decide_eq_true_eq, beq_iff_eq, Bool.false_eq_true, if_true, if_false, reduceIte, wipeD, List.foldr_cons, List.foldr_nil, Nat.reduceLeDiff, List.cons.injEq, and_self, List.length_cons, List.length_nil]
    have e : isPd d = false := by
      rcases h with h | ⟨b, h⟩ | ⟨i, h⟩ | ⟨p, h, _⟩ <;> (subst h; rfl)
    refine ⟨_, Sub.refl _, ?_⟩
    rw [← e]
    exact k C (Kp.refl C)
theorem law_is_path {d : D} (h : Th C d) (k : ∀ C', Kp None C C' → Q (.bl (isPd d)) C') : D__law_is_path [d] C Q E := by
  unfold D__law_is_path runD r__law_is_path
  try simp only [dSeq, dChain, dOrT, dAndT, dNotT, dGetI_eq, Bool.not_true, Bool.not_false, dAsg, dOp, dVar, dC, gNm, gTp, gCn, gNl, dRet, dIf, dTest, dTru, dNot, dAnd, dOr, dNext, dDrop, dCons, dNil, dTup, dLst, dEmp, dEmpG, dPar, dPar3, dSetI, dCall, dCB, dBM, dBM0, dIfE, dNeg, dSl, dPart, dNoP, dAug, addI, dBreak, dCont, dAlt, dYes, dPairs, dDisp, gSubD, dBMd, addD_ii, addD_ss, addD_tt, subD_ii, mulD_ii, modD_ii, fdivD_ii, powD_ii, ltD_ii, leD_ii, gtD_ii, geD_ii, ltD_ss, leD_ss, eqR_ii, eqR_ss, eqR_tt, eqR_bb, abs_ii, max_ii, min_ii, truD_b, slD_t, slD_s, inR_t, List.map, List.length, List.replicate, List.cons_append, List.nil_append, List.append_nil, List.getElem?_cons_succ, List.getElem?_cons_zero, Option.some.injEq, exists_eq_left', exists_eq_left, ex2, ex3, exists_eq', List.set_cons_succ, List.set_cons_zero, Nat.reduceAdd, Nat.reduceSub, true_and, and_true, D.bl.injEq, D.int.injEq, D.str.injEq, D.ptr.injEq, D.tup.injEq, decide_eq_true_eq, beq_iff_eq, Bool.false_eq_true, if_true, if_false, reduceIte, wipeD, List.foldr_cons, List.foldr_nil, Nat.reduceLeDiff, List.cons.injEq, and_self, List.length_cons, List.length_nil]
  rcases h with ⟨l, rfl, hf⟩ | ⟨ds, rfl, hl, hd⟩ | h
  · refine isi (n := "str") rfl (b := false) (by kernel_rfl) ?_
    try simp only [dSeq, dChain, dOrT, dAndT, dNotT, dGetI_eq, Bool.not_true, Bool.not_false, dAsg, dOp, dVar, dC, gNm, gTp, gCn, gNl, dRet, dIf, dTest, dTru, dNot, dAnd, dOr, dNext, dDrop, dCons, dNil, dTup, dLst, dEmp, dEmpG, dPar, dPar3, dSetI, dCall, dCB, dBM, dBM0, dIfE, dNeg, dSl, dPart, dNoP, dAug, addI, dBreak, dCont, dAlt, dYes, dPairs, dDisp, gSubD, dBMd, addD_ii, addD_ss, addD_tt, subD_ii, mulD_ii, modD_ii, fdivD_ii, powD_ii, ltD_ii, leD_ii, gtD_ii, geD_ii, ltD_ss, leD_ss, eqR_ii, eqR_ss, eqR_tt, eqR_bb, abs_ii, max_ii, min_ii, truD_b, slD_t, slD_s, inR_t, List.map, List.length, List.replicate, List.cons_append, List.nil_append, List.append_nil, List.getElem?_cons_succ, List.getElem?_cons_zero, Option.some.injEq, exists_eq_left', exists_eq_left, ex2, ex3, exists_eq', List.set_cons_succ, List.set_cons_zero, Nat.reduceAdd, Nat.reduceSub, true_and, and_true, D.bl.injEq, D.int.injEq, D.str.injEq, D.ptr.injEq, D.tup.injEq, decide_eq_true_eq, beq_iff_eq, Bool.false_eq_true, if_true, if_false, reduceIte, wipeD, List.foldr_cons, List.foldr_nil, Nat.reduceLeDiff, List.cons.injEq, and_self, List.length_cons, List.length_nil]
    exact ⟨_, Sub.refl _, k C (Kp.refl C)⟩
  · refine isi (n := "tuple") rfl (b := true) (by kernel_rfl) ?_
    try simp only [dSeq, dChain, dOrT, dAndT, dNotT, dGetI_eq, Bool.not_true, Bool.not_false, dAsg, dOp, dVar, dC, gNm, gTp, gCn, gNl, dRet, dIf, dTest, dTru, dNot, dAnd, dOr, dNext, dDrop, dCons, dNil, dTup, dLst, dEmp, dEmpG, dPar, dPar3, dSetI, dCall, dCB, dBM, dBM0, dIfE, dNeg, dSl, dPart, dNoP, dAug, addI, dBreak, dCont, dAlt, dYes, dPairs, dDisp, gSubD, dBMd, addD_ii, addD_ss, addD_tt, subD_ii, mulD_ii, modD_ii, fdivD_ii, powD_ii, ltD_ii, leD_ii, gtD_ii, geD_ii, ltD_ss, leD_ss, eqR_ii, eqR_ss, eqR_tt, eqR_bb, abs_ii, max_ii, min_ii, truD_b, slD_t, slD_s, inR_t, List.map, List.length, List.replicate, List.cons_append, List.nil_append, List.append_nil, List.getElem?_cons_succ, List.getElem?_cons_zero, Option.some.injEq, exists_eq_left', exists_eq_left, ex2, ex3, exists_eq', List.set_cons_succ, List.set_cons_zero, Nat.reduceAdd, Nat.reduceSub, true_and, and_true, D.bl.injEq, D.int.injEq, D.str.injEq, D.ptr.injEq, D.tup.injEq, decide_eq_true_eq, beq_iff_eq, Bool.false_eq_true, if_true, if_false, reduceIte, wipeD, List.foldr_cons, List.foldr_nil, Nat.reduceLeDiff, List.cons.injEq, and_self, List.length_cons, List.length_nil]
    refine lc_tup (f := isWd) (by omega) (fun d hm C1 k1 Q' q => ?_) rfl fun p C1 k1 hp => ?_
    · try simp only [dSeq, dChain, dOrT, dAndT, dNotT, dGetI_eq, Bool.not_true, Bool.not_false, dAsg, dOp, dVar, dC, gNm, gTp, gCn, gNl, dRet, dIf, dTest, dTru, dNot, dAnd, dOr, dNext, dDrop, dCons, dNil, dTup, dLst, dEmp, dEmpG, dPar, dPar3, dSetI, dCall, dCB, dBM, dBM0, dIfE, dNeg, dSl, dPart, dNoP, dAug, addI, dBreak, dCont, dAlt, dYes, dPairs, dDisp, gSubD, dBMd, addD_ii, addD_ss, addD_tt, subD_ii, mulD_ii, modD_ii, fdivD_ii, powD_ii, ltD_ii, leD_ii, gtD_ii, geD_ii, ltD_ss, leD_ss, eqR_ii, eqR_ss, eqR_tt, eqR_bb, abs_ii, max_ii, min_ii, truD_b, slD_t, slD_s, inR_t, List.map, List.length, List.replicate, List.cons_append, List.nil_append, List.append_nil, List.getElem?_cons_succ, List.getElem?_cons_zero, Option.some.injEq, exists_eq_left', exists_eq_left, ex2, ex3, exists_eq', List.set_cons_succ, List.set_cons_zero, Nat.reduceAdd, Nat.reduceSub, true_and, and_true, D.bl.injEq, D.int.injEq, D.str.injEq, D.ptr.injEq, D.tup.injEq, decide_eq_true_eq, beq_iff_eq, Bool.false_eq_true, if_true, if_false, reduceIte, wipeD, List.foldr_cons, List.foldr_nil, Nat.reduceLeDiff, List.cons.injEq, and_self, List.length_cons, List.length_nil]
      exact law_is_word ((hd d hm).kp k1) fun C2 k2 => q C2 k2
    · refine all_l (.inl up_same) ⟨_, Sub.refl _, ?_⟩
      have e : isPd (.tup ds) = (ds.map isWd).all id := by
        rw [List.all_map]
        rfl
      rw [← e]
      exact k _ (k1.new hp)
  · obtain ⟨n, h1, _, h2⟩ := oth_is h
    refine isi h1 h2 ?_
    try simp only [dSeq, dChain, dOrT, dAndT, dNotT, dGetI_eq, Bool.not_true, Bool.not_false, dAsg, dOp, dVar, dC, gNm, gTp, gCn, gNl, dRet, dIf, dTest, dTru, dNot, dAnd, dOr, dNext, dDrop, dCons, dNil, dTup, dLst, dEmp, dEmpG, dPar, dPar3, dSetI, dCall, dCB, dBM, dBM0, dIfE, dNeg, dSl, dPart, dNoP, dAug, addI, dBreak, dCont, dAlt, dYes, dPairs, dDisp, gSubD, dBMd, addD_ii, addD_ss, addD_tt, subD_ii, mulD_ii, modD_ii, fdivD_ii, powD_ii, ltD_ii, leD_ii, gtD_ii, geD_ii, ltD_ss, leD_ss, eqR_ii, eqR_ss, eqR_tt, eqR_bb, abs_ii, max_ii, min_ii, truD_b, slD_t, slD_s, inR_t, List.map, List.length, List.replicate, List.cons_append, List.nil_append, List.append_nil, List.getElem?_cons_succ, List.getElem?_cons_zero, Option.some.injEq, exists_eq_left', exists_eq_left, ex2, ex3, exists_eq', List.set_cons_succ, List.set_cons_zero, Nat.reduceAdd, Nat.reduceSub, true_and, and_true, D.bl.injEq, D.int.injEq, D.str.injEq, D.ptr.injEq, D.tup.injEq, decide_eq_true_eq, beq_iff_eq, Bool.false_eq_true, if_true, if_false, reduceIte, wipeD, List.foldr_cons, List.foldr_nil, Nat.reduceLeDiff, List.cons.injEq, and_self, List.length_cons, List.length_nil]
    have e : isPd d = false := by
      rcases h with h | ⟨b, h⟩ | ⟨i, h⟩ | ⟨p, h, _⟩ <;> (subst h; rfl)
    refine ⟨_, Sub.refl _, ?_⟩
    rw [← e]
    exact k C (Kp.refl C)
end K01

namespace K01
open PySem PySem.Spec PyProof.Rows KB
open L2 hiding op_eqD op_neD call_listD
variable {C : Cp} {p q : Addr} {N : Nat} {Q : DQ} {E : Exn → Cp → Prop}
theorem is_title {d : D} (h : Th0 C d) (k : ∀ C', Kp None C C' → Q (.bl (isTd d)) C') : D_is_title [d] C Q E := by
  unfold D_is_title runD r_is_title
  try simp only [dSeq, dChain, dOrT, dAndT, dNotT, dGetI_eq, Bool.not_true, Bool.not_false, dAsg, dOp, dVar, dC, gNm, gTp, gCn, gNl, dRet, dIf, dTest, dTru, dNot, dAnd, dOr, dNext, dDrop, dCons, dNil, dTup, dLst, dEmp, dEmpG, dPar, dPar3, dSetI, dCall, dCB, dBM, dBM0, dIfE, dNeg, dSl, dPart, dNoP, dAug, addI, dBreak, dCont, dAlt, dYes, dPairs, dDisp, gSubD, dBMd, addD_ii, addD_ss, addD_tt, subD_ii, mulD_ii, modD_ii, fdivD_ii, powD_ii, ltD_ii, leD_ii, gtD_ii, geD_ii, ltD_ss, leD_ss, eqR_ii, eqR_ss, eqR_tt, eqR_bb, abs_ii, max_ii, min_ii, truD_b, slD_t, slD_s, inR_t, List.map, List.length, List.replicate, List.cons_append, List.nil_append, List.append_nil, List.getElem?_cons_succ, List.getElem?_cons_zero, Option.some.injEq, exists_eq_left', exists_eq_left, ex2, ex3, exists_eq', List.set_cons_succ, List.set_cons_zero, Nat.reduceAdd, Nat.reduceSub, true_and, and_true, D.bl.injEq, D.int.injEq, D.str.injEq, D.ptr.injEq, D.tup.injEq, decide_eq_true_eq, beq_iff_eq, Bool.false_eq_true, if_true, if_false, reduceIte, wipeD, List.foldr_cons, List.foldr_nil, Nat.reduceLeDiff, List.cons.injEq, and_self, List.length_cons, List.length_nil]
  rcases h with ⟨l, rfl, hf⟩ | ⟨ds, rfl⟩ | h
  · have hz : l.length ≤ sizeLine := by rw [sizeLine_eq]; have := hf.1; omega
    refine isi (n := "str") rfl (b := true) (by kernel_rfl) ?_
    try simp only [dSeq, dChain, dOrT, dAndT, dNotT, dGetI_eq, Bool.not_true, Bool.not_false, dAsg, dOp, dVar, dC, gNm, gTp, gCn, gNl, dRet, dIf, dTest, dTru, dNot, dAnd, dOr, dNext, dDrop, dCons, dNil, dTup, dLst, dEmp, dEmpG, dPar, dPar3, dSetI, dCall, dCB, dBM, dBM0, dIfE, dNeg, dSl, dPart, dNoP, dAug, addI, dBreak, dCont, dAlt, dYes, dPairs, dDisp, gSubD, dBMd, addD_ii, addD_ss, addD_tt, subD_ii, mulD_ii, modD_ii, fdivD_ii, powD_ii, ltD_ii, leD_ii, gtD_ii, geD_ii, ltD_ss, leD_ss, eqR_ii, eqR_ss, eqR_tt, eqR_bb, abs_ii, max_ii, min_ii, truD_b, slD_t, slD_s, inR_t, List.map, List.length, List.replicate, List.cons_append, List.nil_append, List.append_nil, List.getElem?_cons_succ, List.getElem?_cons_zero, Option.some.injEq, exists_eq_left', exists_eq_left, ex2, ex3, exists_eq', List.set_cons_succ, List.set_cons_zero, Nat.reduceAdd, Nat.reduceSub, true_and, and_true, D.bl.injEq, D.int.injEq, D.str.injEq, D.ptr.injEq, D.tup.injEq, decide_eq_true_eq, beq_iff_eq, Bool.false_eq_true, if_true, if_false, reduceIte, wipeD, List.foldr_cons, List.foldr_nil, Nat.reduceLeDiff, List.cons.injEq, and_self, List.length_cons, List.length_nil]
    refine len_s hz ?_
    try simp only [dSeq, dChain, dOrT, dAndT, dNotT, dGetI_eq, Bool.not_true, Bool.not_false, dAsg, dOp, dVar, dC, gNm, gTp, gCn, gNl, dRet, dIf, dTest, dTru, dNot, dAnd, dOr, dNext, dDrop, dCons, dNil, dTup, dLst, dEmp, dEmpG, dPar, dPar3, dSetI, dCall, dCB, dBM, dBM0, dIfE, dNeg, dSl, dPart, dNoP, dAug, addI, dBreak, dCont, dAlt, dYes, dPairs, dDisp, gSubD, dBMd, addD_ii, addD_ss, addD_tt, subD_ii, mulD_ii, modD_ii, fdivD_ii, powD_ii, ltD_ii, leD_ii, gtD_ii, geD_ii, ltD_ss, leD_ss, eqR_ii, eqR_ss, eqR_tt, eqR_bb, abs_ii, max_ii, min_ii, truD_b, slD_t, slD_s, inR_t, List.map, List.length, List.replicate, List.cons_append, List.nil_append, List.append_nil, List.getElem?_cons_succ, List.getElem?_cons_zero, Option.some.injEq, exists_eq_left', exists_eq_left, ex2, ex3, exists_eq', List.set_cons_succ, List.set_cons_zero, Nat.reduceAdd, Nat.reduceSub, true_and, and_true, D.bl.injEq, D.int.injEq, D.str.injEq, D.ptr.injEq, D.tup.injEq, decide_eq_true_eq, beq_iff_eq, Bool.false_eq_true, if_true, if_false, reduceIte, wipeD, List.foldr_cons, List.foldr_nil, Nat.reduceLeDiff, List.cons.injEq, and_self, List.length_cons, List.length_nil]
    have no : (1 ≤ l.length ∧ l.length ≤ 60 → l.head? = some 32 ∨ l.getLast? = some 32) → Q (.bl false) C := fun hh => by
      have e : isTd (.str l) = false := by
        show isT l = _
        unfold isT
        by_cases h1 : 1 ≤ l.length ∧ l.length ≤ 60
        · rcases hh h1 with h2 | h2
          · rw [h2]; simp
          · rw [h2]; simp
        · rw [decide_eq_false h1]; rfl
      rw [← e]
      exact k C (Kp.refl C)
    by_cases h1 : 1 ≤ l.length
    · rw [if_pos (by omega)]
      by_cases h2 : l.length ≤ 60
      · rw [if_neg (by simp; omega)]
        unfold r_is_title_2
        try simp only [dSeq, dChain, dOrT, dAndT, dNotT, dGetI_eq, Bool.not_true, Bool.not_false, dAsg, dOp, dVar, dC, gNm, gTp, gCn, gNl, dRet, dIf, dTest, dTru, dNot, dAnd, dOr, dNext, dDrop, dCons, dNil, dTup, dLst, dEmp, dEmpG, dPar, dPar3, dSetI, dCall, dCB, dBM, dBM0, dIfE, dNeg, dSl, dPart, dNoP, dAug, addI, dBreak, dCont, dAlt, dYes, dPairs, dDisp, gSubD, dBMd, addD_ii, addD_ss, addD_tt, subD_ii, mulD_ii, modD_ii, fdivD_ii, powD_ii, ltD_ii, leD_ii, gtD_ii, geD_ii, ltD_ss, leD_ss, eqR_ii, eqR_ss, eqR_tt, eqR_bb, abs_ii, max_ii, min_ii, truD_b, slD_t, slD_s, inR_t, List.map, List.length, List.replicate, List.cons_append, List.nil_append, List.append_nil, List.getElem?_cons_succ, List.getElem?_cons_zero, Option.some.injEq, exists_eq_left', exists_eq_left, ex2, ex3, exists_eq', List.set_cons_succ, List.set_cons_zero, Nat.reduceAdd, Nat.reduceSub, true_and, and_true, D.bl.injEq, D.int.injEq, D.str.injEq, D.ptr.injEq, D.tup.injEq, decide_eq_true_eq, beq_iff_eq, Bool.false_eq_true, if_true, if_false, reduceIte, wipeD, List.foldr_cons, List.foldr_nil, Nat.reduceLeDiff, List.cons.injEq, and_self, List.length_cons, List.length_nil]
        obtain ⟨a, ha⟩ : ∃ a, l[0]? = some a := ⟨l[0], List.getElem?_eq_getElem (by omega)⟩
        obtain ⟨z, hz'⟩ : ∃ z, l[l.length - 1]? = some z := ⟨l[l.length - 1], List.getElem?_eq_getElem (by omega)⟩
        have hh : l.head? = some a := by rw [List.head?_eq_getElem?]; exact ha
        have hL : l.getLast? = some z := by rw [List.getLast?_eq_getElem?]; exact hz'
        refine ix_sn (j := 0) hz ha ?_
        try simp only [dSeq, dChain, dOrT, dAndT, dNotT, dGetI_eq, Bool.not_true, Bool.not_false, dAsg, dOp, dVar, dC, gNm, gTp, gCn, gNl, dRet, dIf, dTest, dTru, dNot, dAnd, dOr, dNext, dDrop, dCons, dNil, dTup, dLst, dEmp, dEmpG, dPar, dPar3, dSetI, dCall, dCB, dBM, dBM0, dIfE, dNeg, dSl, dPart, dNoP, dAug, addI, dBreak, dCont, dAlt, dYes, dPairs, dDisp, gSubD, dBMd, addD_ii, addD_ss, addD_tt, subD_ii, mulD_ii, modD_ii, fdivD_ii, powD_ii, ltD_ii, leD_ii, gtD_ii, geD_ii, ltD_ss, leD_ss, eqR_ii, eqR_ss, eqR_tt, eqR_bb, abs_ii, max_ii, min_ii, truD_b, slD_t, slD_s, inR_t, List.map, List.length, List.replicate, List.cons_append, List.nil_append, List.append_nil, List.getElem?_cons_succ, List.getElem?_cons_zero, Option.some.injEq, exists_eq_left', exists_eq_left, ex2, ex3, exists_eq', List.set_cons_succ, List.set_cons_zero, Nat.reduceAdd, Nat.reduceSub, true_and, and_true, D.bl.injEq, D.int.injEq, D.str.injEq, D.ptr.injEq, D.tup.injEq, decide_eq_true_eq, beq_iff_eq, Bool.false_eq_true, if_true, if_false, reduceIte, wipeD, List.foldr_cons, List.foldr_nil, Nat.reduceLeDiff, List.cons.injEq, and_self, List.length_cons, List.length_nil]
        by_cases a1 : a = 32
        · subst a1
          try simp only [dSeq, dChain, dOrT, dAndT, dNotT, dGetI_eq, Bool.not_true, Bool.not_false, dAsg, dOp, dVar, dC, gNm, gTp, gCn, gNl, dRet, dIf, dTest, dTru, dNot, dAnd, dOr, dNext, dDrop, dCons, dNil, dTup, dLst, dEmp, dEmpG, dPar, dPar3, dSetI, dCall, dCB, dBM, dBM0, dIfE, dNeg, dSl, dPart, dNoP, dAug, addI, dBreak, dCont, dAlt, dYes, dPairs, dDisp, gSubD, dBMd, addD_ii, addD_ss, addD_tt, subD_ii, mulD_ii, modD_ii, fdivD_ii, powD_ii, ltD_ii, leD_ii, gtD_ii, geD_ii, ltD_ss, leD_ss, eqR_ii, eqR_ss, eqR_tt, eqR_bb, abs_ii, max_ii, min_ii, truD_b, slD_t, slD_s, inR_t, List.map, List.length, List.replicate, List.cons_append, List.nil_append, List.append_nil, List.getElem?_cons_succ, List.getElem?_cons_zero, Option.some.injEq, exists_eq_left', exists_eq_left, ex2, ex3, exists_eq', List.set_cons_succ, List.set_cons_zero, Nat.reduceAdd, Nat.reduceSub, true_and, and_true, D.bl.injEq, D.int.injEq, D.str.injEq, D.ptr.injEq, D.tup.injEq, decide_eq_true_eq, beq_iff_eq, Bool.false_eq_true, if_true, if_false, reduceIte, wipeD, List.foldr_cons, List.foldr_nil, Nat.reduceLeDiff, List.cons.injEq, and_self, List.length_cons, List.length_nil]
          exact ⟨C, Sub.refl _, no fun _ => .inl hh⟩
        · rw [if_neg (by simpa using a1)]
          have eat : atI l (-1) = some z := by
            unfold atI ixN
            rw [if_neg (by decide), if_pos (by omega)]
            show l[(-1 + (l.length : Int)).toNat]? = _
            rw [show (-1 + (l.length : Int)).toNat = l.length - 1 by omega]
            exact hz'
          refine ⟨hz, z, eat, ?_⟩
          try simp only [dSeq, dChain, dOrT, dAndT, dNotT, dGetI_eq, Bool.not_true, Bool.not_false, dAsg, dOp, dVar, dC, gNm, gTp, gCn, gNl, dRet, dIf, dTest, dTru, dNot, dAnd, dOr, dNext, dDrop, dCons, dNil, dTup, dLst, dEmp, dEmpG, dPar, dPar3, dSetI, dCall, dCB, dBM, dBM0, dIfE, dNeg, dSl, dPart, dNoP, dAug, addI, dBreak, dCont, dAlt, dYes, dPairs, dDisp, gSubD, dBMd, addD_ii, addD_ss, addD_tt, subD_ii, mulD_ii, modD_ii, fdivD_ii, powD_ii, ltD_ii, leD_ii, gtD_ii, geD_ii, ltD_ss, leD_ss, eqR_ii, eqR_ss, eqR_tt, eqR_bb, abs_ii, max_ii, min_ii, truD_b, slD_t, slD_s, inR_t, List.map, List.length, List.replicate, List.cons_append, List.nil_append, List.append_nil, List.getElem?_cons_succ, List.getElem?_cons_zero, Option.some.injEq, exists_eq_left', exists_eq_left, ex2, ex3, exists_eq', List.set_cons_succ, List.set_cons_zero, Nat.reduceAdd, Nat.reduceSub, true_and, and_true, D.bl.injEq, D.int.injEq, D.str.injEq, D.ptr.injEq, D.tup.injEq, decide_eq_true_eq, beq_iff_eq, Bool.false_eq_true, if_true, if_false, reduceIte, wipeD, List.foldr_cons, List.foldr_nil, Nat.reduceLeDiff, List.cons.injEq, and_self, List.length_cons, List.length_nil]
          by_cases z1 : z = 32
          · subst z1
            try simp only [dSeq, dChain, dOrT, dAndT, dNotT, dGetI_eq, Bool.not_true, Bool.not_false, dAsg, dOp, dVar, dC, gNm, gTp, gCn, gNl, dRet, dIf, dTest, dTru, dNot, dAnd, dOr, dNext, dDrop, dCons, dNil, dTup, dLst, dEmp, dEmpG, dPar, dPar3, dSetI, dCall, dCB, dBM, dBM0, dIfE, dNeg, dSl, dPart, dNoP, dAug, addI, dBreak, dCont, dAlt, dYes, dPairs, dDisp, gSubD, dBMd, addD_ii, addD_ss, addD_tt, subD_ii, mulD_ii, modD_ii, fdivD_ii, powD_ii, ltD_ii, leD_ii, gtD_ii, geD_ii, ltD_ss, leD_ss, eqR_ii, eqR_ss, eqR_tt, eqR_bb, abs_ii, max_ii, min_ii, truD_b, slD_t, slD_s, inR_t, List.map, List.length, List.replicate, List.cons_append, List.nil_append, List.append_nil, List.getElem?_cons_succ, List.getElem?_cons_zero, Option.some.injEq, exists_eq_left', exists_eq_left, ex2, ex3, exists_eq', List.set_cons_succ, List.set_cons_zero, Nat.reduceAdd, Nat.reduceSub, true_and, and_true, D.bl.injEq, D.int.injEq, D.str.injEq, D.ptr.injEq, D.tup.injEq, decide_eq_true_eq, beq_iff_eq, Bool.false_eq_true, if_true, if_false, reduceIte, wipeD, List.foldr_cons, List.foldr_nil, Nat.reduceLeDiff, List.cons.injEq, and_self, List.length_cons, List.length_nil]
            exact ⟨C, Sub.refl _, no fun _ => .inr hL⟩
          · rw [if_neg (by simpa using z1)]
            unfold r_is_title_1
            try simp only [dSeq, dChain, dOrT, dAndT, dNotT, dGetI_eq, Bool.not_true, Bool.not_false, dAsg, dOp, dVar, dC, gNm, gTp, gCn, gNl, dRet, dIf, dTest, dTru, dNot, dAnd, dOr, dNext, dDrop, dCons, dNil, dTup, dLst, dEmp, dEmpG, dPar, dPar3, dSetI, dCall, dCB, dBM, dBM0, dIfE, dNeg, dSl, dPart, dNoP, dAug, addI, dBreak, dCont, dAlt, dYes, dPairs, dDisp, gSubD, dBMd, addD_ii, addD_ss, addD_tt, subD_ii, mulD_ii, modD_ii, fdivD_ii, powD_ii, ltD_ii, leD_ii, gtD_ii, geD_ii, ltD_ss, leD_ss, eqR_ii, eqR_ss, eqR_tt, eqR_bb, abs_ii, max_ii, min_ii, truD_b, slD_t, slD_s, inR_t, List.map, List.length, List.replicate, List.cons_append, List.nil_append, List.append_nil, List.getElem?_cons_succ, List.getElem?_cons_zero, Option.some.injEq, exists_eq_left', exists_eq_left, ex2, ex3, exists_eq', List.set_cons_succ, List.set_cons_zero, Nat.reduceAdd, Nat.reduceSub, true_and, and_true, D.bl.injEq, D.int.injEq, D.str.injEq, D.ptr.injEq, D.tup.injEq, decide_eq_true_eq, beq_iff_eq, Bool.false_eq_true, if_true, if_false, reduceIte, wipeD, List.foldr_cons, List.foldr_nil, Nat.reduceLeDiff, List.cons.injEq, and_self, List.length_cons, List.length_nil]
            refine lc_str (f := fun c => decide (c ≠ 10)) (by omega) (fun c hc Q' q => ?_) rfl fun r hr => ?_
            · try simp only [dSeq, dChain, dOrT, dAndT, dNotT, dGetI_eq, Bool.not_true, Bool.not_false, dAsg, dOp, dVar, dC, gNm, gTp, gCn, gNl, dRet, dIf, dTest, dTru, dNot, dAnd, dOr, dNext, dDrop, dCons, dNil, dTup, dLst, dEmp, dEmpG, dPar, dPar3, dSetI, dCall, dCB, dBM, dBM0, dIfE, dNeg, dSl, dPart, dNoP, dAug, addI, dBreak, dCont, dAlt, dYes, dPairs, dDisp, gSubD, dBMd, addD_ii, addD_ss, addD_tt, subD_ii, mulD_ii, modD_ii, fdivD_ii, powD_ii, ltD_ii, leD_ii, gtD_ii, geD_ii, ltD_ss, leD_ss, eqR_ii, eqR_ss, eqR_tt, eqR_bb, abs_ii, max_ii, min_ii, truD_b, slD_t, slD_s, inR_t, List.map, List.length, List.replicate, List.cons_append, List.nil_append, List.append_nil, List.getElem?_cons_succ, List.getElem?_cons_zero, Option.some.injEq, exists_eq_left', exists_eq_left, ex2, ex3, exists_eq', List.set_cons_succ, List.set_cons_zero, Nat.reduceAdd, Nat.reduceSub, true_and, and_true, D.bl.injEq, D.int.injEq, D.str.injEq, D.ptr.injEq, D.tup.injEq, decide_eq_true_eq, beq_iff_eq, Bool.false_eq_true, if_true, if_false, reduceIte, wipeD, List.foldr_cons, List.foldr_nil, Nat.reduceLeDiff, List.cons.injEq, and_self, List.length_cons, List.length_nil]
              simp only [lt_one] at *
              rcases hf.2 c hc with h | h
              · subst h
                simp at q ⊢
                exact q
              · have c1 : ¬ c = 10 := by omega
                simp [c1, Nat.not_lt.mpr h.1, Nat.not_lt.mpr h.2] at q ⊢
                exact q
            · refine all_l (.inl up_same) ⟨_, Sub.refl _, ?_⟩
              have e : isTd (.str l) = (l.map fun c => decide (c ≠ 10)).all id := by
                rw [all_take]
                show isT l = _
                unfold isT
                rw [decide_eq_true ⟨h1, h2⟩, Bool.true_and, hh, hL]
                have b1 : (some a == some 32) = false := by simpa using a1
                have b2 : (some z == some 32) = false := by simpa using z1
                rw [b1, b2]
                rfl
              rw [← e]
              exact k _ ((Kp.refl C).new hr)
      · rw [if_pos (by simp; omega)]
        exact ⟨C, Sub.refl _, no fun h => absurd h.2 h2⟩
    · rw [if_neg (by omega)]
      try simp only [dSeq, dChain, dOrT, dAndT, dNotT, dGetI_eq, Bool.not_true, Bool.not_false, dAsg, dOp, dVar, dC, gNm, gTp, gCn, gNl, dRet, dIf, dTest, dTru, dNot, dAnd, dOr, dNext, dDrop, dCons, dNil, dTup, dLst, dEmp, dEmpG, dPar, dPar3, dSetI, dCall, dCB, dBM, dBM0, dIfE, dNeg, dSl, dPart, dNoP, dAug, addI, dBreak, dCont, dAlt, dYes, dPairs, dDisp, gSubD, dBMd, addD_ii, addD_ss, addD_tt, subD_ii, mulD_ii, modD_ii, fdivD_ii, powD_ii, ltD_ii, leD_ii, gtD_ii, geD_ii, ltD_ss, leD_ss, eqR_ii, eqR_ss, eqR_tt, eqR_bb, abs_ii, max_ii, min_ii, truD_b, slD_t, slD_s, inR_t, List.map, List.length, List.replicate, List.cons_append, List.nil_append, List.append_nil, List.getElem?_cons_succ, List.getElem?_cons_zero, Option.some.injEq, exists_eq_left', exists_eq_left, ex2, ex3, exists_eq', List.set_cons_succ, List.set_cons_zero, Nat.reduceAdd, Nat.reduceSub, true_and, and_true, D.bl.injEq, D.int.injEq, D.str.injEq, D.ptr.injEq, D.tup.injEq, decide_eq_true_eq, beq_iff_eq, Bool.false_eq_true, if_true, if_false, reduceIte, wipeD, List.foldr_cons, List.foldr_nil, Nat.reduceLeDiff, List.cons.injEq, and_self, List.length_cons, List.length_nil]
      exact ⟨C, Sub.refl _, no fun h => absurd h.1 h1⟩
  · refine isi (n := "tuple") rfl (b := false) (by kernel_rfl) ?_
    try simp only [dSeq, dChain, dOrT, dAndT, dNotT, dGetI_eq, Bool.not_true, Bool.not_false, dAsg, dOp, dVar, dC, gNm, gTp, gCn, gNl, dRet, dIf, dTest, dTru, dNot, dAnd, dOr, dNext, dDrop, dCons, dNil, dTup, dLst, dEmp, dEmpG, dPar, dPar3, dSetI, dCall, dCB, dBM, dBM0, dIfE, dNeg, dSl, dPart, dNoP, dAug, addI, dBreak, dCont, dAlt, dYes, dPairs, dDisp, gSubD, dBMd, addD_ii, addD_ss, addD_tt, subD_ii, mulD_ii, modD_ii, fdivD_ii, powD_ii, ltD_ii, leD_ii, gtD_ii, geD_ii, ltD_ss, leD_ss, eqR_ii, eqR_ss, eqR_tt, eqR_bb, abs_ii, max_ii, min_ii, truD_b, slD_t, slD_s, inR_t, List.map, List.length, List.replicate, List.cons_append, List.nil_append, List.append_nil, List.getElem?_cons_succ, List.getElem?_cons_zero, Option.some.injEq, exists_eq_left', exists_eq_left, ex2, ex3, exists_eq', List.set_cons_succ, List.set_cons_zero, Nat.reduceAdd, Nat.reduceSub, true_and, and_true, D.bl.injEq, D.int.injEq, D.str.injEq, D.ptr.injEq, D.tup.injEq, decide_eq_true_eq, beq_iff_eq, Bool.false_eq_true, if_true, if_false, reduceIte, wipeD, List.foldr_cons, List.foldr_nil, Nat.reduceLeDiff, List.cons.injEq, and_self, List.length_cons, List.length_nil]
    exact ⟨_, Sub.refl _, k C (Kp.refl C)⟩
  · obtain ⟨n, h1, h2, _⟩ := oth_is h
    refine isi h1 h2 ?_
    try simp only [dSeq, dChain, dOrT, dAndT, dNotT, dGetI_eq, Bool.not_true, Bool.not_false, dAsg, dOp, dVar, dC, gNm, gTp, gCn, gNl, dRet, dIf, dTest, dTru, dNot, dAnd, dOr, dNext, dDrop, dCons, dNil, dTup, dLst, dEmp, dEmpG, dPar, dPar3, dSetI, dCall, dCB, dBM, dBM0, dIfE, dNeg, dSl, dPart, dNoP, dAug, addI, dBreak, dCont, dAlt, dYes, dPairs, dDisp, gSubD, dBMd, addD_ii, addD_ss, addD_tt, subD_ii, mulD_ii, modD_ii, fdivD_ii, powD_ii, ltD_ii, leD_ii, gtD_ii, geD_ii, ltD_ss, leD_ss, eqR_ii, eqR_ss, eqR_tt, eqR_bb, abs_ii, max_ii, min_ii, truD_b, slD_t, slD_s, inR_t, List.map, List.length, List.replicate, List.cons_append, List.nil_append, List.append_nil, List.getElem?_cons_succ, List.getElem?_cons_zero, Option.some.injEq, exists_eq_left', exists_eq_left, ex2, ex3, exists_eq', List.set_cons_succ, List.set_cons_zero, Nat.reduceAdd, Nat.reduceSub, true_and, and_true, D.bl.injEq, D.int.injEq, D.str.injEq, D.ptr.injEq, D.tup.injEq, decide_eq_true_eq, beq_iff_eq, Bool.false_eq_true, if_true, if_false, reduceIte, wipeD, List.foldr_cons, List.foldr_nil, Nat.reduceLeDiff, List.cons.injEq, and_self, List.length_cons, List.length_nil]
    have e : isTd d = false := by
      rcases h with h | ⟨b, h⟩ | ⟨i, h⟩ | ⟨p, h, _⟩ <;> (subst h; rfl)
    refine ⟨_, Sub.refl _, ?_⟩
    rw [← e]
    exact k C (Kp.refl C)
theorem tw_head (g : Nat → Bool) (l : List Nat) : (l.takeWhile g).length = 0 ↔ ∀ a, l.head? = some a → g a = false := by
  cases l with
  | nil => simp
  | cons a t =>
    rw [List.takeWhile_cons]
    cases h : g a <;> simp [h]
theorem stripL_same {l : List Nat} (h0 : l ≠ []) : stripL l [32] = l ↔ ¬ (l.head? = some 32 ∨ l.getLast? = some 32) := by
  have hg : ∀ c, (⟨[32].toArray⟩ : Str).cps.contains c = (c == 32) := fun c => by
    rw [Bool.eq_iff_iff]
    simp
  have hlen : 1 ≤ l.length := List.length_pos_iff.mpr h0
  have e1 : stripLo (⟨[32].toArray⟩ : Str).cps.contains true ⟨l.toArray⟩ = (l.takeWhile (⟨[32].toArray⟩ : Str).cps.contains).length := rfl
  have e2 : ∀ lo, stripHi (⟨[32].toArray⟩ : Str).cps.contains true ⟨l.toArray⟩ lo = l.length - ((l.drop lo).reverse.takeWhile (⟨[32].toArray⟩ : Str).cps.contains).length := fun lo => by
    show (⟨l.toArray⟩ : Str).length - _ = _
    rw [show (⟨l.toArray⟩ : Str).length = l.length by simp [Str.length]]
  have t1 := tw_head (⟨[32].toArray⟩ : Str).cps.contains l
  have t2 := tw_head (⟨[32].toArray⟩ : Str).cps.contains l.reverse
  have hr : l.reverse.head? = l.getLast? := List.head?_reverse
  rw [hr] at t2
  have sameiff : stripSame (⟨[32].toArray⟩ : Str).cps.contains true true ⟨l.toArray⟩ = true ↔ ¬ (l.head? = some 32 ∨ l.getLast? = some 32) := by
    unfold stripSame
    rw [e2, e1, Bool.and_eq_true, beq_iff_eq, beq_iff_eq]
    have hll : (⟨l.toArray⟩ : Str).length = l.length := by simp [Str.length]
    rw [hll]
    constructor
    · rintro ⟨a, b⟩
      rw [a, List.drop_zero] at b
      have lt : (l.reverse.takeWhile (⟨[32].toArray⟩ : Str).cps.contains).length ≤ l.reverse.length := (List.takeWhile_sublist _).length_le
      rintro (h | h)
      · have := t1.mp a 32 h
        rw [hg] at this
        exact absurd this (by decide)
      · have := t2.mp (by rw [List.length_reverse] at lt; omega) 32 h
        rw [hg] at this
        exact absurd this (by decide)
    · intro h
      have a : (l.takeWhile (⟨[32].toArray⟩ : Str).cps.contains).length = 0 := t1.mpr fun c hc => by
        rw [hg]
        cases hq : (c == 32) with
        | false => rfl
        | true =>
          have : c = 32 := by simpa using hq
          subst this
          exact absurd (.inl hc) h
      have b : (l.reverse.takeWhile (⟨[32].toArray⟩ : Str).cps.contains).length = 0 := t2.mpr fun c hc => by
        rw [hg]
        cases hq : (c == 32) with
        | false => rfl
        | true =>
          have : c = 32 := by simpa using hq
          subst this
          exact absurd (.inr hc) h
      refine ⟨a, ?_⟩
      rw [a, List.drop_zero, b]
      omega
  rw [← sameiff]
  unfold stripL Txt.stripChars Txt.stripBy
  by_cases hs : stripSame (⟨[32].toArray⟩ : Str).cps.contains true true ⟨l.toArray⟩ = true
  · rw [if_pos hs]
    exact ⟨fun _ => hs, fun _ => rfl⟩
  · rw [if_neg hs]
    refine ⟨fun h => ?_, fun h => absurd h hs⟩
    exfalso
    have hL := congrArg List.length h
    unfold stripSame at hs
    unfold stripped at hL
    rw [Bool.and_eq_true, beq_iff_eq, beq_iff_eq] at hs
    have hll : (⟨l.toArray⟩ : Str).length = l.length := by simp [Str.length]
    rw [hll] at hs
    have hle : stripHi (⟨[32].toArray⟩ : Str).cps.contains true ⟨l.toArray⟩ (stripLo (⟨[32].toArray⟩ : Str).cps.contains true ⟨l.toArray⟩) ≤ l.length := by rw [e2]; omega
    generalize stripHi (⟨[32].toArray⟩ : Str).cps.contains true ⟨l.toArray⟩ (stripLo (⟨[32].toArray⟩ : Str).cps.contains true ⟨l.toArray⟩) = hi at hL hs hle
    generalize stripLo (⟨[32].toArray⟩ : Str).cps.contains true ⟨l.toArray⟩ = lo at hL hs
    have e3 : (TL.tl (Builtin.Str.strSub ⟨l.toArray⟩ lo hi)).length = min hi l.length - lo := by
      simp [TL.tl, Builtin.Str.strSub]
      omega
    rw [e3] at hL
    omega
theorem law_is_title {d : D} (h : Th0 C d) (k : ∀ C', Kp None C C' → Q (.bl (isTd d)) C') : D__law_is_title [d] C Q E := by
  unfold D__law_is_title runD r__law_is_title
  try simp only [dSeq, dChain, dOrT, dAndT, dNotT, dGetI_eq, Bool.not_true, Bool.not_false, dAsg, dOp, dVar, dC, gNm, gTp, gCn, gNl, dRet, dIf, dTest, dTru, dNot, dAnd, dOr, dNext, dDrop, dCons, dNil, dTup, dLst, dEmp, dEmpG, dPar, dPar3, dSetI, dCall, dCB, dBM, dBM0, dIfE, dNeg, dSl, dPart, dNoP, dAug, addI, dBreak, dCont, dAlt, dYes, dPairs, dDisp, gSubD, dBMd, addD_ii, addD_ss, addD_tt, subD_ii, mulD_ii, modD_ii, fdivD_ii, powD_ii, ltD_ii, leD_ii, gtD_ii, geD_ii, ltD_ss, leD_ss, eqR_ii, eqR_ss, eqR_tt, eqR_bb, abs_ii, max_ii, min_ii, truD_b, slD_t, slD_s, inR_t, List.map, List.length, List.replicate, List.cons_append, List.nil_append, List.append_nil, List.getElem?_cons_succ, List.getElem?_cons_zero, Option.some.injEq, exists_eq_left', exists_eq_left, ex2, ex3, exists_eq', List.set_cons_succ, List.set_cons_zero, Nat.reduceAdd, Nat.reduceSub, true_and, and_true, D.bl.injEq, D.int.injEq, D.str.injEq, D.ptr.injEq, D.tup.injEq, decide_eq_true_eq, beq_iff_eq, Bool.false_eq_true, if_true, if_false, reduceIte, wipeD, List.foldr_cons, List.foldr_nil, Nat.reduceLeDiff, List.cons.injEq, and_self, List.length_cons, List.length_nil]
  rcases h with ⟨l, rfl, hf⟩ | ⟨ds, rfl⟩ | h
  · have hz : l.length ≤ sizeLine := by rw [sizeLine_eq]; have := hf.1; omega
    refine isi (n := "str") rfl (b := true) (by kernel_rfl) ?_
    try simp only [dSeq, dChain, dOrT, dAndT, dNotT, dGetI_eq, Bool.not_true, Bool.not_false, dAsg, dOp, dVar, dC, gNm, gTp, gCn, gNl, dRet, dIf, dTest, dTru, dNot, dAnd, dOr, dNext, dDrop, dCons, dNil, dTup, dLst, dEmp, dEmpG, dPar, dPar3, dSetI, dCall, dCB, dBM, dBM0, dIfE, dNeg, dSl, dPart, dNoP, dAug, addI, dBreak, dCont, dAlt, dYes, dPairs, dDisp, gSubD, dBMd, addD_ii, addD_ss, addD_tt, subD_ii, mulD_ii, modD_ii, fdivD_ii, powD_ii, ltD_ii, leD_ii, gtD_ii, geD_ii, ltD_ss, leD_ss, eqR_ii, eqR_ss, eqR_tt, eqR_bb, abs_ii, max_ii, min_ii, truD_b, slD_t, slD_s, inR_t, List.map, List.length, List.replicate, List.cons_append, List.nil_append, List.append_nil, List.getElem?_cons_succ, List.getElem?_cons_zero, Option.some.injEq, exists_eq_left', exists_eq_left, ex2, ex3, exists_eq', List.set_cons_succ, List.set_cons_zero, Nat.reduceAdd, Nat.reduceSub, true_and, and_true, D.bl.injEq, D.int.injEq, D.str.injEq, D.ptr.injEq, D.tup.injEq, decide_eq_true_eq, beq_iff_eq, Bool.false_eq_true, if_true, if_false, reduceIte, wipeD, List.foldr_cons, List.foldr_nil, Nat.reduceLeDiff, List.cons.injEq, and_self, List.length_cons, List.length_nil]
    have no : ¬ (1 ≤ l.length ∧ l.length ≤ 60 ∧ l.head? ≠ some 32 ∧ l.getLast? ≠ some 32) → Q (.bl false) C := fun hh => by
      have e : isTd (.str l) = false := by
        show isT l = _
        unfold isT
        by_cases h1 : 1 ≤ l.length ∧ l.length ≤ 60
        · by_cases h2 : l.head? = some 32
          · rw [h2]; simp
          · by_cases h3 : l.getLast? = some 32
            · rw [h3]; simp
            · exact absurd ⟨h1.1, h1.2, h2, h3⟩ hh
        · rw [decide_eq_false h1]; rfl
      rw [← e]
      exact k C (Kp.refl C)
    by_cases h1 : l = []
    · subst h1
      try simp only [dSeq, dChain, dOrT, dAndT, dNotT, dGetI_eq, Bool.not_true, Bool.not_false, dAsg, dOp, dVar, dC, gNm, gTp, gCn, gNl, dRet, dIf, dTest, dTru, dNot, dAnd, dOr, dNext, dDrop, dCons, dNil, dTup, dLst, dEmp, dEmpG, dPar, dPar3, dSetI, dCall, dCB, dBM, dBM0, dIfE, dNeg, dSl, dPart, dNoP, dAug, addI, dBreak, dCont, dAlt, dYes, dPairs, dDisp, gSubD, dBMd, addD_ii, addD_ss, addD_tt, subD_ii, mulD_ii, modD_ii, fdivD_ii, powD_ii, ltD_ii, leD_ii, gtD_ii, geD_ii, ltD_ss, leD_ss, eqR_ii, eqR_ss, eqR_tt, eqR_bb, abs_ii, max_ii, min_ii, truD_b, slD_t, slD_s, inR_t, List.map, List.length, List.replicate, List.cons_append, List.nil_append, List.append_nil, List.getElem?_cons_succ, List.getElem?_cons_zero, Option.some.injEq, exists_eq_left', exists_eq_left, ex2, ex3, exists_eq', List.set_cons_succ, List.set_cons_zero, Nat.reduceAdd, Nat.reduceSub, true_and, and_true, D.bl.injEq, D.int.injEq, D.str.injEq, D.ptr.injEq, D.tup.injEq, decide_eq_true_eq, beq_iff_eq, Bool.false_eq_true, if_true, if_false, reduceIte, wipeD, List.foldr_cons, List.foldr_nil, Nat.reduceLeDiff, List.cons.injEq, and_self, List.length_cons, List.length_nil]
      exact ⟨C, Sub.refl _, no fun h => absurd h.1 (by decide)⟩
    · have h1' : 1 ≤ l.length := List.length_pos_iff.mpr h1
      rw [if_neg (by simpa using h1)]
      refine ⟨rfl, ⟨l, [32], rfl, rfl, hz, ?_⟩⟩
      try simp only [dSeq, dChain, dOrT, dAndT, dNotT, dGetI_eq, Bool.not_true, Bool.not_false, dAsg, dOp, dVar, dC, gNm, gTp, gCn, gNl, dRet, dIf, dTest, dTru, dNot, dAnd, dOr, dNext, dDrop, dCons, dNil, dTup, dLst, dEmp, dEmpG, dPar, dPar3, dSetI, dCall, dCB, dBM, dBM0, dIfE, dNeg, dSl, dPart, dNoP, dAug, addI, dBreak, dCont, dAlt, dYes, dPairs, dDisp, gSubD, dBMd, addD_ii, addD_ss, addD_tt, subD_ii, mulD_ii, modD_ii, fdivD_ii, powD_ii, ltD_ii, leD_ii, gtD_ii, geD_ii, ltD_ss, leD_ss, eqR_ii, eqR_ss, eqR_tt, eqR_bb, abs_ii, max_ii, min_ii, truD_b, slD_t, slD_s, inR_t, List.map, List.length, List.replicate, List.cons_append, List.nil_append, List.append_nil, List.getElem?_cons_succ, List.getElem?_cons_zero, Option.some.injEq, exists_eq_left', exists_eq_left, ex2, ex3, exists_eq', List.set_cons_succ, List.set_cons_zero, Nat.reduceAdd, Nat.reduceSub, true_and, and_true, D.bl.injEq, D.int.injEq, D.str.injEq, D.ptr.injEq, D.tup.injEq, decide_eq_true_eq, beq_iff_eq, Bool.false_eq_true, if_true, if_false, reduceIte, wipeD, List.foldr_cons, List.foldr_nil, Nat.reduceLeDiff, List.cons.injEq, and_self, List.length_cons, List.length_nil]
      by_cases h2 : stripL l [32] = l
      · rw [h2]
        have h3 := (stripL_same h1).mp h2
        rw [if_neg (by simp)]
        refine len_s hz ?_
        try simp only [dSeq, dChain, dOrT, dAndT, dNotT, dGetI_eq, Bool.not_true, Bool.not_false, dAsg, dOp, dVar, dC, gNm, gTp, gCn, gNl, dRet, dIf, dTest, dTru, dNot, dAnd, dOr, dNext, dDrop, dCons, dNil, dTup, dLst, dEmp, dEmpG, dPar, dPar3, dSetI, dCall, dCB, dBM, dBM0, dIfE, dNeg, dSl, dPart, dNoP, dAug, addI, dBreak, dCont, dAlt, dYes, dPairs, dDisp, gSubD, dBMd, addD_ii, addD_ss, addD_tt, subD_ii, mulD_ii, modD_ii, fdivD_ii, powD_ii, ltD_ii, leD_ii, gtD_ii, geD_ii, ltD_ss, leD_ss, eqR_ii, eqR_ss, eqR_tt, eqR_bb, abs_ii, max_ii, min_ii, truD_b, slD_t, slD_s, inR_t, List.map, List.length, List.replicate, List.cons_append, List.nil_append, List.append_nil, List.getElem?_cons_succ, List.getElem?_cons_zero, Option.some.injEq, exists_eq_left', exists_eq_left, ex2, ex3, exists_eq', List.set_cons_succ, List.set_cons_zero, Nat.reduceAdd, Nat.reduceSub, true_and, and_true, D.bl.injEq, D.int.injEq, D.str.injEq, D.ptr.injEq, D.tup.injEq, decide_eq_true_eq, beq_iff_eq, Bool.false_eq_true, if_true, if_false, reduceIte, wipeD, List.foldr_cons, List.foldr_nil, Nat.reduceLeDiff, List.cons.injEq, and_self, List.length_cons, List.length_nil]
        by_cases h4 : l.length ≤ 60
        · rw [if_neg (by omega)]
          unfold r__law_is_title_1
          try simp only [dSeq, dChain, dOrT, dAndT, dNotT, dGetI_eq, Bool.not_true, Bool.not_false, dAsg, dOp, dVar, dC, gNm, gTp, gCn, gNl, dRet, dIf, dTest, dTru, dNot, dAnd, dOr, dNext, dDrop, dCons, dNil, dTup, dLst, dEmp, dEmpG, dPar, dPar3, dSetI, dCall, dCB, dBM, dBM0, dIfE, dNeg, dSl, dPart, dNoP, dAug, addI, dBreak, dCont, dAlt, dYes, dPairs, dDisp, gSubD, dBMd, addD_ii, addD_ss, addD_tt, subD_ii, mulD_ii, modD_ii, fdivD_ii, powD_ii, ltD_ii, leD_ii, gtD_ii, geD_ii, ltD_ss, leD_ss, eqR_ii, eqR_ss, eqR_tt, eqR_bb, abs_ii, max_ii, min_ii, truD_b, slD_t, slD_s, inR_t, List.map, List.length, List.replicate, List.cons_append, List.nil_append, List.append_nil, List.getElem?_cons_succ, List.getElem?_cons_zero, Option.some.injEq, exists_eq_left', exists_eq_left, ex2, ex3, exists_eq', List.set_cons_succ, List.set_cons_zero, Nat.reduceAdd, Nat.reduceSub, true_and, and_true, D.bl.injEq, D.int.injEq, D.str.injEq, D.ptr.injEq, D.tup.injEq, decide_eq_true_eq, beq_iff_eq, Bool.false_eq_true, if_true, if_false, reduceIte, wipeD, List.foldr_cons, List.foldr_nil, Nat.reduceLeDiff, List.cons.injEq, and_self, List.length_cons, List.length_nil]
          refine ⟨10, l, rfl, rfl, C, Sub.refl _, ?_⟩
          have e : isTd (.str l) = !decide (10 ∈ l) := by
            show isT l = _
            unfold isT
            have b1 : (l.head? == some 32) = false := by
              cases hq : (l.head? == some 32) with
              | false => rfl
              | true => exact absurd (.inl (by simpa using hq)) h3
            have b2 : (l.getLast? == some 32) = false := by
              cases hq : (l.getLast? == some 32) with
              | false => rfl
              | true => exact absurd (.inr (by simpa using hq)) h3
            rw [decide_eq_true ⟨h1', h4⟩, Bool.true_and, b1, b2, Bool.not_false, Bool.true_and, Bool.true_and, Bool.eq_iff_iff]
            simp
            constructor
            · intro h hm; exact h 10 hm rfl
            · intro h c hc e; subst e; exact h hc
          simp only [if_true]
          rw [← e]
          exact k C (Kp.refl C)
        · rw [if_pos (by omega)]
          exact ⟨C, Sub.refl _, no fun h => absurd h.2.1 h4⟩
      · have b3 : (stripL l [32] == l) = false := by simpa using h2
        rw [b3]
        try simp only [dSeq, dChain, dOrT, dAndT, dNotT, dGetI_eq, Bool.not_true, Bool.not_false, dAsg, dOp, dVar, dC, gNm, gTp, gCn, gNl, dRet, dIf, dTest, dTru, dNot, dAnd, dOr, dNext, dDrop, dCons, dNil, dTup, dLst, dEmp, dEmpG, dPar, dPar3, dSetI, dCall, dCB, dBM, dBM0, dIfE, dNeg, dSl, dPart, dNoP, dAug, addI, dBreak, dCont, dAlt, dYes, dPairs, dDisp, gSubD, dBMd, addD_ii, addD_ss, addD_tt, subD_ii, mulD_ii, modD_ii, fdivD_ii, powD_ii, ltD_ii, leD_ii, gtD_ii, geD_ii, ltD_ss, leD_ss, eqR_ii, eqR_ss, eqR_tt, eqR_bb, abs_ii, max_ii, min_ii, truD_b, slD_t, slD_s, inR_t, List.map, List.length, List.replicate, List.cons_append, List.nil_append, List.append_nil, List.getElem?_cons_succ, List.getElem?_cons_zero, Option.some.injEq, exists_eq_left', exists_eq_left, ex2, ex3, exists_eq', List.set_cons_succ, List.set_cons_zero, Nat.reduceAdd, Nat.reduceSub, true_and, and_true, D.bl.injEq, D.int.injEq, D.str.injEq, D.ptr.injEq, D.tup.injEq, decide_eq_true_eq, beq_iff_eq, Bool.false_eq_true, if_true, if_false, reduceIte, wipeD, List.foldr_cons, List.foldr_nil, Nat.reduceLeDiff, List.cons.injEq, and_self, List.length_cons, List.length_nil]
        refine ⟨C, Sub.refl _, no fun h => h2 ((stripL_same h1).mpr fun hh => hh.elim h.2.2.1 h.2.2.2)⟩
  · refine isi (n := "tuple") rfl (b := false) (by kernel_rfl) ?_
    try simp only [dSeq, dChain, dOrT, dAndT, dNotT, dGetI_eq, Bool.not_true, Bool.not_false, dAsg, dOp, dVar, dC, gNm, gTp, gCn, gNl, dRet, dIf, dTest, dTru, dNot, dAnd, dOr, dNext, dDrop, dCons, dNil, dTup, dLst, dEmp, dEmpG, dPar, dPar3, dSetI, dCall, dCB, dBM, dBM0, dIfE, dNeg, dSl, dPart, dNoP, dAug, addI, dBreak, dCont, dAlt, dYes, dPairs, dDisp, gSubD, dBMd, addD_ii, addD_ss, addD_tt, subD_ii, mulD_ii, modD_ii, fdivD_ii, powD_ii, ltD_ii, leD_ii, gtD_ii, geD_ii, ltD_ss, leD_ss, eqR_ii, eqR_ss, eqR_tt, eqR_bb, abs_ii, max_ii, min_ii, truD_b, slD_t, slD_s, inR_t, List.map, List.length, List.replicate, List.cons_append, List.nil_append, List.append_nil, List.getElem?_cons_succ, List.getElem?_cons_zero, Option.some.injEq, exists_eq_left', exists_eq_left, ex2, ex3, exists_eq', List.set_cons_succ, List.set_cons_zero, Nat.reduceAdd, Nat.reduceSub, true_and, and_true, D.bl.injEq, D.int.injEq, D.str.injEq, D.ptr.injEq, D.tup.injEq, decide_eq_true_eq, beq_iff_eq, Bool.false_eq_true, if_true, if_false, reduceIte, wipeD, List.foldr_cons, List.foldr_nil, Nat.reduceLeDiff, List.cons.injEq, and_self, List.length_cons, List.length_nil]
    exact ⟨_, Sub.refl _, k C (Kp.refl C)⟩
  · obtain ⟨n, h1, h2, _⟩ := oth_is h
    refine isi h1 h2 ?_
    try simp only [dSeq, dChain, dOrT, dAndT, dNotT, dGetI_eq, Bool.not_true, Bool.not_false, dAsg, dOp, dVar, dC, gNm, gTp, gCn, gNl, dRet, dIf, dTest, dTru, dNot, dAnd, dOr, dNext, dDrop, dCons, dNil, dTup, dLst, dEmp, dEmpG, dPar, dPar3, dSetI, dCall, dCB, dBM, dBM0, dIfE, dNeg, dSl, dPart, dNoP, dAug, addI, dBreak, dCont, dAlt, dYes, dPairs, dDisp, gSubD, dBMd, addD_ii, addD_ss, addD_tt, subD_ii, mulD_ii, modD_ii, fdivD_ii, powD_ii, ltD_ii, leD_ii, gtD_ii, geD_ii, ltD_ss, leD_ss, eqR_ii, eqR_ss, eqR_tt, eqR_bb, abs_ii, max_ii, min_ii, truD_b, slD_t, slD_s, inR_t, List.map, List.length, List.replicate, List.cons_append, List.nil_append, List.append_nil, List.getElem?_cons_succ, List.getElem?_cons_zero, Option.some.injEq, exists_eq_left', exists_eq_left, ex2, ex3, exists_eq', List.set_cons_succ, List.set_cons_zero, Nat.reduceAdd, Nat.reduceSub, true_and, and_true, D.bl.injEq, D.int.injEq, D.str.injEq, D.ptr.injEq, D.tup.injEq, decide_eq_true_eq, beq_iff_eq, Bool.false_eq_true, if_true, if_false, reduceIte, wipeD, List.foldr_cons, List.foldr_nil, Nat.reduceLeDiff, List.cons.injEq, and_self, List.length_cons, List.length_nil]
    have e : isTd d = false := by
      rcases h with h | ⟨b, h⟩ | ⟨i, h⟩ | ⟨p, h, _⟩ <;> (subst h; rfl)
    refine ⟨_, Sub.refl _, ?_⟩
    rw [← e]
    exact k C (Kp.refl C)
end K01

namespace K01
open PySem PySem.Spec PyProof.Rows KB
open L2 hiding op_eqD op_neD call_listD
variable {C : Cp} {p q : Addr} {N : Nat} {Q : DQ} {E : Exn → Cp → Prop}
theorem cut_take {α : Type} (xs : List α) (n : Nat) : cutL xs none (some (n : Int)) = xs.take n := by
  unfold cutL
  rw [HT.sIx_none, HT.sIx_nat, List.drop_zero, Nat.sub_zero, List.take_eq_take_min, Nat.min_assoc, Nat.min_self, ← List.take_eq_take_min]
theorem cut_drop {α : Type} (xs : List α) (n : Nat) : cutL xs (some (n : Int)) none = xs.drop n := by
  unfold cutL
  rw [HT.sIx_none, HT.sIx_nat]
  have e : (xs.drop (min n xs.length)) = xs.drop n := by
    by_cases h : n ≤ xs.length
    · rw [Nat.min_eq_left h]
    · rw [Nat.min_eq_right (by omega), List.drop_length, List.drop_eq_nil_of_le (by omega)]
  rw [e]
  apply List.take_of_length_le
  rw [List.length_drop]
  omega
def Sgn (c : Nat) : Prop := c = 10 ∨ (32 ≤ c ∧ c ≤ 126)
def Sg (ys : List (List Nat)) : Prop := ∀ y ∈ ys, ∃ c, y = [c] ∧ Sgn c
def Fl (k : Nat) (l : List Nat) : Prop := l.length ≤ k ∧ ∀ c ∈ l, Sgn c
theorem sg_nil : Sg [] := fun y hy => (by cases hy)
theorem Fl.fine {k : Nat} {l : List Nat} (h : Fl k l) (hk : k ≤ 1000) : Fine l := ⟨by have := h.1; omega, h.2⟩
theorem Fl.app {j k : Nat} {l m : List Nat} (h : Fl j l) (g : Fl k m) : Fl (j + k) (l ++ m) := ⟨by rw [List.length_append]; have := h.1; have := g.1; omega, fun c hc => (List.mem_append.mp hc).elim (h.2 c) (g.2 c)⟩
theorem alpha_sgn : ∀ c ∈ ALPHA, Sgn c := by
  unfold Sgn
  decide
theorem join_flat : ∀ ys : List (List Nat), joinD [] ys = ys.flatten := by
  intro ys
  unfold joinD
  induction ys with
  | nil => rfl
  | cons x r ih =>
    cases r with
    | nil => simp [TL.joinL]
    | cons y r =>
      rw [List.flatten_cons, ← ih]
      simp [TL.joinL]
theorem sg_fl {ys : List (List Nat)} (h : Sg ys) : Fl ys.length (joinD [] ys) := by
  rw [join_flat]
  induction ys with
  | nil => exact ⟨Nat.le_refl _, fun c hc => by cases hc⟩
  | cons y r ih =>
    obtain ⟨c, rfl, hc⟩ := h y List.mem_cons_self
    have ih := ih fun z hz => h z (List.mem_cons_of_mem _ hz)
    refine ⟨by rw [List.flatten_cons, List.length_append, List.length_cons]; have := ih.1; simp at this ⊢; omega, fun d hd => ?_⟩
    rw [List.flatten_cons] at hd
    rcases List.mem_append.mp hd with hd | hd
    · rw [List.mem_singleton.mp hd]; exact hc
    · exact ih.2 d hd
theorem add_ll {a b : Addr} {xs ys : List D} (h : C a = some (.lst xs)) (g : C b = some (.lst ys)) (z : xs.length + ys.length ≤ sizeLine) (k : ∀ p, C p = none → Q (.ptr p) (up C p (.lst (xs ++ ys)))) : addD (.ptr a) (.ptr b) C Q := ⟨xs, ys, h, g, z, k⟩
theorem text {n : Nat} (hP : Pot C p q N) (hN : N + 200 < 2 ^ 19) (hn : n ≤ 62) (k : ∀ l C', Fl 64 l → Pot C' p q (N + 80) → Kp (S2 p q) C C' → Q (.str l) C') : D__law_text [.ptr p, .int n] C Q E := by
  unfold D__law_text runD r__law_text
  try simp only [dSeq, dChain, dOrT, dAndT, dNotT, dGetI_eq, Bool.not_true, Bool.not_false, dAsg, dOp, dVar, dC, gNm, gTp, gCn, gNl, dRet, dIf, dTest, dTru, dNot, dAnd, dOr, dNext, dDrop, dCons, dNil, dTup, dLst, dEmp, dEmpG, dPar, dPar3, dSetI, dCall, dCB, dBM, dBM0, dIfE, dNeg, dSl, dPart, dNoP, dAug, addI, dBreak, dCont, dAlt, dYes, dPairs, dDisp, gSubD, dBMd, addD_ii, addD_ss, addD_tt, subD_ii, mulD_ii, modD_ii, fdivD_ii, powD_ii, ltD_ii, leD_ii, gtD_ii, geD_ii, ltD_ss, leD_ss, eqR_ii, eqR_ss, eqR_tt, eqR_bb, abs_ii, max_ii, min_ii, truD_b, slD_t, slD_s, inR_t, List.map, List.length, List.replicate, List.cons_append, List.nil_append, List.append_nil, List.getElem?_cons_succ, List.getElem?_cons_zero, Option.some.injEq, exists_eq_left', exists_eq_left, ex2, ex3, exists_eq', List.set_cons_succ, List.set_cons_zero, Nat.reduceAdd, Nat.reduceSub, true_and, and_true, D.bl.injEq, D.int.injEq, D.str.injEq, D.ptr.injEq, D.tup.injEq, decide_eq_true_eq, beq_iff_eq, Bool.false_eq_true, if_true, if_false, reduceIte, wipeD, List.foldr_cons, List.foldr_nil, Nat.reduceLeDiff, List.cons.injEq, and_self, List.length_cons, List.length_nil]
  unfold dLc
  try unfold dRng1
  try simp only [dSeq, dChain, dOrT, dAndT, dNotT, dGetI_eq, Bool.not_true, Bool.not_false, dAsg, dOp, dVar, dC, gNm, gTp, gCn, gNl, dRet, dIf, dTest, dTru, dNot, dAnd, dOr, dNext, dDrop, dCons, dNil, dTup, dLst, dEmp, dEmpG, dPar, dPar3, dSetI, dCall, dCB, dBM, dBM0, dIfE, dNeg, dSl, dPart, dNoP, dAug, addI, dBreak, dCont, dAlt, dYes, dPairs, dDisp, gSubD, dBMd, addD_ii, addD_ss, addD_tt, subD_ii, mulD_ii, modD_ii, fdivD_ii, powD_ii, ltD_ii, leD_ii, gtD_ii, geD_ii, ltD_ss, leD_ss, eqR_ii, eqR_ss, eqR_tt, eqR_bb, abs_ii, max_ii, min_ii, truD_b, slD_t, slD_s, inR_t, List.map, List.length, List.replicate, List.cons_append, List.nil_append, List.append_nil, List.getElem?_cons_succ, List.getElem?_cons_zero, Option.some.injEq, exists_eq_left', exists_eq_left, ex2, ex3, exists_eq', List.set_cons_succ, List.set_cons_zero, Nat.reduceAdd, Nat.reduceSub, true_and, and_true, D.bl.injEq, D.int.injEq, D.str.injEq, D.ptr.injEq, D.tup.injEq, decide_eq_true_eq, beq_iff_eq, Bool.false_eq_true, if_true, if_false, reduceIte, wipeD, List.foldr_cons, List.foldr_nil, Nat.reduceLeDiff, List.cons.injEq, and_self, List.length_cons, List.length_nil]
  refine ⟨by omega, by omega, ?_⟩
  refine ⟨fun i acc C' => ∃ ys : List (List Nat), acc = ys.map D.str ∧ ys.length = i ∧ Sg ys ∧ Pot C' p q (N + i) ∧ Kp (S2 p q) C C', ⟨[], rfl, rfl, sg_nil, hP, Kp.refl _⟩, fun _ _ _ _ _ => trivial, fun i x acc C3 e hp hl => ?_, by rw [rngD_len, sizeLine_eq]; omega, fun acc C3 f hp hf => ?_⟩
  · obtain ⟨hi, rfl⟩ := rng_at e
    have hi : i < n := by simpa using hi
    obtain ⟨ys, rfl, hy, hs, hP3, k3⟩ := hp
    try simp only [dSeq, dChain, dOrT, dAndT, dNotT, dGetI_eq, Bool.not_true, Bool.not_false, dAsg, dOp, dVar, dC, gNm, gTp, gCn, gNl, dRet, dIf, dTest, dTru, dNot, dAnd, dOr, dNext, dDrop, dCons, dNil, dTup, dLst, dEmp, dEmpG, dPar, dPar3, dSetI, dCall, dCB, dBM, dBM0, dIfE, dNeg, dSl, dPart, dNoP, dAug, addI, dBreak, dCont, dAlt, dYes, dPairs, dDisp, gSubD, dBMd, addD_ii, addD_ss, addD_tt, subD_ii, mulD_ii, modD_ii, fdivD_ii, powD_ii, ltD_ii, leD_ii, gtD_ii, geD_ii, ltD_ss, leD_ss, eqR_ii, eqR_ss, eqR_tt, eqR_bb, abs_ii, max_ii, min_ii, truD_b, slD_t, slD_s, inR_t, List.map, List.length, List.replicate, List.cons_append, List.nil_append, List.append_nil, List.getElem?_cons_succ, List.getElem?_cons_zero, Option.some.injEq, exists_eq_left', exists_eq_left, ex2, ex3, exists_eq', List.set_cons_succ, List.set_cons_zero, Nat.reduceAdd, Nat.reduceSub, true_and, and_true, D.bl.injEq, D.int.injEq, D.str.injEq, D.ptr.injEq, D.tup.injEq, decide_eq_true_eq, beq_iff_eq, Bool.false_eq_true, if_true, if_false, reduceIte, wipeD, List.foldr_cons, List.foldr_nil, Nat.reduceLeDiff, List.cons.injEq, and_self, List.length_cons, List.length_nil]
    refine pick_s hP3 (by omega) (by decide) (by decide) fun c C4 hc hP4 k4 => ?_
    refine ⟨C4, Sub.refl _, ys ++ [[c]], by rw [List.map_append]; rfl, by rw [List.length_append, hy]; rfl, fun z hz => ?_, hP4, k3.trans k4⟩
    rcases List.mem_append.mp hz with hz | hz
    · exact hs z hz
    · rw [List.mem_singleton.mp hz]
      exact ⟨c, rfl, alpha_sgn c hc⟩
  obtain ⟨ys, rfl, hy, hs, hP3, k3⟩ := hp
  rw [rngD_len] at hy hP3
  have hy : ys.length = n := by simpa using hy
  have hP3 : Pot C3 p q (N + n) := by simpa using hP3
  have nf := hP3.ne hf
  have cf : up C3 f (.lst (ys.map D.str)) f = some (.lst (ys.map D.str)) := up_same
  have hP4 : Pot (up C3 f (.lst (ys.map D.str))) p q (N + n) := hP3.up nf
  have k4 : Kp (S2 p q) C (up C3 f (.lst (ys.map D.str))) := k3.new hf
  generalize up C3 f (.lst (ys.map D.str)) = C4 at cf hP4 k4
  unfold dFor
  try unfold dRng1
  try simp only [dSeq, dChain, dOrT, dAndT, dNotT, dGetI_eq, Bool.not_true, Bool.not_false, dAsg, dOp, dVar, dC, gNm, gTp, gCn, gNl, dRet, dIf, dTest, dTru, dNot, dAnd, dOr, dNext, dDrop, dCons, dNil, dTup, dLst, dEmp, dEmpG, dPar, dPar3, dSetI, dCall, dCB, dBM, dBM0, dIfE, dNeg, dSl, dPart, dNoP, dAug, addI, dBreak, dCont, dAlt, dYes, dPairs, dDisp, gSubD, dBMd, addD_ii, addD_ss, addD_tt, subD_ii, mulD_ii, modD_ii, fdivD_ii, powD_ii, ltD_ii, leD_ii, gtD_ii, geD_ii, ltD_ss, leD_ss, eqR_ii, eqR_ss, eqR_tt, eqR_bb, abs_ii, max_ii, min_ii, truD_b, slD_t, slD_s, inR_t, List.map, List.length, List.replicate, List.cons_append, List.nil_append, List.append_nil, List.getElem?_cons_succ, List.getElem?_cons_zero, Option.some.injEq, exists_eq_left', exists_eq_left, ex2, ex3, exists_eq', List.set_cons_succ, List.set_cons_zero, Nat.reduceAdd, Nat.reduceSub, true_and, and_true, D.bl.injEq, D.int.injEq, D.str.injEq, D.ptr.injEq, D.tup.injEq, decide_eq_true_eq, beq_iff_eq, Bool.false_eq_true, if_true, if_false, reduceIte, wipeD, List.foldr_cons, List.foldr_nil, Nat.reduceLeDiff, List.cons.injEq, and_self, List.length_cons, List.length_nil]
  refine draw' hP4 (by omega) (by decide) (by decide) fun t C5 ht hP5 k5 => ?_
  try simp only [dSeq, dChain, dOrT, dAndT, dNotT, dGetI_eq, Bool.not_true, Bool.not_false, dAsg, dOp, dVar, dC, gNm, gTp, gCn, gNl, dRet, dIf, dTest, dTru, dNot, dAnd, dOr, dNext, dDrop, dCons, dNil, dTup, dLst, dEmp, dEmpG, dPar, dPar3, dSetI, dCall, dCB, dBM, dBM0, dIfE, dNeg, dSl, dPart, dNoP, dAug, addI, dBreak, dCont, dAlt, dYes, dPairs, dDisp, gSubD, dBMd, addD_ii, addD_ss, addD_tt, subD_ii, mulD_ii, modD_ii, fdivD_ii, powD_ii, ltD_ii, leD_ii, gtD_ii, geD_ii, ltD_ss, leD_ss, eqR_ii, eqR_ss, eqR_tt, eqR_bb, abs_ii, max_ii, min_ii, truD_b, slD_t, slD_s, inR_t, List.map, List.length, List.replicate, List.cons_append, List.nil_append, List.append_nil, List.getElem?_cons_succ, List.getElem?_cons_zero, Option.some.injEq, exists_eq_left', exists_eq_left, ex2, ex3, exists_eq', List.set_cons_succ, List.set_cons_zero, Nat.reduceAdd, Nat.reduceSub, true_and, and_true, D.bl.injEq, D.int.injEq, D.str.injEq, D.ptr.injEq, D.tup.injEq, decide_eq_true_eq, beq_iff_eq, Bool.false_eq_true, if_true, if_false, reduceIte, wipeD, List.foldr_cons, List.foldr_nil, Nat.reduceLeDiff, List.cons.injEq, and_self, List.length_cons, List.length_nil]
  refine ⟨by omega, by omega, ?_⟩
  have et : ((t : Int) - 1).toNat ≤ 2 := by omega
  generalize ((t : Int) - 1).toNat = u at et
  refine ⟨fun i sl C' => ∃ (x3 x4 : Option D) (f : Addr) (ys : List (List Nat)), sl = [some (.ptr p), some (.int n), some (.ptr f), x3, x4, none] ∧ C' f = some (.lst (ys.map D.str)) ∧ ¬ S2 p q f ∧ ys.length ≤ n + i ∧ Sg ys ∧ Pot C' p q (N + n + 1 + 2 * i) ∧ Kp (S2 p q) C C',
    ⟨none, none, f, ys, rfl, k5 _ _ nf cf, nf, by omega, hs, hP5, k4.trans k5⟩, fun _ _ _ _ _ => trivial, fun i x sl C6 e hp => ?_, fun sl C6 hp => ?_⟩
  · obtain ⟨hi, rfl⟩ := rng_at e
    have hi : i < u := by simpa using hi
    obtain ⟨x3, x4, f, ys, rfl, cf, nf, ly, hs, hP6, k6⟩ := hp
    unfold l__law_text_1
    try simp only [dSeq, dChain, dOrT, dAndT, dNotT, dGetI_eq, Bool.not_true, Bool.not_false, dAsg, dOp, dVar, dC, gNm, gTp, gCn, gNl, dRet, dIf, dTest, dTru, dNot, dAnd, dOr, dNext, dDrop, dCons, dNil, dTup, dLst, dEmp, dEmpG, dPar, dPar3, dSetI, dCall, dCB, dBM, dBM0, dIfE, dNeg, dSl, dPart, dNoP, dAug, addI, dBreak, dCont, dAlt, dYes, dPairs, dDisp, gSubD, dBMd, addD_ii, addD_ss, addD_tt, subD_ii, mulD_ii, modD_ii, fdivD_ii, powD_ii, ltD_ii, leD_ii, gtD_ii, geD_ii, ltD_ss, leD_ss, eqR_ii, eqR_ss, eqR_tt, eqR_bb, abs_ii, max_ii, min_ii, truD_b, slD_t, slD_s, inR_t, List.map, List.length, List.replicate, List.cons_append, List.nil_append, List.append_nil, List.getElem?_cons_succ, List.getElem?_cons_zero, Option.some.injEq, exists_eq_left', exists_eq_left, ex2, ex3, exists_eq', List.set_cons_succ, List.set_cons_zero, Nat.reduceAdd, Nat.reduceSub, true_and, and_true, D.bl.injEq, D.int.injEq, D.str.injEq, D.ptr.injEq, D.tup.injEq, decide_eq_true_eq, beq_iff_eq, Bool.false_eq_true, if_true, if_false, reduceIte, wipeD, List.foldr_cons, List.foldr_nil, Nat.reduceLeDiff, List.cons.injEq, and_self, List.length_cons, List.length_nil]
    refine len_l (.inl cf) ?_
    try simp only [dSeq, dChain, dOrT, dAndT, dNotT, dGetI_eq, Bool.not_true, Bool.not_false, dAsg, dOp, dVar, dC, gNm, gTp, gCn, gNl, dRet, dIf, dTest, dTru, dNot, dAnd, dOr, dNext, dDrop, dCons, dNil, dTup, dLst, dEmp, dEmpG, dPar, dPar3, dSetI, dCall, dCB, dBM, dBM0, dIfE, dNeg, dSl, dPart, dNoP, dAug, addI, dBreak, dCont, dAlt, dYes, dPairs, dDisp, gSubD, dBMd, addD_ii, addD_ss, addD_tt, subD_ii, mulD_ii, modD_ii, fdivD_ii, powD_ii, ltD_ii, leD_ii, gtD_ii, geD_ii, ltD_ss, leD_ss, eqR_ii, eqR_ss, eqR_tt, eqR_bb, abs_ii, max_ii, min_ii, truD_b, slD_t, slD_s, inR_t, List.map, List.length, List.replicate, List.cons_append, List.nil_append, List.append_nil, List.getElem?_cons_succ, List.getElem?_cons_zero, Option.some.injEq, exists_eq_left', exists_eq_left, ex2, ex3, exists_eq', List.set_cons_succ, List.set_cons_zero, Nat.reduceAdd, Nat.reduceSub, true_and, and_true, D.bl.injEq, D.int.injEq, D.str.injEq, D.ptr.injEq, D.tup.injEq, decide_eq_true_eq, beq_iff_eq, Bool.false_eq_true, if_true, if_false, reduceIte, wipeD, List.foldr_cons, List.foldr_nil, Nat.reduceLeDiff, List.cons.injEq, and_self, List.length_cons, List.length_nil]
    rw [List.length_map]
    refine draw' hP6 (by omega) (by omega) (by omega) fun a C7 ha hP7 k7 => ?_
    try simp only [dSeq, dChain, dOrT, dAndT, dNotT, dGetI_eq, Bool.not_true, Bool.not_false, dAsg, dOp, dVar, dC, gNm, gTp, gCn, gNl, dRet, dIf, dTest, dTru, dNot, dAnd, dOr, dNext, dDrop, dCons, dNil, dTup, dLst, dEmp, dEmpG, dPar, dPar3, dSetI, dCall, dCB, dBM, dBM0, dIfE, dNeg, dSl, dPart, dNoP, dAug, addI, dBreak, dCont, dAlt, dYes, dPairs, dDisp, gSubD, dBMd, addD_ii, addD_ss, addD_tt, subD_ii, mulD_ii, modD_ii, fdivD_ii, powD_ii, ltD_ii, leD_ii, gtD_ii, geD_ii, ltD_ss, leD_ss, eqR_ii, eqR_ss, eqR_tt, eqR_bb, abs_ii, max_ii, min_ii, truD_b, slD_t, slD_s, inR_t, List.map, List.length, List.replicate, List.cons_append, List.nil_append, List.append_nil, List.getElem?_cons_succ, List.getElem?_cons_zero, Option.some.injEq, exists_eq_left', exists_eq_left, ex2, ex3, exists_eq', List.set_cons_succ, List.set_cons_zero, Nat.reduceAdd, Nat.reduceSub, true_and, and_true, D.bl.injEq, D.int.injEq, D.str.injEq, D.ptr.injEq, D.tup.injEq, decide_eq_true_eq, beq_iff_eq, Bool.false_eq_true, if_true, if_false, reduceIte, wipeD, List.foldr_cons, List.foldr_nil, Nat.reduceLeDiff, List.cons.injEq, and_self, List.length_cons, List.length_nil]
    have cf7 := k7 _ _ nf cf
    refine sl_l (.inl cf7) fun s1 h1 => ?_
    rw [cut_take, ← List.map_take]
    have n1 := hP7.ne h1
    have d1 : s1 ≠ f := ne_fresh cf7 h1
    refine pick_s (hP7.up n1) (by omega) (by decide) (by decide) fun c C8 hc hP8 k8 => ?_
    have cf8 := k8 _ _ nf (at_ne cf7 (Ne.symm d1))
    have cs1 := k8 _ _ n1 up_same
    try simp only [dSeq, dChain, dOrT, dAndT, dNotT, dGetI_eq, Bool.not_true, Bool.not_false, dAsg, dOp, dVar, dC, gNm, gTp, gCn, gNl, dRet, dIf, dTest, dTru, dNot, dAnd, dOr, dNext, dDrop, dCons, dNil, dTup, dLst, dEmp, dEmpG, dPar, dPar3, dSetI, dCall, dCB, dBM, dBM0, dIfE, dNeg, dSl, dPart, dNoP, dAug, addI, dBreak, dCont, dAlt, dYes, dPairs, dDisp, gSubD, dBMd, addD_ii, addD_ss, addD_tt, subD_ii, mulD_ii, modD_ii, fdivD_ii, powD_ii, ltD_ii, leD_ii, gtD_ii, geD_ii, ltD_ss, leD_ss, eqR_ii, eqR_ss, eqR_tt, eqR_bb, abs_ii, max_ii, min_ii, truD_b, slD_t, slD_s, inR_t, List.map, List.length, List.replicate, List.cons_append, List.nil_append, List.append_nil, List.getElem?_cons_succ, List.getElem?_cons_zero, Option.some.injEq, exists_eq_left', exists_eq_left, ex2, ex3, exists_eq', List.set_cons_succ, List.set_cons_zero, Nat.reduceAdd, Nat.reduceSub, true_and, and_true, D.bl.injEq, D.int.injEq, D.str.injEq, D.ptr.injEq, D.tup.injEq, decide_eq_true_eq, beq_iff_eq, Bool.false_eq_true, if_true, if_false, reduceIte, wipeD, List.foldr_cons, List.foldr_nil, Nat.reduceLeDiff, List.cons.injEq, and_self, List.length_cons, List.length_nil]
    intro s2 h2
    have d2 : s2 ≠ f := ne_fresh cf8 h2
    have d3 : s2 ≠ s1 := ne_fresh cs1 h2
    refine add_ll (at_ne cs1 (Ne.symm d3)) up_same (by rw [List.length_map, List.length_take, sizeLine_eq]; simp; omega) fun s3 h3 => ?_
    have cf9 := at_ne cf8 (c' := .lst [.str [c]]) (Ne.symm d2)
    have d4 : s3 ≠ f := ne_fresh cf9 h3
    have cf10 := at_ne cf9 (c' := .lst ((ys.take a).map D.str ++ [.str [c]])) (Ne.symm d4)
    have cs3 : up (up C8 s2 (.lst [.str [c]])) s3 (.lst ((ys.take a).map D.str ++ [.str [c]])) s3 = some (.lst ((ys.take a).map D.str ++ [.str [c]])) := up_same
    have hP10 : Pot (up (up C8 s2 (.lst [.str [c]])) s3 (.lst ((ys.take a).map D.str ++ [.str [c]]))) p q (N + n + 1 + 2 * i + 1 + 1) := (hP8.up (hP8.ne h2)).up ((hP8.up (hP8.ne h2)).ne h3)
    have k10 : Kp (S2 p q) C (up (up C8 s2 (.lst [.str [c]])) s3 (.lst ((ys.take a).map D.str ++ [.str [c]]))) := (((((k6.trans k7).new h1).trans k8).new h2).new h3)
    generalize up (up C8 s2 (.lst [.str [c]])) s3 (.lst ((ys.take a).map D.str ++ [.str [c]])) = C10 at cf10 cs3 hP10 k10
    refine sl_l (.inl cf10) fun s4 h4 => ?_
    rw [show ((a : Int) + 1) = ((a + 1 : Nat) : Int) by omega, cut_drop, ← List.map_drop]
    have d5 : s4 ≠ s3 := ne_fresh cs3 h4
    refine add_ll (at_ne cs3 (Ne.symm d5)) up_same (by rw [List.length_append, List.length_map, List.length_map, List.length_take, List.length_drop, sizeLine_eq]; simp; omega) fun s5 h5 => ?_
    try simp only [dSeq, dChain, dOrT, dAndT, dNotT, dGetI_eq, Bool.not_true, Bool.not_false, dAsg, dOp, dVar, dC, gNm, gTp, gCn, gNl, dRet, dIf, dTest, dTru, dNot, dAnd, dOr, dNext, dDrop, dCons, dNil, dTup, dLst, dEmp, dEmpG, dPar, dPar3, dSetI, dCall, dCB, dBM, dBM0, dIfE, dNeg, dSl, dPart, dNoP, dAug, addI, dBreak, dCont, dAlt, dYes, dPairs, dDisp, gSubD, dBMd, addD_ii, addD_ss, addD_tt, subD_ii, mulD_ii, modD_ii, fdivD_ii, powD_ii, ltD_ii, leD_ii, gtD_ii, geD_ii, ltD_ss, leD_ss, eqR_ii, eqR_ss, eqR_tt, eqR_bb, abs_ii, max_ii, min_ii, truD_b, slD_t, slD_s, inR_t, List.map, List.length, List.replicate, List.cons_append, List.nil_append, List.append_nil, List.getElem?_cons_succ, List.getElem?_cons_zero, Option.some.injEq, exists_eq_left', exists_eq_left, ex2, ex3, exists_eq', List.set_cons_succ, List.set_cons_zero, Nat.reduceAdd, Nat.reduceSub, true_and, and_true, D.bl.injEq, D.int.injEq, D.str.injEq, D.ptr.injEq, D.tup.injEq, decide_eq_true_eq, beq_iff_eq, Bool.false_eq_true, if_true, if_false, reduceIte, wipeD, List.foldr_cons, List.foldr_nil, Nat.reduceLeDiff, List.cons.injEq, and_self, List.length_cons, List.length_nil]
    have hP11 := hP10.up (c := .lst ((ys.drop (a + 1)).map D.str)) (hP10.ne h4)
    refine ⟨_, Sub.refl _, _, _, s5, ys.take a ++ [[c]] ++ ys.drop (a + 1), ⟨rfl, rfl, rfl⟩, ?_, hP11.ne h5, ?_, fun y hy => ?_, (hP11.up (hP11.ne h5)).mono (by omega), (k10.new h4).new h5⟩
    · rw [up_same, List.map_append, List.map_append]
      rfl
    · simp only [List.length_append, List.length_take, List.length_drop, List.length_singleton]
      omega
    · rcases List.mem_append.mp hy with hy | hy
      · rcases List.mem_append.mp hy with hy | hy
        · exact hs y (List.mem_of_mem_take hy)
        · rw [List.mem_singleton.mp hy]
          have : ∀ c ∈ [65, 90, 95, 32, 46, 47, 126, 33, 96, 123, 64, 91, 58, 10], Sgn c := by unfold Sgn; decide
          exact ⟨c, rfl, this c hc⟩
      · exact hs y (List.mem_of_mem_drop hy)
  · obtain ⟨x3, x4, f, ys, rfl, cf, nf, ly, hs, hP6, k6⟩ := hp
    rw [rngD_len] at ly hP6
    unfold r__law_text_1
    try simp only [dSeq, dChain, dOrT, dAndT, dNotT, dGetI_eq, Bool.not_true, Bool.not_false, dAsg, dOp, dVar, dC, gNm, gTp, gCn, gNl, dRet, dIf, dTest, dTru, dNot, dAnd, dOr, dNext, dDrop, dCons, dNil, dTup, dLst, dEmp, dEmpG, dPar, dPar3, dSetI, dCall, dCB, dBM, dBM0, dIfE, dNeg, dSl, dPart, dNoP, dAug, addI, dBreak, dCont, dAlt, dYes, dPairs, dDisp, gSubD, dBMd, addD_ii, addD_ss, addD_tt, subD_ii, mulD_ii, modD_ii, fdivD_ii, powD_ii, ltD_ii, leD_ii, gtD_ii, geD_ii, ltD_ss, leD_ss, eqR_ii, eqR_ss, eqR_tt, eqR_bb, abs_ii, max_ii, min_ii, truD_b, slD_t, slD_s, inR_t, List.map, List.length, List.replicate, List.cons_append, List.nil_append, List.append_nil, List.getElem?_cons_succ, List.getElem?_cons_zero, Option.some.injEq, exists_eq_left', exists_eq_left, ex2, ex3, exists_eq', List.set_cons_succ, List.set_cons_zero, Nat.reduceAdd, Nat.reduceSub, true_and, and_true, D.bl.injEq, D.int.injEq, D.str.injEq, D.ptr.injEq, D.tup.injEq, decide_eq_true_eq, beq_iff_eq, Bool.false_eq_true, if_true, if_false, reduceIte, wipeD, List.foldr_cons, List.foldr_nil, Nat.reduceLeDiff, List.cons.injEq, and_self, List.length_cons, List.length_nil]
    have fl := sg_fl hs
    refine ⟨rfl, [], .ptr f, ys, rfl, rfl, .inl cf, ?_, ?_⟩
    · have := sum_short (m := 1) (xs := ys) fun y hy => by obtain ⟨c, rfl, _⟩ := hs y hy; exact Nat.le_refl _
      simp
      omega
    · exact ⟨C6, Sub.refl _, k _ C6 ⟨by have := fl.1; omega, fl.2⟩ (hP6.mono (by omega)) k6⟩
end K01

namespace K01
open PySem PySem.Spec PyProof.Rows KB
open L2 hiding op_eqD op_neD call_listD
variable {C : Cp} {p q : Addr} {N : Nat} {Q : DQ} {E : Exn → Cp → Prop}
def T0 (p q : Addr) (C : Cp) (d : D) : Prop := (∃ l, d = .str l ∧ Fine l) ∨ (∃ ds, d = .tup ds) ∨ (Oth C d ∧ ∀ a, d = .ptr a → ¬ S2 p q a)
theorem T0.th {d : D} (h : T0 p q C d) : Th0 C d := h.elim .inl fun h => h.elim (fun h => .inr (.inl h)) fun h => .inr (.inr h.1)
theorem T0.kp {d : D} {C' : Cp} (h : T0 p q C d) (k : Kp (S2 p q) C C') : T0 p q C' d := by
  rcases h with h | h | ⟨h, n⟩
  · exact .inl h
  · exact .inr (.inl h)
  · refine .inr (.inr ⟨?_, n⟩)
    rcases h with h | h | h | ⟨a, h, ⟨ds, e⟩ | ⟨kvs, e⟩⟩
    · exact .inl h
    · exact .inr (.inl h)
    · exact .inr (.inr (.inl h))
    · exact .inr (.inr (.inr ⟨a, h, .inl ⟨ds, k _ _ (n a h) e⟩⟩))
    · exact .inr (.inr (.inr ⟨a, h, .inr ⟨kvs, k _ _ (n a h) e⟩⟩))
theorem fine_s {l : List Nat} (h : Fine l) : T0 p q C (.str l) := .inl ⟨l, rfl, h⟩
theorem fl_app1 {j : Nat} {l : List Nat} (h : Fl j l) : Fl (j + 1) (l ++ [32]) := h.app ⟨Nat.le_refl _, fun c hc => by rw [List.mem_singleton.mp hc]; unfold Sgn; omega⟩
theorem fl_pre1 {j : Nat} {l : List Nat} (h : Fl j l) : Fl (j + 1) ([32] ++ l) := by
  have g : Fl (1 + j) ([32] ++ l) := Fl.app ⟨Nat.le_refl _, fun c hc => by rw [List.mem_singleton.mp hc]; unfold Sgn; omega⟩ h
  rw [Nat.add_comm]; exact g
theorem fine_nil : ∀ y ∈ ([] : List (List Nat)), Fine y := fun y hy => (by cases hy)
theorem fl_nil : ∀ y ∈ ([] : List (List Nat)), Fl 64 y := fun y hy => (by cases hy)
theorem join_fl : ∀ ys : List (List Nat), (∀ y ∈ ys, Fl 64 y) → Fl (ys.length * 65) (joinD [47] ys) := by
  intro ys
  unfold joinD
  induction ys with
  | nil => intro _; exact ⟨Nat.le_refl _, fun c hc => by cases hc⟩
  | cons x r ih =>
    intro h
    have hx := h x List.mem_cons_self
    have ih := ih fun y hy => h y (List.mem_cons_of_mem _ hy)
    cases r with
    | nil => exact ⟨by have := hx.1; simp [TL.joinL]; omega, by simpa [TL.joinL] using hx.2⟩
    | cons y r =>
      have g : Fl 1 [47] := ⟨Nat.le_refl _, fun c hc => by rw [List.mem_singleton.mp hc]; unfold Sgn; omega⟩
      have := hx.app (g.app ih)
      refine ⟨?_, this.2⟩
      have h1 := this.1
      simp only [TL.joinL, List.length_cons] at h1 ⊢
      omega
def TS (p q : Addr) (C : Cp) (d : D) : Prop := (∃ l, d = .str l ∧ Fine l) ∨ (∃ ds, d = .tup ds ∧ ds.length ≤ 500 ∧ ∀ e ∈ ds, T0 p q C e) ∨ (Oth C d ∧ ∀ a, d = .ptr a → ¬ S2 p q a)
theorem TS.th {d : D} (h : TS p q C d) : Th C d := h.elim .inl fun h => h.elim (fun ⟨ds, e, l, h⟩ => .inr (.inl ⟨ds, e, l, fun x hx => (h x hx).th⟩)) fun h => .inr (.inr h.1)
theorem TS.kp {d : D} {C' : Cp} (h : TS p q C d) (k : Kp (S2 p q) C C') : TS p q C' d := by
  rcases h with h | ⟨ds, e, l, h⟩ | h
  · exact .inl h
  · exact .inr (.inl ⟨ds, e, l, fun x hx => (h x hx).kp k⟩)
  · rcases T0.kp (.inr (.inr h)) k with h' | ⟨ds, e⟩ | h'
    · exact .inl h'
    · subst e
      rcases h.1 with h | ⟨_, h⟩ | ⟨_, h⟩ | ⟨_, h, _⟩ <;> cases h
    · exact .inr (.inr h')
/-- what the list of things is built of -/
theorem things (hP : Pot C p q N) (hN : N + 20000 < 2 ^ 19) (k : ∀ ds r C', C' r = some (.lst ds) → (∀ d ∈ ds, Th C' d) → Pot C' p q (N + 10000) → Q (.ptr r) C') : D__law_things [.ptr p] C Q E := by
  unfold D__law_things runD r__law_things
  try simp only [dSeq, dChain, dOrT, dAndT, dNotT, dGetI_eq, Bool.not_true, Bool.not_false, dAsg, dOp, dVar, dC, gNm, gTp, gCn, gNl, dRet, dIf, dTest, dTru, dNot, dAnd, dOr, dNext, dDrop, dCons, dNil, dTup, dLst, dEmp, dEmpG, dPar, dPar3, dSetI, dCall, dCB, dBM, dBM0, dIfE, dNeg, dSl, dPart, dNoP, dAug, addI, dBreak, dCont, dAlt, dYes, dPairs, dDisp, gSubD, dBMd, addD_ii, addD_ss, addD_tt, subD_ii, mulD_ii, modD_ii, fdivD_ii, powD_ii, ltD_ii, leD_ii, gtD_ii, geD_ii, ltD_ss, leD_ss, eqR_ii, eqR_ss, eqR_tt, eqR_bb, abs_ii, max_ii, min_ii, truD_b, slD_t, slD_s, inR_t, List.map, List.length, List.replicate, List.cons_append, List.nil_append, List.append_nil, List.getElem?_cons_succ, List.getElem?_cons_zero, Option.some.injEq, exists_eq_left', exists_eq_left, ex2, ex3, exists_eq', List.set_cons_succ, List.set_cons_zero, Nat.reduceAdd, Nat.reduceSub, true_and, and_true, D.bl.injEq, D.int.injEq, D.str.injEq, D.ptr.injEq, D.tup.injEq, decide_eq_true_eq, beq_iff_eq, Bool.false_eq_true, if_true, if_false, reduceIte, wipeD, List.foldr_cons, List.foldr_nil, Nat.reduceLeDiff, List.cons.injEq, and_self, List.length_cons, List.length_nil]
  refine draw' hP (by omega) (by decide) (by decide) fun d0 C1 h0 hP1 k1 => ?_
  try simp only [dSeq, dChain, dOrT, dAndT, dNotT, dGetI_eq, Bool.not_true, Bool.not_false, dAsg, dOp, dVar, dC, gNm, gTp, gCn, gNl, dRet, dIf, dTest, dTru, dNot, dAnd, dOr, dNext, dDrop, dCons, dNil, dTup, dLst, dEmp, dEmpG, dPar, dPar3, dSetI, dCall, dCB, dBM, dBM0, dIfE, dNeg, dSl, dPart, dNoP, dAug, addI, dBreak, dCont, dAlt, dYes, dPairs, dDisp, gSubD, dBMd, addD_ii, addD_ss, addD_tt, subD_ii, mulD_ii, modD_ii, fdivD_ii, powD_ii, ltD_ii, leD_ii, gtD_ii, geD_ii, ltD_ss, leD_ss, eqR_ii, eqR_ss, eqR_tt, eqR_bb, abs_ii, max_ii, min_ii, truD_b, slD_t, slD_s, inR_t, List.map, List.length, List.replicate, List.cons_append, List.nil_append, List.append_nil, List.getElem?_cons_succ, List.getElem?_cons_zero, Option.some.injEq, exists_eq_left', exists_eq_left, ex2, ex3, exists_eq', List.set_cons_succ, List.set_cons_zero, Nat.reduceAdd, Nat.reduceSub, true_and, and_true, D.bl.injEq, D.int.injEq, D.str.injEq, D.ptr.injEq, D.tup.injEq, decide_eq_true_eq, beq_iff_eq, Bool.false_eq_true, if_true, if_false, reduceIte, wipeD, List.foldr_cons, List.foldr_nil, Nat.reduceLeDiff, List.cons.injEq, and_self, List.length_cons, List.length_nil]
  rw [show ((1 : Int) + d0) = ((1 + d0 : Nat) : Int) by omega]
  refine text hP1 (by omega) (by omega) fun l0 C2 f0 hP2 k2 => ?_
  refine text (n := 12) hP2 (by omega) (by decide) fun l1 C3 f1 hP3 k3 => ?_
  refine draw' hP3 (by omega) (by decide) (by decide) fun d1 C4 h1 hP4 k4 => ?_
  try simp only [dSeq, dChain, dOrT, dAndT, dNotT, dGetI_eq, Bool.not_true, Bool.not_false, dAsg, dOp, dVar, dC, gNm, gTp, gCn, gNl, dRet, dIf, dTest, dTru, dNot, dAnd, dOr, dNext, dDrop, dCons, dNil, dTup, dLst, dEmp, dEmpG, dPar, dPar3, dSetI, dCall, dCB, dBM, dBM0, dIfE, dNeg, dSl, dPart, dNoP, dAug, addI, dBreak, dCont, dAlt, dYes, dPairs, dDisp, gSubD, dBMd, addD_ii, addD_ss, addD_tt, subD_ii, mulD_ii, modD_ii, fdivD_ii, powD_ii, ltD_ii, leD_ii, gtD_ii, geD_ii, ltD_ss, leD_ss, eqR_ii, eqR_ss, eqR_tt, eqR_bb, abs_ii, max_ii, min_ii, truD_b, slD_t, slD_s, inR_t, List.map, List.length, List.replicate, List.cons_append, List.nil_append, List.append_nil, List.getElem?_cons_succ, List.getElem?_cons_zero, Option.some.injEq, exists_eq_left', exists_eq_left, ex2, ex3, exists_eq', List.set_cons_succ, List.set_cons_zero, Nat.reduceAdd, Nat.reduceSub, true_and, and_true, D.bl.injEq, D.int.injEq, D.str.injEq, D.ptr.injEq, D.tup.injEq, decide_eq_true_eq, beq_iff_eq, Bool.false_eq_true, if_true, if_false, reduceIte, wipeD, List.foldr_cons, List.foldr_nil, Nat.reduceLeDiff, List.cons.injEq, and_self, List.length_cons, List.length_nil]
  rw [show ((58 : Int) + d1) = ((58 + d1 : Nat) : Int) by omega]
  refine text hP4 (by omega) (by omega) fun l2 C5 f2 hP5 k5 => ?_
  try simp only [dSeq, dChain, dOrT, dAndT, dNotT, dGetI_eq, Bool.not_true, Bool.not_false, dAsg, dOp, dVar, dC, gNm, gTp, gCn, gNl, dRet, dIf, dTest, dTru, dNot, dAnd, dOr, dNext, dDrop, dCons, dNil, dTup, dLst, dEmp, dEmpG, dPar, dPar3, dSetI, dCall, dCB, dBM, dBM0, dIfE, dNeg, dSl, dPart, dNoP, dAug, addI, dBreak, dCont, dAlt, dYes, dPairs, dDisp, gSubD, dBMd, addD_ii, addD_ss, addD_tt, subD_ii, mulD_ii, modD_ii, fdivD_ii, powD_ii, ltD_ii, leD_ii, gtD_ii, geD_ii, ltD_ss, leD_ss, eqR_ii, eqR_ss, eqR_tt, eqR_bb, abs_ii, max_ii, min_ii, truD_b, slD_t, slD_s, inR_t, List.map, List.length, List.replicate, List.cons_append, List.nil_append, List.append_nil, List.getElem?_cons_succ, List.getElem?_cons_zero, Option.some.injEq, exists_eq_left', exists_eq_left, ex2, ex3, exists_eq', List.set_cons_succ, List.set_cons_zero, Nat.reduceAdd, Nat.reduceSub, true_and, and_true, D.bl.injEq, D.int.injEq, D.str.injEq, D.ptr.injEq, D.tup.injEq, decide_eq_true_eq, beq_iff_eq, Bool.false_eq_true, if_true, if_false, reduceIte, wipeD, List.foldr_cons, List.foldr_nil, Nat.reduceLeDiff, List.cons.injEq, and_self, List.length_cons, List.length_nil]
  intro r1 hr1
  try simp only [dSeq, dChain, dOrT, dAndT, dNotT, dGetI_eq, Bool.not_true, Bool.not_false, dAsg, dOp, dVar, dC, gNm, gTp, gCn, gNl, dRet, dIf, dTest, dTru, dNot, dAnd, dOr, dNext, dDrop, dCons, dNil, dTup, dLst, dEmp, dEmpG, dPar, dPar3, dSetI, dCall, dCB, dBM, dBM0, dIfE, dNeg, dSl, dPart, dNoP, dAug, addI, dBreak, dCont, dAlt, dYes, dPairs, dDisp, gSubD, dBMd, addD_ii, addD_ss, addD_tt, subD_ii, mulD_ii, modD_ii, fdivD_ii, powD_ii, ltD_ii, leD_ii, gtD_ii, geD_ii, ltD_ss, leD_ss, eqR_ii, eqR_ss, eqR_tt, eqR_bb, abs_ii, max_ii, min_ii, truD_b, slD_t, slD_s, inR_t, List.map, List.length, List.replicate, List.cons_append, List.nil_append, List.append_nil, List.getElem?_cons_succ, List.getElem?_cons_zero, Option.some.injEq, exists_eq_left', exists_eq_left, ex2, ex3, exists_eq', List.set_cons_succ, List.set_cons_zero, Nat.reduceAdd, Nat.reduceSub, true_and, and_true, D.bl.injEq, D.int.injEq, D.str.injEq, D.ptr.injEq, D.tup.injEq, decide_eq_true_eq, beq_iff_eq, Bool.false_eq_true, if_true, if_false, reduceIte, wipeD, List.foldr_cons, List.foldr_nil, Nat.reduceLeDiff, List.cons.injEq, and_self, List.length_cons, List.length_nil]
  have n1 := hP5.ne hr1
  have c1 : up C5 r1 (.lst [.str l0, .str l1, .str l2]) r1 = some (.lst [.str l0, .str l1, .str l2]) := up_same
  have hP6 : Pot (up C5 r1 (.lst [.str l0, .str l1, .str l2])) p q (N + 1 + 80 + 80 + 1 + 80) := hP5.up n1
  generalize up C5 r1 (.lst [.str l0, .str l1, .str l2]) = C6 at c1 hP6
  refine draw' hP6 (by omega) (by decide) (by decide) fun d2 C7 h2 hP7 k7 => ?_
  refine text hP7 (by omega) (by omega) fun l3 C8 f3 hP8 k8 => ?_
  have c8 := k8 _ _ n1 (k7 _ _ n1 c1)
  have z : ∀ {j : Nat} {l : List Nat}, Fl j l → j ≤ 1000 → ∀ m : List Nat, m.length ≤ 10000 → l.length + m.length ≤ sizeLine := fun h hj m hm => by rw [sizeLine_eq]; have := h.1; omega
  refine ix_n (j := 0) (.inl c8) rfl ?_
  try simp only [dSeq, dChain, dOrT, dAndT, dNotT, dGetI_eq, Bool.not_true, Bool.not_false, dAsg, dOp, dVar, dC, gNm, gTp, gCn, gNl, dRet, dIf, dTest, dTru, dNot, dAnd, dOr, dNext, dDrop, dCons, dNil, dTup, dLst, dEmp, dEmpG, dPar, dPar3, dSetI, dCall, dCB, dBM, dBM0, dIfE, dNeg, dSl, dPart, dNoP, dAug, addI, dBreak, dCont, dAlt, dYes, dPairs, dDisp, gSubD, dBMd, addD_ii, addD_ss, addD_tt, subD_ii, mulD_ii, modD_ii, fdivD_ii, powD_ii, ltD_ii, leD_ii, gtD_ii, geD_ii, ltD_ss, leD_ss, eqR_ii, eqR_ss, eqR_tt, eqR_bb, abs_ii, max_ii, min_ii, truD_b, slD_t, slD_s, inR_t, List.map, List.length, List.replicate, List.cons_append, List.nil_append, List.append_nil, List.getElem?_cons_succ, List.getElem?_cons_zero, Option.some.injEq, exists_eq_left', exists_eq_left, ex2, ex3, exists_eq', List.set_cons_succ, List.set_cons_zero, Nat.reduceAdd, Nat.reduceSub, true_and, and_true, D.bl.injEq, D.int.injEq, D.str.injEq, D.ptr.injEq, D.tup.injEq, decide_eq_true_eq, beq_iff_eq, Bool.false_eq_true, if_true, if_false, reduceIte, wipeD, List.foldr_cons, List.foldr_nil, Nat.reduceLeDiff, List.cons.injEq, and_self, List.length_cons, List.length_nil]
  refine ⟨by rw [sizeLine_eq]; have := f0.1; simp; omega, ?_⟩
  refine ix_n (j := 0) (.inl c8) rfl ?_
  try simp only [dSeq, dChain, dOrT, dAndT, dNotT, dGetI_eq, Bool.not_true, Bool.not_false, dAsg, dOp, dVar, dC, gNm, gTp, gCn, gNl, dRet, dIf, dTest, dTru, dNot, dAnd, dOr, dNext, dDrop, dCons, dNil, dTup, dLst, dEmp, dEmpG, dPar, dPar3, dSetI, dCall, dCB, dBM, dBM0, dIfE, dNeg, dSl, dPart, dNoP, dAug, addI, dBreak, dCont, dAlt, dYes, dPairs, dDisp, gSubD, dBMd, addD_ii, addD_ss, addD_tt, subD_ii, mulD_ii, modD_ii, fdivD_ii, powD_ii, ltD_ii, leD_ii, gtD_ii, geD_ii, ltD_ss, leD_ss, eqR_ii, eqR_ss, eqR_tt, eqR_bb, abs_ii, max_ii, min_ii, truD_b, slD_t, slD_s, inR_t, List.map, List.length, List.replicate, List.cons_append, List.nil_append, List.append_nil, List.getElem?_cons_succ, List.getElem?_cons_zero, Option.some.injEq, exists_eq_left', exists_eq_left, ex2, ex3, exists_eq', List.set_cons_succ, List.set_cons_zero, Nat.reduceAdd, Nat.reduceSub, true_and, and_true, D.bl.injEq, D.int.injEq, D.str.injEq, D.ptr.injEq, D.tup.injEq, decide_eq_true_eq, beq_iff_eq, Bool.false_eq_true, if_true, if_false, reduceIte, wipeD, List.foldr_cons, List.foldr_nil, Nat.reduceLeDiff, List.cons.injEq, and_self, List.length_cons, List.length_nil]
  refine ⟨by rw [sizeLine_eq]; have := f0.1; omega, ?_⟩
  refine ix_n (j := 0) (.inl c8) rfl ?_
  try simp only [dSeq, dChain, dOrT, dAndT, dNotT, dGetI_eq, Bool.not_true, Bool.not_false, dAsg, dOp, dVar, dC, gNm, gTp, gCn, gNl, dRet, dIf, dTest, dTru, dNot, dAnd, dOr, dNext, dDrop, dCons, dNil, dTup, dLst, dEmp, dEmpG, dPar, dPar3, dSetI, dCall, dCB, dBM, dBM0, dIfE, dNeg, dSl, dPart, dNoP, dAug, addI, dBreak, dCont, dAlt, dYes, dPairs, dDisp, gSubD, dBMd, addD_ii, addD_ss, addD_tt, subD_ii, mulD_ii, modD_ii, fdivD_ii, powD_ii, ltD_ii, leD_ii, gtD_ii, geD_ii, ltD_ss, leD_ss, eqR_ii, eqR_ss, eqR_tt, eqR_bb, abs_ii, max_ii, min_ii, truD_b, slD_t, slD_s, inR_t, List.map, List.length, List.replicate, List.cons_append, List.nil_append, List.append_nil, List.getElem?_cons_succ, List.getElem?_cons_zero, Option.some.injEq, exists_eq_left', exists_eq_left, ex2, ex3, exists_eq', List.set_cons_succ, List.set_cons_zero, Nat.reduceAdd, Nat.reduceSub, true_and, and_true, D.bl.injEq, D.int.injEq, D.str.injEq, D.ptr.injEq, D.tup.injEq, decide_eq_true_eq, beq_iff_eq, Bool.false_eq_true, if_true, if_false, reduceIte, wipeD, List.foldr_cons, List.foldr_nil, Nat.reduceLeDiff, List.cons.injEq, and_self, List.length_cons, List.length_nil]
  refine ⟨by rw [sizeLine_eq]; have := f0.1; omega, ?_⟩
  refine ix_n (j := 1) (.inl c8) rfl ?_
  try simp only [dSeq, dChain, dOrT, dAndT, dNotT, dGetI_eq, Bool.not_true, Bool.not_false, dAsg, dOp, dVar, dC, gNm, gTp, gCn, gNl, dRet, dIf, dTest, dTru, dNot, dAnd, dOr, dNext, dDrop, dCons, dNil, dTup, dLst, dEmp, dEmpG, dPar, dPar3, dSetI, dCall, dCB, dBM, dBM0, dIfE, dNeg, dSl, dPart, dNoP, dAug, addI, dBreak, dCont, dAlt, dYes, dPairs, dDisp, gSubD, dBMd, addD_ii, addD_ss, addD_tt, subD_ii, mulD_ii, modD_ii, fdivD_ii, powD_ii, ltD_ii, leD_ii, gtD_ii, geD_ii, ltD_ss, leD_ss, eqR_ii, eqR_ss, eqR_tt, eqR_bb, abs_ii, max_ii, min_ii, truD_b, slD_t, slD_s, inR_t, List.map, List.length, List.replicate, List.cons_append, List.nil_append, List.append_nil, List.getElem?_cons_succ, List.getElem?_cons_zero, Option.some.injEq, exists_eq_left', exists_eq_left, ex2, ex3, exists_eq', List.set_cons_succ, List.set_cons_zero, Nat.reduceAdd, Nat.reduceSub, true_and, and_true, D.bl.injEq, D.int.injEq, D.str.injEq, D.ptr.injEq, D.tup.injEq, decide_eq_true_eq, beq_iff_eq, Bool.false_eq_true, if_true, if_false, reduceIte, wipeD, List.foldr_cons, List.foldr_nil, Nat.reduceLeDiff, List.cons.injEq, and_self, List.length_cons, List.length_nil]
  refine ⟨by rw [sizeLine_eq, List.length_append]; have := f0.1; have := f1.1; simp; omega, ?_⟩
  intro r2 hr2
  have d12 : r2 ≠ r1 := ne_fresh c8 hr2
  refine add_ll (at_ne c8 (Ne.symm d12)) up_same (by rw [sizeLine_eq]; simp) fun r3 hr3 => ?_
  try simp only [dSeq, dChain, dOrT, dAndT, dNotT, dGetI_eq, Bool.not_true, Bool.not_false, dAsg, dOp, dVar, dC, gNm, gTp, gCn, gNl, dRet, dIf, dTest, dTru, dNot, dAnd, dOr, dNext, dDrop, dCons, dNil, dTup, dLst, dEmp, dEmpG, dPar, dPar3, dSetI, dCall, dCB, dBM, dBM0, dIfE, dNeg, dSl, dPart, dNoP, dAug, addI, dBreak, dCont, dAlt, dYes, dPairs, dDisp, gSubD, dBMd, addD_ii, addD_ss, addD_tt, subD_ii, mulD_ii, modD_ii, fdivD_ii, powD_ii, ltD_ii, leD_ii, gtD_ii, geD_ii, ltD_ss, leD_ss, eqR_ii, eqR_ss, eqR_tt, eqR_bb, abs_ii, max_ii, min_ii, truD_b, slD_t, slD_s, inR_t, List.map, List.length, List.replicate, List.cons_append, List.nil_append, List.append_nil, List.getElem?_cons_succ, List.getElem?_cons_zero, Option.some.injEq, exists_eq_left', exists_eq_left, ex2, ex3, exists_eq', List.set_cons_succ, List.set_cons_zero, Nat.reduceAdd, Nat.reduceSub, true_and, and_true, D.bl.injEq, D.int.injEq, D.str.injEq, D.ptr.injEq, D.tup.injEq, decide_eq_true_eq, beq_iff_eq, Bool.false_eq_true, if_true, if_false, reduceIte, wipeD, List.foldr_cons, List.foldr_nil, Nat.reduceLeDiff, List.cons.injEq, and_self, List.length_cons, List.length_nil]
  have T7 : ∀ d ∈ [D.str l0, .str l1, .str l2, .str l3, .str (32 :: l0), .str (l0 ++ [32]), .str (l0 ++ [32] ++ l1)], ∃ l, d = .str l ∧ Fine l := by
    intro d hd
    simp only [List.mem_cons, List.not_mem_nil, or_false] at hd
    rcases hd with hd | hd | hd | hd | hd | hd | hd
    · exact ⟨_, hd, f0.fine (by decide)⟩
    · exact ⟨_, hd, f1.fine (by decide)⟩
    · exact ⟨_, hd, f2.fine (by decide)⟩
    · exact ⟨_, hd, f3.fine (by decide)⟩
    · exact ⟨_, hd, (fl_pre1 f0).fine (by decide)⟩
    · exact ⟨_, hd, (fl_app1 f0).fine (by decide)⟩
    · exact ⟨_, hd, ((fl_app1 f0).app f1).fine (by decide)⟩
  generalize hT : [D.str l0, .str l1, .str l2, .str l3, .str (32 :: l0), .str (l0 ++ [32]), .str (l0 ++ [32] ++ l1)] = Tx at T7
  have lT : Tx.length = 7 := by rw [← hT]; rfl
  have hP9 := hP8.up (c := .lst [.str l3, .str (32 :: l0), .str (l0 ++ [32]), .str (l0 ++ [32] ++ l1)]) (hP8.ne hr2)
  have n3 := hP9.ne hr3
  have hP10 := hP9.up (c := .lst Tx) n3
  have c3 : up (up C8 r2 (.lst [.str l3, .str (32 :: l0), .str (l0 ++ [32]), .str (l0 ++ [32] ++ l1)])) r3 (.lst Tx) r3 = some (.lst Tx) := up_same
  generalize up (up C8 r2 (.lst [.str l3, .str (32 :: l0), .str (l0 ++ [32]), .str (l0 ++ [32] ++ l1)])) r3 (.lst Tx) = C10 at c3 hP10
  unfold dLc
  try unfold dRng1
  try simp only [dSeq, dChain, dOrT, dAndT, dNotT, dGetI_eq, Bool.not_true, Bool.not_false, dAsg, dOp, dVar, dC, gNm, gTp, gCn, gNl, dRet, dIf, dTest, dTru, dNot, dAnd, dOr, dNext, dDrop, dCons, dNil, dTup, dLst, dEmp, dEmpG, dPar, dPar3, dSetI, dCall, dCB, dBM, dBM0, dIfE, dNeg, dSl, dPart, dNoP, dAug, addI, dBreak, dCont, dAlt, dYes, dPairs, dDisp, gSubD, dBMd, addD_ii, addD_ss, addD_tt, subD_ii, mulD_ii, modD_ii, fdivD_ii, powD_ii, ltD_ii, leD_ii, gtD_ii, geD_ii, ltD_ss, leD_ss, eqR_ii, eqR_ss, eqR_tt, eqR_bb, abs_ii, max_ii, min_ii, truD_b, slD_t, slD_s, inR_t, List.map, List.length, List.replicate, List.cons_append, List.nil_append, List.append_nil, List.getElem?_cons_succ, List.getElem?_cons_zero, Option.some.injEq, exists_eq_left', exists_eq_left, ex2, ex3, exists_eq', List.set_cons_succ, List.set_cons_zero, Nat.reduceAdd, Nat.reduceSub, true_and, and_true, D.bl.injEq, D.int.injEq, D.str.injEq, D.ptr.injEq, D.tup.injEq, decide_eq_true_eq, beq_iff_eq, Bool.false_eq_true, if_true, if_false, reduceIte, wipeD, List.foldr_cons, List.foldr_nil, Nat.reduceLeDiff, List.cons.injEq, and_self, List.length_cons, List.length_nil]
  intro z4 hz4
  have nz := hP10.ne hz4
  have c3' := at_ne c3 (c' := .lst [.int 4, .int 4, .int 16]) (Ne.symm (ne_fresh c3 hz4))
  refine draw' (hP10.up nz) (by omega) (by decide) (by decide) fun u C11 hu hP11 k11 => ?_
  have big : ∃ g : Nat, 1 ≤ g ∧ g ≤ 16 ∧ [D.int 4, .int 4, .int 16][u]? = some (.int g) := by
    have : u = 0 ∨ u = 1 ∨ u = 2 := by omega
    rcases this with h | h | h
    · subst h; exact ⟨4, by decide, by decide, rfl⟩
    · subst h; exact ⟨4, by decide, by decide, rfl⟩
    · subst h; exact ⟨16, by decide, by decide, rfl⟩
  obtain ⟨g, g1, g2, eg⟩ := big
  refine ix_n (.inl (k11 _ _ nz up_same)) eg ?_
  refine draw' hP11 (by omega) (by omega) (by omega) fun w C12 hw hP12 k12 => ?_
  try simp only [dSeq, dChain, dOrT, dAndT, dNotT, dGetI_eq, Bool.not_true, Bool.not_false, dAsg, dOp, dVar, dC, gNm, gTp, gCn, gNl, dRet, dIf, dTest, dTru, dNot, dAnd, dOr, dNext, dDrop, dCons, dNil, dTup, dLst, dEmp, dEmpG, dPar, dPar3, dSetI, dCall, dCB, dBM, dBM0, dIfE, dNeg, dSl, dPart, dNoP, dAug, addI, dBreak, dCont, dAlt, dYes, dPairs, dDisp, gSubD, dBMd, addD_ii, addD_ss, addD_tt, subD_ii, mulD_ii, modD_ii, fdivD_ii, powD_ii, ltD_ii, leD_ii, gtD_ii, geD_ii, ltD_ss, leD_ss, eqR_ii, eqR_ss, eqR_tt, eqR_bb, abs_ii, max_ii, min_ii, truD_b, slD_t, slD_s, inR_t, List.map, List.length, List.replicate, List.cons_append, List.nil_append, List.append_nil, List.getElem?_cons_succ, List.getElem?_cons_zero, Option.some.injEq, exists_eq_left', exists_eq_left, ex2, ex3, exists_eq', List.set_cons_succ, List.set_cons_zero, Nat.reduceAdd, Nat.reduceSub, true_and, and_true, D.bl.injEq, D.int.injEq, D.str.injEq, D.ptr.injEq, D.tup.injEq, decide_eq_true_eq, beq_iff_eq, Bool.false_eq_true, if_true, if_false, reduceIte, wipeD, List.foldr_cons, List.foldr_nil, Nat.reduceLeDiff, List.cons.injEq, and_self, List.length_cons, List.length_nil]
  have c3_12 := k12 _ _ n3 (k11 _ _ n3 c3')
  refine ⟨by omega, by omega, ?_⟩
  refine ⟨fun i acc C' => ∃ ys : List (List Nat), acc = ys.map D.str ∧ ys.length = i ∧ (∀ y ∈ ys, Fl 64 y) ∧ Pot C' p q (N + 700 + 100 * i) ∧ C' r3 = some (.lst Tx), ⟨[], rfl, rfl, fl_nil, hP12.mono (by omega), c3_12⟩, fun _ _ _ _ _ => trivial, fun i x acc C3 e hp hl => ?_, by rw [rngD_len, sizeLine_eq]; omega, fun acc C13 f hp hf => ?_⟩
  · obtain ⟨hi, rfl⟩ := rng_at e
    have hi : i < w := by simpa using hi
    obtain ⟨ys, rfl, hy, hs, hP3, c3i⟩ := hp
    try simp only [dSeq, dChain, dOrT, dAndT, dNotT, dGetI_eq, Bool.not_true, Bool.not_false, dAsg, dOp, dVar, dC, gNm, gTp, gCn, gNl, dRet, dIf, dTest, dTru, dNot, dAnd, dOr, dNext, dDrop, dCons, dNil, dTup, dLst, dEmp, dEmpG, dPar, dPar3, dSetI, dCall, dCB, dBM, dBM0, dIfE, dNeg, dSl, dPart, dNoP, dAug, addI, dBreak, dCont, dAlt, dYes, dPairs, dDisp, gSubD, dBMd, addD_ii, addD_ss, addD_tt, subD_ii, mulD_ii, modD_ii, fdivD_ii, powD_ii, ltD_ii, leD_ii, gtD_ii, geD_ii, ltD_ss, leD_ss, eqR_ii, eqR_ss, eqR_tt, eqR_bb, abs_ii, max_ii, min_ii, truD_b, slD_t, slD_s, inR_t, List.map, List.length, List.replicate, List.cons_append, List.nil_append, List.append_nil, List.getElem?_cons_succ, List.getElem?_cons_zero, Option.some.injEq, exists_eq_left', exists_eq_left, ex2, ex3, exists_eq', List.set_cons_succ, List.set_cons_zero, Nat.reduceAdd, Nat.reduceSub, true_and, and_true, D.bl.injEq, D.int.injEq, D.str.injEq, D.ptr.injEq, D.tup.injEq, decide_eq_true_eq, beq_iff_eq, Bool.false_eq_true, if_true, if_false, reduceIte, wipeD, List.foldr_cons, List.foldr_nil, Nat.reduceLeDiff, List.cons.injEq, and_self, List.length_cons, List.length_nil]
    refine draw' hP3 (by omega) (by decide) (by decide) fun c C4 hc hP4 k4 => ?_
    try simp only [dSeq, dChain, dOrT, dAndT, dNotT, dGetI_eq, Bool.not_true, Bool.not_false, dAsg, dOp, dVar, dC, gNm, gTp, gCn, gNl, dRet, dIf, dTest, dTru, dNot, dAnd, dOr, dNext, dDrop, dCons, dNil, dTup, dLst, dEmp, dEmpG, dPar, dPar3, dSetI, dCall, dCB, dBM, dBM0, dIfE, dNeg, dSl, dPart, dNoP, dAug, addI, dBreak, dCont, dAlt, dYes, dPairs, dDisp, gSubD, dBMd, addD_ii, addD_ss, addD_tt, subD_ii, mulD_ii, modD_ii, fdivD_ii, powD_ii, ltD_ii, leD_ii, gtD_ii, geD_ii, ltD_ss, leD_ss, eqR_ii, eqR_ss, eqR_tt, eqR_bb, abs_ii, max_ii, min_ii, truD_b, slD_t, slD_s, inR_t, List.map, List.length, List.replicate, List.cons_append, List.nil_append, List.append_nil, List.getElem?_cons_succ, List.getElem?_cons_zero, Option.some.injEq, exists_eq_left', exists_eq_left, ex2, ex3, exists_eq', List.set_cons_succ, List.set_cons_zero, Nat.reduceAdd, Nat.reduceSub, true_and, and_true, D.bl.injEq, D.int.injEq, D.str.injEq, D.ptr.injEq, D.tup.injEq, decide_eq_true_eq, beq_iff_eq, Bool.false_eq_true, if_true, if_false, reduceIte, wipeD, List.foldr_cons, List.foldr_nil, Nat.reduceLeDiff, List.cons.injEq, and_self, List.length_cons, List.length_nil]
    rw [show ((1 : Int) + c) = ((1 + c : Nat) : Int) by omega]
    refine text hP4 (by omega) (by omega) fun l C5 fl hP5 k5 => ?_
    refine ⟨C5, Sub.refl _, ys ++ [l], by rw [List.map_append]; rfl, by rw [List.length_append, hy]; rfl, fun z hz => ?_, hP5.mono (by omega), k5 _ _ n3 (k4 _ _ n3 c3i)⟩
    rcases List.mem_append.mp hz with hz | hz
    · exact hs z hz
    · rw [List.mem_singleton.mp hz]
      exact fl
  obtain ⟨ys, rfl, hy, hs, hP13, c3_13⟩ := hp
  rw [rngD_len] at hy hP13
  have hy : ys.length ≤ 15 := by simp at hy; omega
  have hP13 : Pot C13 p q (N + 2500) := hP13.mono (by simp; omega)
  refine tuple_l (.inl up_same) ?_
  have hP14 := hP13.up (c := .lst (ys.map D.str)) (hP13.ne hf)
  have c3_14 := at_ne c3_13 (c' := .lst (ys.map D.str)) (Ne.symm (ne_fresh c3_13 hf))
  generalize up C13 f (.lst (ys.map D.str)) = C14 at hP14 c3_14
  try simp only [dSeq, dChain, dOrT, dAndT, dNotT, dGetI_eq, Bool.not_true, Bool.not_false, dAsg, dOp, dVar, dC, gNm, gTp, gCn, gNl, dRet, dIf, dTest, dTru, dNot, dAnd, dOr, dNext, dDrop, dCons, dNil, dTup, dLst, dEmp, dEmpG, dPar, dPar3, dSetI, dCall, dCB, dBM, dBM0, dIfE, dNeg, dSl, dPart, dNoP, dAug, addI, dBreak, dCont, dAlt, dYes, dPairs, dDisp, gSubD, dBMd, addD_ii, addD_ss, addD_tt, subD_ii, mulD_ii, modD_ii, fdivD_ii, powD_ii, ltD_ii, leD_ii, gtD_ii, geD_ii, ltD_ss, leD_ss, eqR_ii, eqR_ss, eqR_tt, eqR_bb, abs_ii, max_ii, min_ii, truD_b, slD_t, slD_s, inR_t, List.map, List.length, List.replicate, List.cons_append, List.nil_append, List.append_nil, List.getElem?_cons_succ, List.getElem?_cons_zero, Option.some.injEq, exists_eq_left', exists_eq_left, ex2, ex3, exists_eq', List.set_cons_succ, List.set_cons_zero, Nat.reduceAdd, Nat.reduceSub, true_and, and_true, D.bl.injEq, D.int.injEq, D.str.injEq, D.ptr.injEq, D.tup.injEq, decide_eq_true_eq, beq_iff_eq, Bool.false_eq_true, if_true, if_false, reduceIte, wipeD, List.foldr_cons, List.foldr_nil, Nat.reduceLeDiff, List.cons.injEq, and_self, List.length_cons, List.length_nil]
  intro o1 ho1 o2 ho2 o3 ho3
  have m1 := hP14.ne ho1
  have hP15 := hP14.up (c := .lst [.str [97]]) m1
  have m2 := hP15.ne ho2
  have hP16 := hP15.up (c := .dk []) m2
  have m3 := hP16.ne ho3
  have hP17 := hP16.up (c := .lst [.non, .int 1, .bl true, .tup [], .tup [.str [97]], .ptr o1, .str [], .str [97, 47, 98], .int 0, .ptr o2]) m3
  have o21 : o2 ≠ o1 := ne_fresh up_same ho2
  have q1 := at_ne (C := up C14 o1 (.lst [.str [97]])) (c := .lst [.str [97]]) up_same (c' := .dk []) (Ne.symm o21)
  have o31 : o3 ≠ o1 := ne_fresh q1 ho3
  have o32 : o3 ≠ o2 := ne_fresh up_same ho3
  have w1 := at_ne q1 (c' := .lst [.non, .int 1, .bl true, .tup [], .tup [.str [97]], .ptr o1, .str [], .str [97, 47, 98], .int 0, .ptr o2]) (Ne.symm o31)
  have w2 := at_ne (C := up (up C14 o1 (.lst [.str [97]])) o2 (.dk [])) (c := .dk []) up_same (c' := .lst [.non, .int 1, .bl true, .tup [], .tup [.str [97]], .ptr o1, .str [], .str [97, 47, 98], .int 0, .ptr o2]) (Ne.symm o32)
  have w3 := at_ne (at_ne (at_ne c3_14 (c' := .lst [.str [97]]) (Ne.symm (ne_fresh c3_14 ho1))) (c' := .dk []) (Ne.symm (ne_fresh (at_ne c3_14 (Ne.symm (ne_fresh c3_14 ho1))) ho2))) (c' := .lst [.non, .int 1, .bl true, .tup [], .tup [.str [97]], .ptr o1, .str [], .str [97, 47, 98], .int 0, .ptr o2]) (Ne.symm (ne_fresh (at_ne (at_ne c3_14 (Ne.symm (ne_fresh c3_14 ho1))) (Ne.symm (ne_fresh (at_ne c3_14 (Ne.symm (ne_fresh c3_14 ho1))) ho2))) ho3))
  have w4 : (up (up (up C14 o1 (.lst [.str [97]])) o2 (.dk [])) o3 (.lst [.non, .int 1, .bl true, .tup [], .tup [.str [97]], .ptr o1, .str [], .str [97, 47, 98], .int 0, .ptr o2])) o3 = some (.lst [.non, .int 1, .bl true, .tup [], .tup [.str [97]], .ptr o1, .str [], .str [97, 47, 98], .int 0, .ptr o2]) := up_same
  generalize (up (up (up C14 o1 (.lst [.str [97]])) o2 (.dk [])) o3 (.lst [.non, .int 1, .bl true, .tup [], .tup [.str [97]], .ptr o1, .str [], .str [97, 47, 98], .int 0, .ptr o2])) = C17 at hP17 w1 w2 w3 w4
  refine pick_l hP17 (by omega) (.inl w4) m3 (by simp) (by simp) fun odd C18 ho hP18 k18 => ?_
  have fa : Fine [97] := ⟨by decide, by decide⟩
  have tOdd : T0 p q C18 odd := by
    refine T0.kp ?_ k18
    simp only [List.mem_cons, List.not_mem_nil, or_false] at ho
    rcases ho with h | h | h | h | h | h | h | h | h | h <;> subst h
    · exact .inr (.inr ⟨.inl rfl, fun a h => nomatch h⟩)
    · exact .inr (.inr ⟨.inr (.inr (.inl ⟨_, rfl⟩)), fun a h => nomatch h⟩)
    · exact .inr (.inr ⟨.inr (.inl ⟨_, rfl⟩), fun a h => nomatch h⟩)
    · exact .inr (.inl ⟨_, rfl⟩)
    · exact .inr (.inl ⟨_, rfl⟩)
    · exact .inr (.inr ⟨.inr (.inr (.inr ⟨o1, rfl, .inl ⟨_, w1⟩⟩)), fun a h => by cases h; exact m1⟩)
    · exact fine_s ⟨by decide, by decide⟩
    · exact fine_s ⟨by decide, by decide⟩
    · exact .inr (.inr ⟨.inr (.inr (.inl ⟨_, rfl⟩)), fun a h => nomatch h⟩)
    · exact .inr (.inr ⟨.inr (.inr (.inr ⟨o2, rfl, .inr ⟨_, w2⟩⟩)), fun a h => by cases h; exact m2⟩)
  have c3_18 := k18 _ _ n3 w3
  try simp only [dSeq, dChain, dOrT, dAndT, dNotT, dGetI_eq, Bool.not_true, Bool.not_false, dAsg, dOp, dVar, dC, gNm, gTp, gCn, gNl, dRet, dIf, dTest, dTru, dNot, dAnd, dOr, dNext, dDrop, dCons, dNil, dTup, dLst, dEmp, dEmpG, dPar, dPar3, dSetI, dCall, dCB, dBM, dBM0, dIfE, dNeg, dSl, dPart, dNoP, dAug, addI, dBreak, dCont, dAlt, dYes, dPairs, dDisp, gSubD, dBMd, addD_ii, addD_ss, addD_tt, subD_ii, mulD_ii, modD_ii, fdivD_ii, powD_ii, ltD_ii, leD_ii, gtD_ii, geD_ii, ltD_ss, leD_ss, eqR_ii, eqR_ss, eqR_tt, eqR_bb, abs_ii, max_ii, min_ii, truD_b, slD_t, slD_s, inR_t, List.map, List.length, List.replicate, List.cons_append, List.nil_append, List.append_nil, List.getElem?_cons_succ, List.getElem?_cons_zero, Option.some.injEq, exists_eq_left', exists_eq_left, ex2, ex3, exists_eq', List.set_cons_succ, List.set_cons_zero, Nat.reduceAdd, Nat.reduceSub, true_and, and_true, D.bl.injEq, D.int.injEq, D.str.injEq, D.ptr.injEq, D.tup.injEq, decide_eq_true_eq, beq_iff_eq, Bool.false_eq_true, if_true, if_false, reduceIte, wipeD, List.foldr_cons, List.foldr_nil, Nat.reduceLeDiff, List.cons.injEq, and_self, List.length_cons, List.length_nil]
  refine len_t ?_
  try simp only [dSeq, dChain, dOrT, dAndT, dNotT, dGetI_eq, Bool.not_true, Bool.not_false, dAsg, dOp, dVar, dC, gNm, gTp, gCn, gNl, dRet, dIf, dTest, dTru, dNot, dAnd, dOr, dNext, dDrop, dCons, dNil, dTup, dLst, dEmp, dEmpG, dPar, dPar3, dSetI, dCall, dCB, dBM, dBM0, dIfE, dNeg, dSl, dPart, dNoP, dAug, addI, dBreak, dCont, dAlt, dYes, dPairs, dDisp, gSubD, dBMd, addD_ii, addD_ss, addD_tt, subD_ii, mulD_ii, modD_ii, fdivD_ii, powD_ii, ltD_ii, leD_ii, gtD_ii, geD_ii, ltD_ss, leD_ss, eqR_ii, eqR_ss, eqR_tt, eqR_bb, abs_ii, max_ii, min_ii, truD_b, slD_t, slD_s, inR_t, List.map, List.length, List.replicate, List.cons_append, List.nil_append, List.append_nil, List.getElem?_cons_succ, List.getElem?_cons_zero, Option.some.injEq, exists_eq_left', exists_eq_left, ex2, ex3, exists_eq', List.set_cons_succ, List.set_cons_zero, Nat.reduceAdd, Nat.reduceSub, true_and, and_true, D.bl.injEq, D.int.injEq, D.str.injEq, D.ptr.injEq, D.tup.injEq, decide_eq_true_eq, beq_iff_eq, Bool.false_eq_true, if_true, if_false, reduceIte, wipeD, List.foldr_cons, List.foldr_nil, Nat.reduceLeDiff, List.cons.injEq, and_self, List.length_cons, List.length_nil]
  rw [List.length_map]
  refine draw' hP18 (by omega) (by omega) (by omega) fun at' C19 ha hP19 k19 => ?_
  have tOdd := tOdd.kp k19
  have c3_19 := k19 _ _ n3 c3_18
  try simp only [dSeq, dChain, dOrT, dAndT, dNotT, dGetI_eq, Bool.not_true, Bool.not_false, dAsg, dOp, dVar, dC, gNm, gTp, gCn, gNl, dRet, dIf, dTest, dTru, dNot, dAnd, dOr, dNext, dDrop, dCons, dNil, dTup, dLst, dEmp, dEmpG, dPar, dPar3, dSetI, dCall, dCB, dBM, dBM0, dIfE, dNeg, dSl, dPart, dNoP, dAug, addI, dBreak, dCont, dAlt, dYes, dPairs, dDisp, gSubD, dBMd, addD_ii, addD_ss, addD_tt, subD_ii, mulD_ii, modD_ii, fdivD_ii, powD_ii, ltD_ii, leD_ii, gtD_ii, geD_ii, ltD_ss, leD_ss, eqR_ii, eqR_ss, eqR_tt, eqR_bb, abs_ii, max_ii, min_ii, truD_b, slD_t, slD_s, inR_t, List.map, List.length, List.replicate, List.cons_append, List.nil_append, List.append_nil, List.getElem?_cons_succ, List.getElem?_cons_zero, Option.some.injEq, exists_eq_left', exists_eq_left, ex2, ex3, exists_eq', List.set_cons_succ, List.set_cons_zero, Nat.reduceAdd, Nat.reduceSub, true_and, and_true, D.bl.injEq, D.int.injEq, D.str.injEq, D.ptr.injEq, D.tup.injEq, decide_eq_true_eq, beq_iff_eq, Bool.false_eq_true, if_true, if_false, reduceIte, wipeD, List.foldr_cons, List.foldr_nil, Nat.reduceLeDiff, List.cons.injEq, and_self, List.length_cons, List.length_nil]
  rw [cut_take, cut_drop]
  have lt1 := List.length_take_le at' (ys.map D.str)
  have lt2 : ((ys.map D.str).drop at').length ≤ 15 := by rw [List.length_drop, List.length_map]; omega
  have lt3 : ((ys.map D.str).take at').length ≤ 15 := by rw [List.length_take, List.length_map]; omega
  refine ⟨by rw [sizeLine_eq]; omega, by rw [sizeLine_eq, List.length_append]; simp at lt2 lt3 ⊢; omega, by rw [sizeLine_eq]; (try rw [List.length_map]); omega, ?_⟩
  refine list_l (show itemsD C19 (.tup (ys.map D.str)) (ys.map D.str) from rfl) fun r4 hr4 => ?_
  try simp only [dSeq, dChain, dOrT, dAndT, dNotT, dGetI_eq, Bool.not_true, Bool.not_false, dAsg, dOp, dVar, dC, gNm, gTp, gCn, gNl, dRet, dIf, dTest, dTru, dNot, dAnd, dOr, dNext, dDrop, dCons, dNil, dTup, dLst, dEmp, dEmpG, dPar, dPar3, dSetI, dCall, dCB, dBM, dBM0, dIfE, dNeg, dSl, dPart, dNoP, dAug, addI, dBreak, dCont, dAlt, dYes, dPairs, dDisp, gSubD, dBMd, addD_ii, addD_ss, addD_tt, subD_ii, mulD_ii, modD_ii, fdivD_ii, powD_ii, ltD_ii, leD_ii, gtD_ii, geD_ii, ltD_ss, leD_ss, eqR_ii, eqR_ss, eqR_tt, eqR_bb, abs_ii, max_ii, min_ii, truD_b, slD_t, slD_s, inR_t, List.map, List.length, List.replicate, List.cons_append, List.nil_append, List.append_nil, List.getElem?_cons_succ, List.getElem?_cons_zero, Option.some.injEq, exists_eq_left', exists_eq_left, ex2, ex3, exists_eq', List.set_cons_succ, List.set_cons_zero, Nat.reduceAdd, Nat.reduceSub, true_and, and_true, D.bl.injEq, D.int.injEq, D.str.injEq, D.ptr.injEq, D.tup.injEq, decide_eq_true_eq, beq_iff_eq, Bool.false_eq_true, if_true, if_false, reduceIte, wipeD, List.foldr_cons, List.foldr_nil, Nat.reduceLeDiff, List.cons.injEq, and_self, List.length_cons, List.length_nil]
  have n4 := hP19.ne hr4
  have jf := join_fl ys hs
  refine ⟨rfl, [47], .tup (ys.map D.str), ys, rfl, rfl, rfl, ?_, ?_⟩
  · have := sum_short (m := 64) (xs := ys) fun y hy => (hs y hy).1
    simp
    omega
  try simp only [dSeq, dChain, dOrT, dAndT, dNotT, dGetI_eq, Bool.not_true, Bool.not_false, dAsg, dOp, dVar, dC, gNm, gTp, gCn, gNl, dRet, dIf, dTest, dTru, dNot, dAnd, dOr, dNext, dDrop, dCons, dNil, dTup, dLst, dEmp, dEmpG, dPar, dPar3, dSetI, dCall, dCB, dBM, dBM0, dIfE, dNeg, dSl, dPart, dNoP, dAug, addI, dBreak, dCont, dAlt, dYes, dPairs, dDisp, gSubD, dBMd, addD_ii, addD_ss, addD_tt, subD_ii, mulD_ii, modD_ii, fdivD_ii, powD_ii, ltD_ii, leD_ii, gtD_ii, geD_ii, ltD_ss, leD_ss, eqR_ii, eqR_ss, eqR_tt, eqR_bb, abs_ii, max_ii, min_ii, truD_b, slD_t, slD_s, inR_t, List.map, List.length, List.replicate, List.cons_append, List.nil_append, List.append_nil, List.getElem?_cons_succ, List.getElem?_cons_zero, Option.some.injEq, exists_eq_left', exists_eq_left, ex2, ex3, exists_eq', List.set_cons_succ, List.set_cons_zero, Nat.reduceAdd, Nat.reduceSub, true_and, and_true, D.bl.injEq, D.int.injEq, D.str.injEq, D.ptr.injEq, D.tup.injEq, decide_eq_true_eq, beq_iff_eq, Bool.false_eq_true, if_true, if_false, reduceIte, wipeD, List.foldr_cons, List.foldr_nil, Nat.reduceLeDiff, List.cons.injEq, and_self, List.length_cons, List.length_nil]
  intro r5 hr5
  have hP20 := (hP19.up (c := .lst (ys.map D.str)) n4)
  have c3_20 := at_ne c3_19 (c' := .lst (ys.map D.str)) (Ne.symm (ne_fresh c3_19 hr4))
  have c4_20 : up C19 r4 (.lst (ys.map D.str)) r4 = some (.lst (ys.map D.str)) := up_same
  have k20 : Kp (S2 p q) C19 (up C19 r4 (.lst (ys.map D.str))) := (Kp.refl _).new hr4
  have tOdd := tOdd.kp k20
  generalize up C19 r4 (.lst (ys.map D.str)) = C20 at hP20 c3_20 c4_20 tOdd hr5
  have sT : ∀ d ∈ ys.map D.str, ∃ l, d = .str l ∧ Fine l := fun d hd => by
    obtain ⟨y, hy', rfl⟩ := List.mem_map.mp hd
    exact ⟨y, rfl, (hs y hy').fine (by decide)⟩
  generalize joinD [47] ys = jn at jf
  refine add_ll (at_ne c3_20 (Ne.symm (ne_fresh c3_20 hr5))) up_same (by rw [sizeLine_eq, lT]; simp) fun r6 hr6 => ?_
  try simp only [dSeq, dChain, dOrT, dAndT, dNotT, dGetI_eq, Bool.not_true, Bool.not_false, dAsg, dOp, dVar, dC, gNm, gTp, gCn, gNl, dRet, dIf, dTest, dTru, dNot, dAnd, dOr, dNext, dDrop, dCons, dNil, dTup, dLst, dEmp, dEmpG, dPar, dPar3, dSetI, dCall, dCB, dBM, dBM0, dIfE, dNeg, dSl, dPart, dNoP, dAug, addI, dBreak, dCont, dAlt, dYes, dPairs, dDisp, gSubD, dBMd, addD_ii, addD_ss, addD_tt, subD_ii, mulD_ii, modD_ii, fdivD_ii, powD_ii, ltD_ii, leD_ii, gtD_ii, geD_ii, ltD_ss, leD_ss, eqR_ii, eqR_ss, eqR_tt, eqR_bb, abs_ii, max_ii, min_ii, truD_b, slD_t, slD_s, inR_t, List.map, List.length, List.replicate, List.cons_append, List.nil_append, List.append_nil, List.getElem?_cons_succ, List.getElem?_cons_zero, Option.some.injEq, exists_eq_left', exists_eq_left, ex2, ex3, exists_eq', List.set_cons_succ, List.set_cons_zero, Nat.reduceAdd, Nat.reduceSub, true_and, and_true, D.bl.injEq, D.int.injEq, D.str.injEq, D.ptr.injEq, D.tup.injEq, decide_eq_true_eq, beq_iff_eq, Bool.false_eq_true, if_true, if_false, reduceIte, wipeD, List.foldr_cons, List.foldr_nil, Nat.reduceLeDiff, List.cons.injEq, and_self, List.length_cons, List.length_nil]
  have n5 := hP20.ne hr5
  have n6 := (hP20.up (c := .lst [.tup (ys.map D.str), .tup ((ys.map D.str).take at' ++ [odd] ++ (ys.map D.str).drop at'), .tup (ys.map D.str ++ ys.map D.str), .ptr r4, .tup [.tup (ys.map D.str)], .str jn]) n5).ne hr6
  have s0 : ∀ d ∈ ys.map D.str, T0 p q C20 d := fun d hd => .inl (sT d hd)
  have lys : (ys.map D.str).length ≤ 15 := by rw [List.length_map]; exact hy
  have t6 : ∀ d ∈ Tx ++ [.tup (ys.map D.str), .tup ((ys.map D.str).take at' ++ [odd] ++ (ys.map D.str).drop at'), .tup (ys.map D.str ++ ys.map D.str), .ptr r4, .tup [.tup (ys.map D.str)], .str jn], TS p q C20 d := by
    intro d hd
    rcases List.mem_append.mp hd with hd | hd
    · exact .inl (T7 d hd)
    · simp only [List.mem_cons, List.not_mem_nil, or_false] at hd
      rcases hd with h | h | h | h | h | h
      · exact .inr (.inl ⟨_, h, by omega, s0⟩)
      · refine .inr (.inl ⟨_, h, ?_, fun e he => ?_⟩)
        · simp only [List.length_append, List.length_cons, List.length_nil]
          omega
        · rcases List.mem_append.mp he with he | he
          · rcases List.mem_append.mp he with he | he
            · exact s0 e (List.mem_of_mem_take he)
            · rw [List.mem_singleton.mp he]; exact tOdd
          · exact s0 e (List.mem_of_mem_drop he)
      · refine .inr (.inl ⟨_, h, ?_, fun e he => ?_⟩)
        · rw [List.length_append]
          omega
        · exact (List.mem_append.mp he).elim (s0 e) (s0 e)
      · refine .inr (.inr ⟨.inr (.inr (.inr ⟨r4, h, .inl ⟨_, c4_20⟩⟩)), fun a ha => ?_⟩)
        rw [h] at ha
        cases ha
        exact n4
      · refine .inr (.inl ⟨_, h, by simp, fun e he => ?_⟩)
        rw [List.mem_singleton.mp he]
        exact .inr (.inl ⟨_, rfl⟩)
      · exact .inl ⟨jn, h, jf.fine (by omega)⟩
  generalize hL6 : Tx ++ [.tup (ys.map D.str), .tup ((ys.map D.str).take at' ++ [odd] ++ (ys.map D.str).drop at'), .tup (ys.map D.str ++ ys.map D.str), .ptr r4, .tup [.tup (ys.map D.str)], .str jn] = L6 at t6
  have l6 : L6.length = 13 := by rw [← hL6, List.length_append, lT]; rfl
  have hP21 := (hP20.up (c := .lst [.tup (ys.map D.str), .tup ((ys.map D.str).take at' ++ [odd] ++ (ys.map D.str).drop at'), .tup (ys.map D.str ++ ys.map D.str), .ptr r4, .tup [.tup (ys.map D.str)], .str jn]) n5).up (c := .lst L6) n6
  have k21 : Kp (S2 p q) C20 (up (up C20 r5 (.lst [.tup (ys.map D.str), .tup ((ys.map D.str).take at' ++ [odd] ++ (ys.map D.str).drop at'), .tup (ys.map D.str ++ ys.map D.str), .ptr r4, .tup [.tup (ys.map D.str)], .str jn])) r6 (.lst L6)) := ((Kp.refl _).new hr5).new hr6
  have c21 : (up (up C20 r5 (.lst [.tup (ys.map D.str), .tup ((ys.map D.str).take at' ++ [odd] ++ (ys.map D.str).drop at'), .tup (ys.map D.str ++ ys.map D.str), .ptr r4, .tup [.tup (ys.map D.str)], .str jn])) r6 (.lst L6)) r6 = some (.lst L6) := up_same
  have t6 := fun d hd => (t6 d hd).kp k21
  generalize (up (up C20 r5 (.lst [.tup (ys.map D.str), .tup ((ys.map D.str).take at' ++ [odd] ++ (ys.map D.str).drop at'), .tup (ys.map D.str ++ ys.map D.str), .ptr r4, .tup [.tup (ys.map D.str)], .str jn])) r6 (.lst L6)) = C21 at hP21 c21 t6
  try unfold dLc
  try unfold dRng1
  try simp only [dSeq, dChain, dOrT, dAndT, dNotT, dGetI_eq, Bool.not_true, Bool.not_false, dAsg, dOp, dVar, dC, gNm, gTp, gCn, gNl, dRet, dIf, dTest, dTru, dNot, dAnd, dOr, dNext, dDrop, dCons, dNil, dTup, dLst, dEmp, dEmpG, dPar, dPar3, dSetI, dCall, dCB, dBM, dBM0, dIfE, dNeg, dSl, dPart, dNoP, dAug, addI, dBreak, dCont, dAlt, dYes, dPairs, dDisp, gSubD, dBMd, addD_ii, addD_ss, addD_tt, subD_ii, mulD_ii, modD_ii, fdivD_ii, powD_ii, ltD_ii, leD_ii, gtD_ii, geD_ii, ltD_ss, leD_ss, eqR_ii, eqR_ss, eqR_tt, eqR_bb, abs_ii, max_ii, min_ii, truD_b, slD_t, slD_s, inR_t, List.map, List.length, List.replicate, List.cons_append, List.nil_append, List.append_nil, List.getElem?_cons_succ, List.getElem?_cons_zero, Option.some.injEq, exists_eq_left', exists_eq_left, ex2, ex3, exists_eq', List.set_cons_succ, List.set_cons_zero, Nat.reduceAdd, Nat.reduceSub, true_and, and_true, D.bl.injEq, D.int.injEq, D.str.injEq, D.ptr.injEq, D.tup.injEq, decide_eq_true_eq, beq_iff_eq, Bool.false_eq_true, if_true, if_false, reduceIte, wipeD, List.foldr_cons, List.foldr_nil, Nat.reduceLeDiff, List.cons.injEq, and_self, List.length_cons, List.length_nil]
  refine draw' hP21 (by omega) (by decide) (by decide) fun w2 C22 hw2 hP22 k22 => ?_
  have t6 := fun d hd => (t6 d hd).kp k22
  have c22 := k22 _ _ n6 c21
  try simp only [dSeq, dChain, dOrT, dAndT, dNotT, dGetI_eq, Bool.not_true, Bool.not_false, dAsg, dOp, dVar, dC, gNm, gTp, gCn, gNl, dRet, dIf, dTest, dTru, dNot, dAnd, dOr, dNext, dDrop, dCons, dNil, dTup, dLst, dEmp, dEmpG, dPar, dPar3, dSetI, dCall, dCB, dBM, dBM0, dIfE, dNeg, dSl, dPart, dNoP, dAug, addI, dBreak, dCont, dAlt, dYes, dPairs, dDisp, gSubD, dBMd, addD_ii, addD_ss, addD_tt, subD_ii, mulD_ii, modD_ii, fdivD_ii, powD_ii, ltD_ii, leD_ii, gtD_ii, geD_ii, ltD_ss, leD_ss, eqR_ii, eqR_ss, eqR_tt, eqR_bb, abs_ii, max_ii, min_ii, truD_b, slD_t, slD_s, inR_t, List.map, List.length, List.replicate, List.cons_append, List.nil_append, List.append_nil, List.getElem?_cons_succ, List.getElem?_cons_zero, Option.some.injEq, exists_eq_left', exists_eq_left, ex2, ex3, exists_eq', List.set_cons_succ, List.set_cons_zero, Nat.reduceAdd, Nat.reduceSub, true_and, and_true, D.bl.injEq, D.int.injEq, D.str.injEq, D.ptr.injEq, D.tup.injEq, decide_eq_true_eq, beq_iff_eq, Bool.false_eq_true, if_true, if_false, reduceIte, wipeD, List.foldr_cons, List.foldr_nil, Nat.reduceLeDiff, List.cons.injEq, and_self, List.length_cons, List.length_nil]
  refine ⟨by omega, by omega, ?_⟩
  refine ⟨fun i acc C' => (∃ zs : List (List Nat), acc = zs.map D.str ∧ zs.length = i ∧ ∀ y ∈ zs, Fine y) ∧ C' = C22, ⟨⟨[], rfl, rfl, fine_nil⟩, rfl⟩, fun _ _ _ _ _ => trivial, fun i x acc C3 e hp hl => ?_, by rw [rngD_len, sizeLine_eq]; omega, fun acc C23 f2 hp hf2 => ?_⟩
  · obtain ⟨hi, rfl⟩ := rng_at e
    obtain ⟨⟨zs, rfl, hy2, hs2⟩, rfl⟩ := hp
    try simp only [dSeq, dChain, dOrT, dAndT, dNotT, dGetI_eq, Bool.not_true, Bool.not_false, dAsg, dOp, dVar, dC, gNm, gTp, gCn, gNl, dRet, dIf, dTest, dTru, dNot, dAnd, dOr, dNext, dDrop, dCons, dNil, dTup, dLst, dEmp, dEmpG, dPar, dPar3, dSetI, dCall, dCB, dBM, dBM0, dIfE, dNeg, dSl, dPart, dNoP, dAug, addI, dBreak, dCont, dAlt, dYes, dPairs, dDisp, gSubD, dBMd, addD_ii, addD_ss, addD_tt, subD_ii, mulD_ii, modD_ii, fdivD_ii, powD_ii, ltD_ii, leD_ii, gtD_ii, geD_ii, ltD_ss, leD_ss, eqR_ii, eqR_ss, eqR_tt, eqR_bb, abs_ii, max_ii, min_ii, truD_b, slD_t, slD_s, inR_t, List.map, List.length, List.replicate, List.cons_append, List.nil_append, List.append_nil, List.getElem?_cons_succ, List.getElem?_cons_zero, Option.some.injEq, exists_eq_left', exists_eq_left, ex2, ex3, exists_eq', List.set_cons_succ, List.set_cons_zero, Nat.reduceAdd, Nat.reduceSub, true_and, and_true, D.bl.injEq, D.int.injEq, D.str.injEq, D.ptr.injEq, D.tup.injEq, decide_eq_true_eq, beq_iff_eq, Bool.false_eq_true, if_true, if_false, reduceIte, wipeD, List.foldr_cons, List.foldr_nil, Nat.reduceLeDiff, List.cons.injEq, and_self, List.length_cons, List.length_nil]
    have e0 := Int.emod_nonneg (i : Int) (b := 12) (by decide)
    have e1 := Int.emod_lt_of_pos (i : Int) (b := 12) (by decide)
    refine ⟨by decide, [97], 1 + (i : Int) % 12, rfl, rfl, by omega, by omega, by rw [sizeLine_eq]; simp; omega, ?_⟩
    refine ⟨C3, Sub.refl _, ⟨zs ++ [(List.replicate (1 + (i : Int) % 12).toNat [97]).flatten], by rw [List.map_append]; rfl, by rw [List.length_append, hy2]; rfl, fun z hz => ?_⟩, rfl⟩
    rcases List.mem_append.mp hz with hz | hz
    · exact hs2 z hz
    · rw [List.mem_singleton.mp hz]
      refine ⟨by simp; omega, fun c hc => ?_⟩
      have : c = 97 := by
        obtain ⟨s, hs3, hc⟩ := List.mem_flatten.mp hc
        rw [List.eq_of_mem_replicate hs3] at hc
        exact List.mem_singleton.mp hc
      subst this
      exact .inr (by omega)
  obtain ⟨⟨zs, rfl, hy2, hs2⟩, rfl⟩ := hp
  rw [rngD_len] at hy2
  refine tuple_l (.inl up_same) ?_
  have c23 := at_ne c22 (c' := .lst (zs.map D.str)) (Ne.symm (ne_fresh c22 hf2))
  have k23 : Kp (S2 p q) C23 (up C23 f2 (.lst (zs.map D.str))) := (Kp.refl _).new hf2
  have t6 := fun d hd => (t6 d hd).kp k23
  have hP23 := hP22.up (c := .lst (zs.map D.str)) (hP22.ne hf2)
  generalize up C23 f2 (.lst (zs.map D.str)) = C24 at c23 t6 hP23
  try simp only [dSeq, dChain, dOrT, dAndT, dNotT, dGetI_eq, Bool.not_true, Bool.not_false, dAsg, dOp, dVar, dC, gNm, gTp, gCn, gNl, dRet, dIf, dTest, dTru, dNot, dAnd, dOr, dNext, dDrop, dCons, dNil, dTup, dLst, dEmp, dEmpG, dPar, dPar3, dSetI, dCall, dCB, dBM, dBM0, dIfE, dNeg, dSl, dPart, dNoP, dAug, addI, dBreak, dCont, dAlt, dYes, dPairs, dDisp, gSubD, dBMd, addD_ii, addD_ss, addD_tt, subD_ii, mulD_ii, modD_ii, fdivD_ii, powD_ii, ltD_ii, leD_ii, gtD_ii, geD_ii, ltD_ss, leD_ss, eqR_ii, eqR_ss, eqR_tt, eqR_bb, abs_ii, max_ii, min_ii, truD_b, slD_t, slD_s, inR_t, List.map, List.length, List.replicate, List.cons_append, List.nil_append, List.append_nil, List.getElem?_cons_succ, List.getElem?_cons_zero, Option.some.injEq, exists_eq_left', exists_eq_left, ex2, ex3, exists_eq', List.set_cons_succ, List.set_cons_zero, Nat.reduceAdd, Nat.reduceSub, true_and, and_true, D.bl.injEq, D.int.injEq, D.str.injEq, D.ptr.injEq, D.tup.injEq, decide_eq_true_eq, beq_iff_eq, Bool.false_eq_true, if_true, if_false, reduceIte, wipeD, List.foldr_cons, List.foldr_nil, Nat.reduceLeDiff, List.cons.injEq, and_self, List.length_cons, List.length_nil]
  have lz : (zs.map D.str).length ≤ 40 := by rw [List.length_map, hy2]; simp; omega
  have f13 : Fine (List.replicate 13 [97]).flatten := ⟨by decide, by decide⟩
  refine ⟨[97], 13, rfl, rfl, by decide, by decide, by rw [sizeLine_eq]; decide, ?_⟩
  try simp only [dSeq, dChain, dOrT, dAndT, dNotT, dGetI_eq, Bool.not_true, Bool.not_false, dAsg, dOp, dVar, dC, gNm, gTp, gCn, gNl, dRet, dIf, dTest, dTru, dNot, dAnd, dOr, dNext, dDrop, dCons, dNil, dTup, dLst, dEmp, dEmpG, dPar, dPar3, dSetI, dCall, dCB, dBM, dBM0, dIfE, dNeg, dSl, dPart, dNoP, dAug, addI, dBreak, dCont, dAlt, dYes, dPairs, dDisp, gSubD, dBMd, addD_ii, addD_ss, addD_tt, subD_ii, mulD_ii, modD_ii, fdivD_ii, powD_ii, ltD_ii, leD_ii, gtD_ii, geD_ii, ltD_ss, leD_ss, eqR_ii, eqR_ss, eqR_tt, eqR_bb, abs_ii, max_ii, min_ii, truD_b, slD_t, slD_s, inR_t, List.map, List.length, List.replicate, List.cons_append, List.nil_append, List.append_nil, List.getElem?_cons_succ, List.getElem?_cons_zero, Option.some.injEq, exists_eq_left', exists_eq_left, ex2, ex3, exists_eq', List.set_cons_succ, List.set_cons_zero, Nat.reduceAdd, Nat.reduceSub, true_and, and_true, D.bl.injEq, D.int.injEq, D.str.injEq, D.ptr.injEq, D.tup.injEq, decide_eq_true_eq, beq_iff_eq, Bool.false_eq_true, if_true, if_false, reduceIte, wipeD, List.foldr_cons, List.foldr_nil, Nat.reduceLeDiff, List.cons.injEq, and_self, List.length_cons, List.length_nil]
  refine ⟨by rw [sizeLine_eq]; simp at lz ⊢; omega, ?_⟩
  intro a1 ha1 a2 ha2
  refine ⟨[(.inr [97], .int 1)], rfl, by simp, fun a3 ha3 => ?_⟩
  intro a4 ha4
  have b1 := hP23.ne ha1
  have hP25 := hP23.up (c := .lst []) b1
  have b2 := hP25.ne ha2
  have hP26 := hP25.up (c := .dk []) b2
  have b3 := hP26.ne ha3
  have hP27 := hP26.up (c := .dk (mergeA [] [(.inr [97], .int 1)])) b3
  have b4 := hP27.ne ha4
  have x21 : a2 ≠ a1 := ne_fresh up_same ha2
  have y1 := at_ne (C := up C24 a1 (.lst [])) (c := .lst []) up_same (c' := .dk []) (Ne.symm x21)
  have x31 : a3 ≠ a1 := ne_fresh y1 ha3
  have x32 : a3 ≠ a2 := ne_fresh up_same ha3
  have y2 := at_ne y1 (c' := .dk (mergeA [] [(.inr [97], .int 1)])) (Ne.symm x31)
  have y3 := at_ne (C := up (up C24 a1 (.lst [])) a2 (.dk [])) (c := .dk []) up_same (c' := .dk (mergeA [] [(.inr [97], .int 1)])) (Ne.symm x32)
  have y4 : (up (up (up C24 a1 (.lst [])) a2 (.dk [])) a3 (.dk (mergeA [] [(.inr [97], .int 1)]))) a3 = some (.dk (mergeA [] [(.inr [97], .int 1)])) := up_same
  have k27 : Kp (S2 p q) C24 (up (up (up C24 a1 (.lst [])) a2 (.dk [])) a3 (.dk (mergeA [] [(.inr [97], .int 1)]))) := (((Kp.refl _).new ha1).new ha2).new ha3
  have c27 := k27 _ _ n6 c23
  have t6 := fun d hd => (t6 d hd).kp k27
  generalize (up (up (up C24 a1 (.lst [])) a2 (.dk [])) a3 (.dk (mergeA [] [(.inr [97], .int 1)]))) = C27 at hP27 y2 y3 y4 c27 t6 ha4
  refine add_ll (at_ne c27 (Ne.symm (ne_fresh c27 ha4))) up_same (by rw [sizeLine_eq, l6]; simp) fun r7 hr7 => ?_
  have kz := fun c => ((Kp.refl (S := S2 p q) C27).new ha4).new (c := c) hr7
  refine ⟨_, Sub.refl _, k _ r7 _ up_same (fun d hd => (TS.kp ?_ (kz _)).th) (((hP27.up b4).up ((hP27.up b4).ne hr7)).mono (by omega))⟩
  rcases List.mem_append.mp hd with hd | hd
  · exact t6 d hd
  · have zf : ∀ d ∈ zs.map D.str, T0 p q C27 d := fun d hd => by
      obtain ⟨y, hy', rfl⟩ := List.mem_map.mp hd
      exact fine_s (hs2 y hy')
    have of : ∀ a, ¬ S2 p q a → ∀ b, D.ptr a = .ptr b → ¬ S2 p q b := fun a h b e => by cases e; exact h
    simp only [List.mem_cons, List.not_mem_nil, or_false] at hd
    rcases hd with h | h | h | h | h | h | h | h | h | h | h | h | h | h | h <;> subst h
    · exact .inr (.inl ⟨_, rfl, by omega, zf⟩)
    · refine .inr (.inl ⟨_, rfl, by rw [List.length_append]; simp at lz ⊢; omega, fun e he => ?_⟩)
      rcases List.mem_append.mp he with he | he
      · exact zf e he
      · rw [List.mem_singleton.mp he]; exact fine_s f13
    · exact .inr (.inl ⟨_, rfl, by simp, fun e he => by cases he⟩)
    · exact .inl ⟨_, rfl, by decide, by decide⟩
    · exact .inl ⟨_, rfl, by decide, by decide⟩
    · exact .inr (.inr ⟨.inl rfl, fun a h => nomatch h⟩)
    · exact .inr (.inr ⟨.inr (.inr (.inl ⟨_, rfl⟩)), fun a h => nomatch h⟩)
    · exact .inr (.inr ⟨.inr (.inr (.inl ⟨_, rfl⟩)), fun a h => nomatch h⟩)
    · exact .inr (.inr ⟨.inr (.inl ⟨_, rfl⟩), fun a h => nomatch h⟩)
    · exact .inr (.inr ⟨.inr (.inl ⟨_, rfl⟩), fun a h => nomatch h⟩)
    · exact .inr (.inr ⟨.inr (.inr (.inr ⟨a1, rfl, .inl ⟨_, y2⟩⟩)), of _ b1⟩)
    · exact .inr (.inr ⟨.inr (.inr (.inr ⟨a2, rfl, .inr ⟨_, y3⟩⟩)), of _ b2⟩)
    · exact .inr (.inr ⟨.inr (.inr (.inr ⟨a3, rfl, .inr ⟨_, y4⟩⟩)), of _ b3⟩)
    · exact .inr (.inl ⟨_, rfl, by simp, fun e he => by rw [List.mem_singleton.mp he]; exact .inr (.inl ⟨_, rfl⟩)⟩)
    · exact .inr (.inl ⟨_, rfl, by simp, fun e he => by rw [List.mem_singleton.mp he]; exact fine_s ⟨by decide, by decide⟩⟩)
end K01

namespace K01
open PySem PySem.Spec PyProof.Rows KB
open L2 hiding op_eqD op_neD call_listD
variable {C : Cp} {p q : Addr} {N : Nat} {Q : DQ} {E : Exn → Cp → Prop}
theorem okEqs_bls (bs : List Bool) : okEqs (bs.map D.bl) := by
  induction bs with
  | nil => exact ⟨rfl, by decide⟩
  | cons x r ih =>
    obtain ⟨a, b⟩ := ih
    refine ⟨by rw [List.map_cons]; unfold npts npt; rw [a]; rfl, ?_⟩
    rw [List.map_cons]
    unfold deps dep
    omega
theorem Pot.kp (h : Pot C p q N) {C' : Cp} {S : Addr → Prop} (k : Kp S C C') (n : ∀ r, S2 p q r → ¬ S r) : Pot C' p q N := by
  obtain ⟨xs, b, c', n', h1, h2, h3⟩ := h
  exact ⟨xs, b, c', n', k _ _ (n _ (.inl rfl)) h1, k _ _ (n _ (.inr rfl)) h2, h3⟩
theorem law_true (a : Addr) (ns : List Int) (c : Cell) (hl : ns.length ≤ 63) (hc : c = .lst (ns.map D.int) ∨ c = .fz (ns.map D.int)) : D_law [.ptr a] (up (fun _ => none) a c) (fun d _ => d = .bl true) fun _ _ => False := by
  unfold D_law runD r_law
  try simp only [dSeq, dChain, dOrT, dAndT, dNotT, dGetI_eq, Bool.not_true, Bool.not_false, dAsg, dOp, dVar, dC, gNm, gTp, gCn, gNl, dRet, dIf, dTest, dTru, dNot, dAnd, dOr, dNext, dDrop, dCons, dNil, dTup, dLst, dEmp, dEmpG, dPar, dPar3, dSetI, dCall, dCB, dBM, dBM0, dIfE, dNeg, dSl, dPart, dNoP, dAug, addI, dBreak, dCont, dAlt, dYes, dPairs, dDisp, gSubD, dBMd, addD_ii, addD_ss, addD_tt, subD_ii, mulD_ii, modD_ii, fdivD_ii, powD_ii, ltD_ii, leD_ii, gtD_ii, geD_ii, ltD_ss, leD_ss, eqR_ii, eqR_ss, eqR_tt, eqR_bb, abs_ii, max_ii, min_ii, truD_b, slD_t, slD_s, inR_t, List.map, List.length, List.replicate, List.cons_append, List.nil_append, List.append_nil, List.getElem?_cons_succ, List.getElem?_cons_zero, Option.some.injEq, exists_eq_left', exists_eq_left, ex2, ex3, exists_eq', List.set_cons_succ, List.set_cons_zero, Nat.reduceAdd, Nat.reduceSub, true_and, and_true, D.bl.injEq, D.int.injEq, D.str.injEq, D.ptr.injEq, D.tup.injEq, decide_eq_true_eq, beq_iff_eq, Bool.false_eq_true, if_true, if_false, reduceIte, wipeD, List.foldr_cons, List.foldr_nil, Nat.reduceLeDiff, List.cons.injEq, and_self, List.length_cons, List.length_nil]
  unfold D__law_pot runD r__law_pot
  try simp only [dSeq, dChain, dOrT, dAndT, dNotT, dGetI_eq, Bool.not_true, Bool.not_false, dAsg, dOp, dVar, dC, gNm, gTp, gCn, gNl, dRet, dIf, dTest, dTru, dNot, dAnd, dOr, dNext, dDrop, dCons, dNil, dTup, dLst, dEmp, dEmpG, dPar, dPar3, dSetI, dCall, dCB, dBM, dBM0, dIfE, dNeg, dSl, dPart, dNoP, dAug, addI, dBreak, dCont, dAlt, dYes, dPairs, dDisp, gSubD, dBMd, addD_ii, addD_ss, addD_tt, subD_ii, mulD_ii, modD_ii, fdivD_ii, powD_ii, ltD_ii, leD_ii, gtD_ii, geD_ii, ltD_ss, leD_ss, eqR_ii, eqR_ss, eqR_tt, eqR_bb, abs_ii, max_ii, min_ii, truD_b, slD_t, slD_s, inR_t, List.map, List.length, List.replicate, List.cons_append, List.nil_append, List.append_nil, List.getElem?_cons_succ, List.getElem?_cons_zero, Option.some.injEq, exists_eq_left', exists_eq_left, ex2, ex3, exists_eq', List.set_cons_succ, List.set_cons_zero, Nat.reduceAdd, Nat.reduceSub, true_and, and_true, D.bl.injEq, D.int.injEq, D.str.injEq, D.ptr.injEq, D.tup.injEq, decide_eq_true_eq, beq_iff_eq, Bool.false_eq_true, if_true, if_false, reduceIte, wipeD, List.foldr_cons, List.foldr_nil, Nat.reduceLeDiff, List.cons.injEq, and_self, List.length_cons, List.length_nil]
  have hL := isL_same (C := fun _ => none) (p := a) hc
  generalize up (fun _ => none) a c = C0 at hL
  refine list_l (show itemsD C0 (.ptr a) (ns.map D.int) from hL) fun q hq => ?_
  try simp only [dSeq, dChain, dOrT, dAndT, dNotT, dGetI_eq, Bool.not_true, Bool.not_false, dAsg, dOp, dVar, dC, gNm, gTp, gCn, gNl, dRet, dIf, dTest, dTru, dNot, dAnd, dOr, dNext, dDrop, dCons, dNil, dTup, dLst, dEmp, dEmpG, dPar, dPar3, dSetI, dCall, dCB, dBM, dBM0, dIfE, dNeg, dSl, dPart, dNoP, dAug, addI, dBreak, dCont, dAlt, dYes, dPairs, dDisp, gSubD, dBMd, addD_ii, addD_ss, addD_tt, subD_ii, mulD_ii, modD_ii, fdivD_ii, powD_ii, ltD_ii, leD_ii, gtD_ii, geD_ii, ltD_ss, leD_ss, eqR_ii, eqR_ss, eqR_tt, eqR_bb, abs_ii, max_ii, min_ii, truD_b, slD_t, slD_s, inR_t, List.map, List.length, List.replicate, List.cons_append, List.nil_append, List.append_nil, List.getElem?_cons_succ, List.getElem?_cons_zero, Option.some.injEq, exists_eq_left', exists_eq_left, ex2, ex3, exists_eq', List.set_cons_succ, List.set_cons_zero, Nat.reduceAdd, Nat.reduceSub, true_and, and_true, D.bl.injEq, D.int.injEq, D.str.injEq, D.ptr.injEq, D.tup.injEq, decide_eq_true_eq, beq_iff_eq, Bool.false_eq_true, if_true, if_false, reduceIte, wipeD, List.foldr_cons, List.foldr_nil, Nat.reduceLeDiff, List.cons.injEq, and_self, List.length_cons, List.length_nil]
  intro p hp
  have pq : p ≠ q := ne_fresh up_same hp
  have hL1 : isL (up (up C0 q (.lst (ns.map D.int))) p (.lst [.ptr q, .int 0, .int 3, .int 0])) a (ns.map D.int) := by
    refine isL_up_ne (isL_up_ne hL ?_) ?_
    · intro e; subst e; rcases hL with h | h <;> (rw [hq] at h; cases h)
    · intro e
      subst e
      rw [up_ne pq] at hp
      rcases hL with h | h <;> (rw [hp] at h; cases h)
  have hP : Pot (up (up C0 q (.lst (ns.map D.int))) p (.lst [.ptr q, .int 0, .int 3, .int 0])) p q 0 := ⟨ns, 0, 3, 0, up_same, by rw [up_ne (Ne.symm pq)]; exact up_same, pq, by decide, by decide, by decide, Nat.le_refl _, hl⟩
  generalize up (up C0 q (.lst (ns.map D.int))) p (.lst [.ptr q, .int 0, .int 3, .int 0]) = C1 at hL1 hP
  refine ⟨C1, Sub.refl _, ?_⟩
  unfold dFor
  try unfold dRng1
  try simp only [dSeq, dChain, dOrT, dAndT, dNotT, dGetI_eq, Bool.not_true, Bool.not_false, dAsg, dOp, dVar, dC, gNm, gTp, gCn, gNl, dRet, dIf, dTest, dTru, dNot, dAnd, dOr, dNext, dDrop, dCons, dNil, dTup, dLst, dEmp, dEmpG, dPar, dPar3, dSetI, dCall, dCB, dBM, dBM0, dIfE, dNeg, dSl, dPart, dNoP, dAug, addI, dBreak, dCont, dAlt, dYes, dPairs, dDisp, gSubD, dBMd, addD_ii, addD_ss, addD_tt, subD_ii, mulD_ii, modD_ii, fdivD_ii, powD_ii, ltD_ii, leD_ii, gtD_ii, geD_ii, ltD_ss, leD_ss, eqR_ii, eqR_ss, eqR_tt, eqR_bb, abs_ii, max_ii, min_ii, truD_b, slD_t, slD_s, inR_t, List.map, List.length, List.replicate, List.cons_append, List.nil_append, List.append_nil, List.getElem?_cons_succ, List.getElem?_cons_zero, Option.some.injEq, exists_eq_left', exists_eq_left, ex2, ex3, exists_eq', List.set_cons_succ, List.set_cons_zero, Nat.reduceAdd, Nat.reduceSub, true_and, and_true, D.bl.injEq, D.int.injEq, D.str.injEq, D.ptr.injEq, D.tup.injEq, decide_eq_true_eq, beq_iff_eq, Bool.false_eq_true, if_true, if_false, reduceIte, wipeD, List.foldr_cons, List.foldr_nil, Nat.reduceLeDiff, List.cons.injEq, and_self, List.length_cons, List.length_nil]
  refine len_l hL1 ?_
  try simp only [dSeq, dChain, dOrT, dAndT, dNotT, dGetI_eq, Bool.not_true, Bool.not_false, dAsg, dOp, dVar, dC, gNm, gTp, gCn, gNl, dRet, dIf, dTest, dTru, dNot, dAnd, dOr, dNext, dDrop, dCons, dNil, dTup, dLst, dEmp, dEmpG, dPar, dPar3, dSetI, dCall, dCB, dBM, dBM0, dIfE, dNeg, dSl, dPart, dNoP, dAug, addI, dBreak, dCont, dAlt, dYes, dPairs, dDisp, gSubD, dBMd, addD_ii, addD_ss, addD_tt, subD_ii, mulD_ii, modD_ii, fdivD_ii, powD_ii, ltD_ii, leD_ii, gtD_ii, geD_ii, ltD_ss, leD_ss, eqR_ii, eqR_ss, eqR_tt, eqR_bb, abs_ii, max_ii, min_ii, truD_b, slD_t, slD_s, inR_t, List.map, List.length, List.replicate, List.cons_append, List.nil_append, List.append_nil, List.getElem?_cons_succ, List.getElem?_cons_zero, Option.some.injEq, exists_eq_left', exists_eq_left, ex2, ex3, exists_eq', List.set_cons_succ, List.set_cons_zero, Nat.reduceAdd, Nat.reduceSub, true_and, and_true, D.bl.injEq, D.int.injEq, D.str.injEq, D.ptr.injEq, D.tup.injEq, decide_eq_true_eq, beq_iff_eq, Bool.false_eq_true, if_true, if_false, reduceIte, wipeD, List.foldr_cons, List.foldr_nil, Nat.reduceLeDiff, List.cons.injEq, and_self, List.length_cons, List.length_nil]
  rw [List.length_map]
  have hmm : ∃ t : Nat, t ≤ 8 ∧ (if (if (8 : Int) < ns.length then 8 else (ns.length : Int)) > 1 then (if (8 : Int) < ns.length then 8 else (ns.length : Int)) else 1) = (t : Int) := by
    refine ⟨((if (if (8 : Int) < ns.length then 8 else (ns.length : Int)) > 1 then (if (8 : Int) < ns.length then 8 else (ns.length : Int)) else 1)).toNat, ?_, ?_⟩
    · split <;> (try split) <;> omega
    · split <;> (try split) <;> omega
  obtain ⟨t, ht, et⟩ := hmm
  rw [et]
  refine ⟨by omega, by omega, ?_⟩
  refine ⟨fun i sl C2 => ∃ (x2 x3 x4 x5 : Option D), sl = [some (.ptr a), some (.ptr p), x2, x3, x4, x5] ∧ Pot C2 p q (10000 * i), ⟨none, none, none, none, rfl, hP⟩, fun _ _ _ _ _ => trivial, fun i x sl C2 e hp => ?_, fun sl C2 hp => ?_⟩
  · obtain ⟨hi, rfl⟩ := rng_at e
    have hi : i < t := by simpa using hi
    obtain ⟨x2, x3, x4, x5, rfl, hP2⟩ := hp
    unfold l_law_2
    try simp only [dSeq, dChain, dOrT, dAndT, dNotT, dGetI_eq, Bool.not_true, Bool.not_false, dAsg, dOp, dVar, dC, gNm, gTp, gCn, gNl, dRet, dIf, dTest, dTru, dNot, dAnd, dOr, dNext, dDrop, dCons, dNil, dTup, dLst, dEmp, dEmpG, dPar, dPar3, dSetI, dCall, dCB, dBM, dBM0, dIfE, dNeg, dSl, dPart, dNoP, dAug, addI, dBreak, dCont, dAlt, dYes, dPairs, dDisp, gSubD, dBMd, addD_ii, addD_ss, addD_tt, subD_ii, mulD_ii, modD_ii, fdivD_ii, powD_ii, ltD_ii, leD_ii, gtD_ii, geD_ii, ltD_ss, leD_ss, eqR_ii, eqR_ss, eqR_tt, eqR_bb, abs_ii, max_ii, min_ii, truD_b, slD_t, slD_s, inR_t, List.map, List.length, List.replicate, List.cons_append, List.nil_append, List.append_nil, List.getElem?_cons_succ, List.getElem?_cons_zero, Option.some.injEq, exists_eq_left', exists_eq_left, ex2, ex3, exists_eq', List.set_cons_succ, List.set_cons_zero, Nat.reduceAdd, Nat.reduceSub, true_and, and_true, D.bl.injEq, D.int.injEq, D.str.injEq, D.ptr.injEq, D.tup.injEq, decide_eq_true_eq, beq_iff_eq, Bool.false_eq_true, if_true, if_false, reduceIte, wipeD, List.foldr_cons, List.foldr_nil, Nat.reduceLeDiff, List.cons.injEq, and_self, List.length_cons, List.length_nil]
    try unfold dFor
    try unfold dOver
    try simp only [dSeq, dChain, dOrT, dAndT, dNotT, dGetI_eq, Bool.not_true, Bool.not_false, dAsg, dOp, dVar, dC, gNm, gTp, gCn, gNl, dRet, dIf, dTest, dTru, dNot, dAnd, dOr, dNext, dDrop, dCons, dNil, dTup, dLst, dEmp, dEmpG, dPar, dPar3, dSetI, dCall, dCB, dBM, dBM0, dIfE, dNeg, dSl, dPart, dNoP, dAug, addI, dBreak, dCont, dAlt, dYes, dPairs, dDisp, gSubD, dBMd, addD_ii, addD_ss, addD_tt, subD_ii, mulD_ii, modD_ii, fdivD_ii, powD_ii, ltD_ii, leD_ii, gtD_ii, geD_ii, ltD_ss, leD_ss, eqR_ii, eqR_ss, eqR_tt, eqR_bb, abs_ii, max_ii, min_ii, truD_b, slD_t, slD_s, inR_t, List.map, List.length, List.replicate, List.cons_append, List.nil_append, List.append_nil, List.getElem?_cons_succ, List.getElem?_cons_zero, Option.some.injEq, exists_eq_left', exists_eq_left, ex2, ex3, exists_eq', List.set_cons_succ, List.set_cons_zero, Nat.reduceAdd, Nat.reduceSub, true_and, and_true, D.bl.injEq, D.int.injEq, D.str.injEq, D.ptr.injEq, D.tup.injEq, decide_eq_true_eq, beq_iff_eq, Bool.false_eq_true, if_true, if_false, reduceIte, wipeD, List.foldr_cons, List.foldr_nil, Nat.reduceLeDiff, List.cons.injEq, and_self, List.length_cons, List.length_nil]
    refine things hP2 (by omega) fun ds r C3 cr hT hP3 => ?_
    try simp only [dSeq, dChain, dOrT, dAndT, dNotT, dGetI_eq, Bool.not_true, Bool.not_false, dAsg, dOp, dVar, dC, gNm, gTp, gCn, gNl, dRet, dIf, dTest, dTru, dNot, dAnd, dOr, dNext, dDrop, dCons, dNil, dTup, dLst, dEmp, dEmpG, dPar, dPar3, dSetI, dCall, dCB, dBM, dBM0, dIfE, dNeg, dSl, dPart, dNoP, dAug, addI, dBreak, dCont, dAlt, dYes, dPairs, dDisp, gSubD, dBMd, addD_ii, addD_ss, addD_tt, subD_ii, mulD_ii, modD_ii, fdivD_ii, powD_ii, ltD_ii, leD_ii, gtD_ii, geD_ii, ltD_ss, leD_ss, eqR_ii, eqR_ss, eqR_tt, eqR_bb, abs_ii, max_ii, min_ii, truD_b, slD_t, slD_s, inR_t, List.map, List.length, List.replicate, List.cons_append, List.nil_append, List.append_nil, List.getElem?_cons_succ, List.getElem?_cons_zero, Option.some.injEq, exists_eq_left', exists_eq_left, ex2, ex3, exists_eq', List.set_cons_succ, List.set_cons_zero, Nat.reduceAdd, Nat.reduceSub, true_and, and_true, D.bl.injEq, D.int.injEq, D.str.injEq, D.ptr.injEq, D.tup.injEq, decide_eq_true_eq, beq_iff_eq, Bool.false_eq_true, if_true, if_false, reduceIte, wipeD, List.foldr_cons, List.foldr_nil, Nat.reduceLeDiff, List.cons.injEq, and_self, List.length_cons, List.length_nil]
    refine ⟨ds, .inl cr, ?_⟩
    refine ⟨fun j sl C4 => ∃ (x3 x4 x5 : Option D), sl = [some (.ptr a), some (.ptr p), some (.int i), x3, x4, x5] ∧ Kp None C3 C4, ⟨_, _, _, rfl, Kp.refl _⟩, fun _ _ _ _ hp => ?_, fun j d sl C4 e hp => ?_, fun sl C4 hp => ?_⟩
    · obtain ⟨_, _, _, _, kk⟩ := hp
      exact .inl (kk _ _ (fun h => h) cr)
    · obtain ⟨x3, x4, x5, rfl, k4⟩ := hp
      have hd : Th C4 d := (hT d (List.mem_of_getElem? e)).kp k4
      unfold l_law_1
      try simp only [dSeq, dChain, dOrT, dAndT, dNotT, dGetI_eq, Bool.not_true, Bool.not_false, dAsg, dOp, dVar, dC, gNm, gTp, gCn, gNl, dRet, dIf, dTest, dTru, dNot, dAnd, dOr, dNext, dDrop, dCons, dNil, dTup, dLst, dEmp, dEmpG, dPar, dPar3, dSetI, dCall, dCB, dBM, dBM0, dIfE, dNeg, dSl, dPart, dNoP, dAug, addI, dBreak, dCont, dAlt, dYes, dPairs, dDisp, gSubD, dBMd, addD_ii, addD_ss, addD_tt, subD_ii, mulD_ii, modD_ii, fdivD_ii, powD_ii, ltD_ii, leD_ii, gtD_ii, geD_ii, ltD_ss, leD_ss, eqR_ii, eqR_ss, eqR_tt, eqR_bb, abs_ii, max_ii, min_ii, truD_b, slD_t, slD_s, inR_t, List.map, List.length, List.replicate, List.cons_append, List.nil_append, List.append_nil, List.getElem?_cons_succ, List.getElem?_cons_zero, Option.some.injEq, exists_eq_left', exists_eq_left, ex2, ex3, exists_eq', List.set_cons_succ, List.set_cons_zero, Nat.reduceAdd, Nat.reduceSub, true_and, and_true, D.bl.injEq, D.int.injEq, D.str.injEq, D.ptr.injEq, D.tup.injEq, decide_eq_true_eq, beq_iff_eq, Bool.false_eq_true, if_true, if_false, reduceIte, wipeD, List.foldr_cons, List.foldr_nil, Nat.reduceLeDiff, List.cons.injEq, and_self, List.length_cons, List.length_nil]
      refine is_word hd.th0 fun C5 k5 => ?_
      refine is_title (hd.kp k5).th0 fun C6 k6 => ?_
      refine is_path ((hd.kp k5).kp k6) fun C7 k7 => ?_
      try simp only [dSeq, dChain, dOrT, dAndT, dNotT, dGetI_eq, Bool.not_true, Bool.not_false, dAsg, dOp, dVar, dC, gNm, gTp, gCn, gNl, dRet, dIf, dTest, dTru, dNot, dAnd, dOr, dNext, dDrop, dCons, dNil, dTup, dLst, dEmp, dEmpG, dPar, dPar3, dSetI, dCall, dCB, dBM, dBM0, dIfE, dNeg, dSl, dPart, dNoP, dAug, addI, dBreak, dCont, dAlt, dYes, dPairs, dDisp, gSubD, dBMd, addD_ii, addD_ss, addD_tt, subD_ii, mulD_ii, modD_ii, fdivD_ii, powD_ii, ltD_ii, leD_ii, gtD_ii, geD_ii, ltD_ss, leD_ss, eqR_ii, eqR_ss, eqR_tt, eqR_bb, abs_ii, max_ii, min_ii, truD_b, slD_t, slD_s, inR_t, List.map, List.length, List.replicate, List.cons_append, List.nil_append, List.append_nil, List.getElem?_cons_succ, List.getElem?_cons_zero, Option.some.injEq, exists_eq_left', exists_eq_left, ex2, ex3, exists_eq', List.set_cons_succ, List.set_cons_zero, Nat.reduceAdd, Nat.reduceSub, true_and, and_true, D.bl.injEq, D.int.injEq, D.str.injEq, D.ptr.injEq, D.tup.injEq, decide_eq_true_eq, beq_iff_eq, Bool.false_eq_true, if_true, if_false, reduceIte, wipeD, List.foldr_cons, List.foldr_nil, Nat.reduceLeDiff, List.cons.injEq, and_self, List.length_cons, List.length_nil]
      intro f hf
      try simp only [dSeq, dChain, dOrT, dAndT, dNotT, dGetI_eq, Bool.not_true, Bool.not_false, dAsg, dOp, dVar, dC, gNm, gTp, gCn, gNl, dRet, dIf, dTest, dTru, dNot, dAnd, dOr, dNext, dDrop, dCons, dNil, dTup, dLst, dEmp, dEmpG, dPar, dPar3, dSetI, dCall, dCB, dBM, dBM0, dIfE, dNeg, dSl, dPart, dNoP, dAug, addI, dBreak, dCont, dAlt, dYes, dPairs, dDisp, gSubD, dBMd, addD_ii, addD_ss, addD_tt, subD_ii, mulD_ii, modD_ii, fdivD_ii, powD_ii, ltD_ii, leD_ii, gtD_ii, geD_ii, ltD_ss, leD_ss, eqR_ii, eqR_ss, eqR_tt, eqR_bb, abs_ii, max_ii, min_ii, truD_b, slD_t, slD_s, inR_t, List.map, List.length, List.replicate, List.cons_append, List.nil_append, List.append_nil, List.getElem?_cons_succ, List.getElem?_cons_zero, Option.some.injEq, exists_eq_left', exists_eq_left, ex2, ex3, exists_eq', List.set_cons_succ, List.set_cons_zero, Nat.reduceAdd, Nat.reduceSub, true_and, and_true, D.bl.injEq, D.int.injEq, D.str.injEq, D.ptr.injEq, D.tup.injEq, decide_eq_true_eq, beq_iff_eq, Bool.false_eq_true, if_true, if_false, reduceIte, wipeD, List.foldr_cons, List.foldr_nil, Nat.reduceLeDiff, List.cons.injEq, and_self, List.length_cons, List.length_nil]
      have hd7 := ((hd.kp k5).kp k6).kp k7
      have k8 : Kp None C4 (up C7 f (.lst ([isWd d, isTd d, isPd d].map D.bl))) := ((k5.trans k6).trans k7).new hf
      have hd8 : Th (up C7 f (.lst ([isWd d, isTd d, isPd d].map D.bl))) d := hd7.kp ((Kp.refl _).new hf)
      have cf : (up C7 f (.lst ([isWd d, isTd d, isPd d].map D.bl))) f = some (.lst ([isWd d, isTd d, isPd d].map D.bl)) := up_same
      simp only [List.map_cons, List.map_nil] at k8 hd8 cf ⊢
      generalize up C7 f (.lst [.bl (isWd d), .bl (isTd d), .bl (isPd d)]) = C8 at k8 hd8 cf
      unfold dLc
      try unfold dOver
      try simp only [dSeq, dChain, dOrT, dAndT, dNotT, dGetI_eq, Bool.not_true, Bool.not_false, dAsg, dOp, dVar, dC, gNm, gTp, gCn, gNl, dRet, dIf, dTest, dTru, dNot, dAnd, dOr, dNext, dDrop, dCons, dNil, dTup, dLst, dEmp, dEmpG, dPar, dPar3, dSetI, dCall, dCB, dBM, dBM0, dIfE, dNeg, dSl, dPart, dNoP, dAug, addI, dBreak, dCont, dAlt, dYes, dPairs, dDisp, gSubD, dBMd, addD_ii, addD_ss, addD_tt, subD_ii, mulD_ii, modD_ii, fdivD_ii, powD_ii, ltD_ii, leD_ii, gtD_ii, geD_ii, ltD_ss, leD_ss, eqR_ii, eqR_ss, eqR_tt, eqR_bb, abs_ii, max_ii, min_ii, truD_b, slD_t, slD_s, inR_t, List.map, List.length, List.replicate, List.cons_append, List.nil_append, List.append_nil, List.getElem?_cons_succ, List.getElem?_cons_zero, Option.some.injEq, exists_eq_left', exists_eq_left, ex2, ex3, exists_eq', List.set_cons_succ, List.set_cons_zero, Nat.reduceAdd, Nat.reduceSub, true_and, and_true, D.bl.injEq, D.int.injEq, D.str.injEq, D.ptr.injEq, D.tup.injEq, decide_eq_true_eq, beq_iff_eq, Bool.false_eq_true, if_true, if_false, reduceIte, wipeD, List.foldr_cons, List.foldr_nil, Nat.reduceLeDiff, List.cons.injEq, and_self, List.length_cons, List.length_nil]
      refine ⟨_, .inl cf, ?_⟩
      refine ⟨fun j acc C' => acc = (List.replicate j true).map D.bl ∧ C' = C8, ⟨rfl, rfl⟩, fun _ _ _ _ hp => by obtain ⟨_, rfl⟩ := hp; exact .inl cf, fun j x acc C' e hp hj => ?_, by rw [sizeLine_eq]; simp, fun acc C' g hp hg => ?_⟩
      · obtain ⟨rfl, rfl⟩ := hp
        try simp only [dSeq, dChain, dOrT, dAndT, dNotT, dGetI_eq, Bool.not_true, Bool.not_false, dAsg, dOp, dVar, dC, gNm, gTp, gCn, gNl, dRet, dIf, dTest, dTru, dNot, dAnd, dOr, dNext, dDrop, dCons, dNil, dTup, dLst, dEmp, dEmpG, dPar, dPar3, dSetI, dCall, dCB, dBM, dBM0, dIfE, dNeg, dSl, dPart, dNoP, dAug, addI, dBreak, dCont, dAlt, dYes, dPairs, dDisp, gSubD, dBMd, addD_ii, addD_ss, addD_tt, subD_ii, mulD_ii, modD_ii, fdivD_ii, powD_ii, ltD_ii, leD_ii, gtD_ii, geD_ii, ltD_ss, leD_ss, eqR_ii, eqR_ss, eqR_tt, eqR_bb, abs_ii, max_ii, min_ii, truD_b, slD_t, slD_s, inR_t, List.map, List.length, List.replicate, List.cons_append, List.nil_append, List.append_nil, List.getElem?_cons_succ, List.getElem?_cons_zero, Option.some.injEq, exists_eq_left', exists_eq_left, ex2, ex3, exists_eq', List.set_cons_succ, List.set_cons_zero, Nat.reduceAdd, Nat.reduceSub, true_and, and_true, D.bl.injEq, D.int.injEq, D.str.injEq, D.ptr.injEq, D.tup.injEq, decide_eq_true_eq, beq_iff_eq, Bool.false_eq_true, if_true, if_false, reduceIte, wipeD, List.foldr_cons, List.foldr_nil, Nat.reduceLeDiff, List.cons.injEq, and_self, List.length_cons, List.length_nil]
        have hx : ∃ b, x = .bl b := by
          have := List.mem_of_getElem? e
          simp only [List.mem_cons, List.not_mem_nil, or_false] at this
          rcases this with h | h | h <;> exact ⟨_, h⟩
        obtain ⟨b, rfl⟩ := hx
        refine isi (n := "bool") rfl (b := true) (by kernel_rfl) ⟨_, Sub.refl _, ?_, rfl⟩
        show (List.replicate j true).map D.bl ++ [true].map D.bl = (List.replicate (j + 1) true).map D.bl
        rw [← List.map_append, ← List.replicate_succ']
      · obtain ⟨rfl, rfl⟩ := hp
        refine all_l (.inl up_same) ?_
        have k9 : Kp None C4 (up C' g (.lst ((List.replicate [D.bl (isWd d), .bl (isTd d), .bl (isPd d)].length true).map D.bl))) := k8.new hg
        have hd9 : Th (up C' g (.lst ((List.replicate [D.bl (isWd d), .bl (isTd d), .bl (isPd d)].length true).map D.bl))) d := hd8.kp ((Kp.refl _).new hg)
        have cf9 := at_ne cf (c' := .lst ((List.replicate [D.bl (isWd d), .bl (isTd d), .bl (isPd d)].length true).map D.bl)) (Ne.symm (ne_fresh cf hg))
        generalize up C' g (.lst ((List.replicate [D.bl (isWd d), .bl (isTd d), .bl (isPd d)].length true).map D.bl)) = C9 at k9 hd9 cf9
        have ea : (List.replicate [D.bl (isWd d), .bl (isTd d), .bl (isPd d)].length true).all id = true := rfl
        rw [ea]
        try simp only [dSeq, dChain, dOrT, dAndT, dNotT, dGetI_eq, Bool.not_true, Bool.not_false, dAsg, dOp, dVar, dC, gNm, gTp, gCn, gNl, dRet, dIf, dTest, dTru, dNot, dAnd, dOr, dNext, dDrop, dCons, dNil, dTup, dLst, dEmp, dEmpG, dPar, dPar3, dSetI, dCall, dCB, dBM, dBM0, dIfE, dNeg, dSl, dPart, dNoP, dAug, addI, dBreak, dCont, dAlt, dYes, dPairs, dDisp, gSubD, dBMd, addD_ii, addD_ss, addD_tt, subD_ii, mulD_ii, modD_ii, fdivD_ii, powD_ii, ltD_ii, leD_ii, gtD_ii, geD_ii, ltD_ss, leD_ss, eqR_ii, eqR_ss, eqR_tt, eqR_bb, abs_ii, max_ii, min_ii, truD_b, slD_t, slD_s, inR_t, List.map, List.length, List.replicate, List.cons_append, List.nil_append, List.append_nil, List.getElem?_cons_succ, List.getElem?_cons_zero, Option.some.injEq, exists_eq_left', exists_eq_left, ex2, ex3, exists_eq', List.set_cons_succ, List.set_cons_zero, Nat.reduceAdd, Nat.reduceSub, true_and, and_true, D.bl.injEq, D.int.injEq, D.str.injEq, D.ptr.injEq, D.tup.injEq, decide_eq_true_eq, beq_iff_eq, Bool.false_eq_true, if_true, if_false, reduceIte, wipeD, List.foldr_cons, List.foldr_nil, Nat.reduceLeDiff, List.cons.injEq, and_self, List.length_cons, List.length_nil]
        unfold r_law_1
        try simp only [dSeq, dChain, dOrT, dAndT, dNotT, dGetI_eq, Bool.not_true, Bool.not_false, dAsg, dOp, dVar, dC, gNm, gTp, gCn, gNl, dRet, dIf, dTest, dTru, dNot, dAnd, dOr, dNext, dDrop, dCons, dNil, dTup, dLst, dEmp, dEmpG, dPar, dPar3, dSetI, dCall, dCB, dBM, dBM0, dIfE, dNeg, dSl, dPart, dNoP, dAug, addI, dBreak, dCont, dAlt, dYes, dPairs, dDisp, gSubD, dBMd, addD_ii, addD_ss, addD_tt, subD_ii, mulD_ii, modD_ii, fdivD_ii, powD_ii, ltD_ii, leD_ii, gtD_ii, geD_ii, ltD_ss, leD_ss, eqR_ii, eqR_ss, eqR_tt, eqR_bb, abs_ii, max_ii, min_ii, truD_b, slD_t, slD_s, inR_t, List.map, List.length, List.replicate, List.cons_append, List.nil_append, List.append_nil, List.getElem?_cons_succ, List.getElem?_cons_zero, Option.some.injEq, exists_eq_left', exists_eq_left, ex2, ex3, exists_eq', List.set_cons_succ, List.set_cons_zero, Nat.reduceAdd, Nat.reduceSub, true_and, and_true, D.bl.injEq, D.int.injEq, D.str.injEq, D.ptr.injEq, D.tup.injEq, decide_eq_true_eq, beq_iff_eq, Bool.false_eq_true, if_true, if_false, reduceIte, wipeD, List.foldr_cons, List.foldr_nil, Nat.reduceLeDiff, List.cons.injEq, and_self, List.length_cons, List.length_nil]
        refine law_is_word hd9.th0 fun C10 k10 => ?_
        refine law_is_title (hd9.kp k10).th0 fun C11 k11 => ?_
        refine law_is_path ((hd9.kp k10).kp k11) fun C12 k12 => ?_
        try simp only [dSeq, dChain, dOrT, dAndT, dNotT, dGetI_eq, Bool.not_true, Bool.not_false, dAsg, dOp, dVar, dC, gNm, gTp, gCn, gNl, dRet, dIf, dTest, dTru, dNot, dAnd, dOr, dNext, dDrop, dCons, dNil, dTup, dLst, dEmp, dEmpG, dPar, dPar3, dSetI, dCall, dCB, dBM, dBM0, dIfE, dNeg, dSl, dPart, dNoP, dAug, addI, dBreak, dCont, dAlt, dYes, dPairs, dDisp, gSubD, dBMd, addD_ii, addD_ss, addD_tt, subD_ii, mulD_ii, modD_ii, fdivD_ii, powD_ii, ltD_ii, leD_ii, gtD_ii, geD_ii, ltD_ss, leD_ss, eqR_ii, eqR_ss, eqR_tt, eqR_bb, abs_ii, max_ii, min_ii, truD_b, slD_t, slD_s, inR_t, List.map, List.length, List.replicate, List.cons_append, List.nil_append, List.append_nil, List.getElem?_cons_succ, List.getElem?_cons_zero, Option.some.injEq, exists_eq_left', exists_eq_left, ex2, ex3, exists_eq', List.set_cons_succ, List.set_cons_zero, Nat.reduceAdd, Nat.reduceSub, true_and, and_true, D.bl.injEq, D.int.injEq, D.str.injEq, D.ptr.injEq, D.tup.injEq, decide_eq_true_eq, beq_iff_eq, Bool.false_eq_true, if_true, if_false, reduceIte, wipeD, List.foldr_cons, List.foldr_nil, Nat.reduceLeDiff, List.cons.injEq, and_self, List.length_cons, List.length_nil]
        intro h hh
        have cf12 := k12 _ _ (fun h => h) (k11 _ _ (fun h => h) (k10 _ _ (fun h => h) cf9))
        have e1 := okEqs_bls [isWd d, isTd d, isPd d]
        simp only [List.map_cons, List.map_nil] at e1
        refine eqR_pp (.inl (at_ne cf12 (Ne.symm (ne_fresh cf12 hh)))) (.inl up_same) e1 e1.1 ?_
        have e2 : eqDs [D.bl (isWd d), .bl (isTd d), .bl (isPd d)] [D.bl (isWd d), .bl (isTd d), .bl (isPd d)] = true := by simp [eqDs, eqD]
        rw [e2]
        try simp only [dSeq, dChain, dOrT, dAndT, dNotT, dGetI_eq, Bool.not_true, Bool.not_false, dAsg, dOp, dVar, dC, gNm, gTp, gCn, gNl, dRet, dIf, dTest, dTru, dNot, dAnd, dOr, dNext, dDrop, dCons, dNil, dTup, dLst, dEmp, dEmpG, dPar, dPar3, dSetI, dCall, dCB, dBM, dBM0, dIfE, dNeg, dSl, dPart, dNoP, dAug, addI, dBreak, dCont, dAlt, dYes, dPairs, dDisp, gSubD, dBMd, addD_ii, addD_ss, addD_tt, subD_ii, mulD_ii, modD_ii, fdivD_ii, powD_ii, ltD_ii, leD_ii, gtD_ii, geD_ii, ltD_ss, leD_ss, eqR_ii, eqR_ss, eqR_tt, eqR_bb, abs_ii, max_ii, min_ii, truD_b, slD_t, slD_s, inR_t, List.map, List.length, List.replicate, List.cons_append, List.nil_append, List.append_nil, List.getElem?_cons_succ, List.getElem?_cons_zero, Option.some.injEq, exists_eq_left', exists_eq_left, ex2, ex3, exists_eq', List.set_cons_succ, List.set_cons_zero, Nat.reduceAdd, Nat.reduceSub, true_and, and_true, D.bl.injEq, D.int.injEq, D.str.injEq, D.ptr.injEq, D.tup.injEq, decide_eq_true_eq, beq_iff_eq, Bool.false_eq_true, if_true, if_false, reduceIte, wipeD, List.foldr_cons, List.foldr_nil, Nat.reduceLeDiff, List.cons.injEq, and_self, List.length_cons, List.length_nil]
        exact ⟨_, Sub.refl _, k4.trans ((((k9.trans k10).trans k11).trans k12).new hh)⟩
    · obtain ⟨x3, x4, x5, rfl, k4⟩ := hp
      exact ⟨C4, Sub.refl _, _, _, _, _, rfl, (hP3.kp k4 fun _ _ h => h).mono (by omega)⟩
  · unfold r_law_2
    obtain ⟨x2, x3, x4, x5, rfl, hP2⟩ := hp
    try simp only [dSeq, dChain, dOrT, dAndT, dNotT, dGetI_eq, Bool.not_true, Bool.not_false, dAsg, dOp, dVar, dC, gNm, gTp, gCn, gNl, dRet, dIf, dTest, dTru, dNot, dAnd, dOr, dNext, dDrop, dCons, dNil, dTup, dLst, dEmp, dEmpG, dPar, dPar3, dSetI, dCall, dCB, dBM, dBM0, dIfE, dNeg, dSl, dPart, dNoP, dAug, addI, dBreak, dCont, dAlt, dYes, dPairs, dDisp, gSubD, dBMd, addD_ii, addD_ss, addD_tt, subD_ii, mulD_ii, modD_ii, fdivD_ii, powD_ii, ltD_ii, leD_ii, gtD_ii, geD_ii, ltD_ss, leD_ss, eqR_ii, eqR_ss, eqR_tt, eqR_bb, abs_ii, max_ii, min_ii, truD_b, slD_t, slD_s, inR_t, List.map, List.length, List.replicate, List.cons_append, List.nil_append, List.append_nil, List.getElem?_cons_succ, List.getElem?_cons_zero, Option.some.injEq, exists_eq_left', exists_eq_left, ex2, ex3, exists_eq', List.set_cons_succ, List.set_cons_zero, Nat.reduceAdd, Nat.reduceSub, true_and, and_true, D.bl.injEq, D.int.injEq, D.str.injEq, D.ptr.injEq, D.tup.injEq, decide_eq_true_eq, beq_iff_eq, Bool.false_eq_true, if_true, if_false, reduceIte, wipeD, List.foldr_cons, List.foldr_nil, Nat.reduceLeDiff, List.cons.injEq, and_self, List.length_cons, List.length_nil]
    exact ⟨C2, Sub.refl _⟩
end K01

open PySem PySem.W PyProof.Rows
set_option maxRecDepth 100000 in
set_option maxHeartbeats 0 in
theorem PySem.Challenge.cw_keptpages_k01_words_titles_paths_holds : PySem.Challenge.rw_keptpages_k01_words_titles_paths.Holds := by
  w_on; o_law; k_head; (case hw => w_witness2)
  k_fill
  refine KB.walk_kb (l := PySem.Challenge.rw_keptpages_k01_words_titles_paths) (n := 63) (k := 6) (x := "_law_script") K01.law_true rfl (by decide) rfl ⟨rfl, by decide, by decide⟩ (fun w h Y => PySem.W.kIn_of Y) ?hNoLists ?F
  case hNoLists =>
    intro w
    kernel_rfl
  case F =>
    intro w mg fa h KX G hmg
    refine' K01.all_mk KX G hmg ?a1 ?l1 ?c1 ?k1 ?a2 ?l2 ?c2 ?k2 ?a3 ?l3 ?c3 ?k3 ?a4 ?l4 ?c4 ?k4 ?a5 ?l5 ?c5 ?k5 ?a6 ?l6 ?c6 ?k6 ?a7 ?l7 ?c7 ?k7 ?a8 ?l8 ?c8 ?k8 ?a9 ?l9 ?c9 ?k9 ?a10 ?l10 ?c10 ?k10 ?a11 ?l11 ?c11 ?k11 ?a12 ?l12 ?c12 ?k12 ?a13 ?l13 ?c13 ?k13 ?z_abs ?z_all ?z_bool ?z_isinstance ?z_len ?z_list ?z_max ?z_min ?z_range ?z_str ?z_tuple ?g_MOST_SIGNS ?g_MOST_TITLE ?g_WORD_SIGNS
    (case a1 => k_is); (case l1 => k_is); (case c1 => k_is); (case k1 => k_is); (case a2 => k_is); (case l2 => k_is); (case c2 => k_is); (case k2 => k_is); (case a3 => k_is); (case l3 => k_is); (case c3 => k_is); (case k3 => k_is); (case a4 => k_is); (case l4 => k_is); (case c4 => k_is); (case k4 => k_is); (case a5 => k_is); (case l5 => k_is); (case c5 => k_is); (case k5 => k_is); (case a6 => k_is); (case l6 => k_is); (case c6 => k_is); (case k6 => k_is); (case a7 => k_is); (case l7 => k_is); (case c7 => k_is); (case k7 => k_is); (case a8 => k_is); (case l8 => k_is); (case c8 => k_is); (case k8 => k_is); (case a9 => k_is); (case l9 => k_is); (case c9 => k_is); (case k9 => k_is); (case a10 => k_is); (case l10 => k_is); (case c10 => k_is); (case k10 => k_is); (case a11 => k_is); (case l11 => k_is); (case c11 => k_is); (case k11 => k_is); (case a12 => k_is); (case l12 => k_is); (case c12 => k_is); (case k12 => k_is); (case a13 => k_is); (case l13 => k_is); (case c13 => k_is); (case k13 => k_is); (case z_abs => k_is); (case z_all => k_is); (case z_bool => k_is); (case z_isinstance => k_is); (case z_len => k_is); (case z_list => k_is); (case z_max => k_is); (case z_min => k_is); (case z_range => k_is); (case z_str => k_is); (case z_tuple => k_is); (case g_MOST_SIGNS => k_is); (case g_MOST_TITLE => k_is); (case g_WORD_SIGNS => k_is)
