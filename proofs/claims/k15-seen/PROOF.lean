import PyProof.Rows.All
import Wide.All
import OpenK.AllK
import Wide.FinOn
import HandS.ForMost
import HandS.TupSets
import KE.KDictKeyed
import HandS.Words
import HandS.TupAny
import HandS.Flow
import HandS.IsInst
import HandS.Wide
import HandS.Walk
import PyProof.NeKinds
import HandS.Exc
import HandS.Ends
import HandS.SetKeys
import KE.SortData
import KE.KDictCopyH
import PyProof.CollectStr
import HandS.More
import HandS.Iter
import HandS.TupLe
import HandS.Style
import PyProof.ListStr
import HandS.StrMore
import PyProof.StrOps2
import PyProof.RangeFor
import HandS.WordsDict
import HandS.ListItems
import KE.KDictZip
import KE.KTurns
import PyProof.ReprRoads
import PyProof.ReprBulk
import HandS.FStr
import KE.KFmtOwn
import HandS.SlotsOwn
import HandS.RaiseMore
import PyProof.SumAny
import PyProof.Rows.SeqMore
import HandS.ExcValue
import HandS.SortKw
import KE.KDictPairs
import PySem.Challenge.RW_keptpages_k15_what_was_seen
set_option Elab.async false
set_option linter.all false
set_option maxRecDepth 100000
set_option maxHeartbeats 4000000
/-! KA: a set at a place, by its rows. -/
namespace KB
open PySem PySem.Spec PyProof.Rows L2
abbrev Rw := Value × NestedKey
def rowX (w : World) (p : Rw) : Int × Value := (p.2.hash w, p.1)
/-- the set at a, by its rows -/
structure SetX (w : World) (h : Heap) (a : Addr) (L : List Rw) (es : Array (Int × Value)) (ep : Nat) (t : SetTable) : Prop where
  ob : ∃ o, h.get? a = some o ∧ o.ExactSet ∧ o.data = .set es ep t
  rows : es.toList = L.map (rowX w)
  nd : (L.map (·.2)).Nodup
  fits : t.fits es.size = true
  ris : Ris t.place.toList
  led : w.params.followText "set-order" = true ∨ t.led = true
theorem SetX.size {w : World} {h : Heap} {a : Addr} {L : List Rw} {es : Array (Int × Value)} {ep : Nat} {t : SetTable} (R : SetX w h a L es ep t) : es.size = L.length := by
  have := congrArg List.length R.rows
  simpa using this
theorem SetX.keep {w : World} {h h' : Heap} {a : Addr} {L : List Rw} {es : Array (Int × Value)} {ep : Nat} {t : SetTable} (R : SetX w h a L es ep t) (k : ∀ o, h.get? a = some o → h'.get? a = some o) : SetX w h' a L es ep t := by
  obtain ⟨o, ho, r⟩ := R.ob
  exact ⟨⟨o, k o ho, r⟩, R.rows, R.nd, R.fits, R.ris, R.led⟩
abbrev hsX (w : World) (L : List Rw) : List Int := L.map fun p => p.2.hash w
/-- a set of tuples at a -/
structure SetY (w : World) (h : Heap) (a : Addr) (L : List Rw) (es : Array (Int × Value)) (ep : Nat) (t : SetTable) : Prop where
  x : SetX w h a L es ep t
  tab : TabOk t (hsX w L)
  room : L.length * 5 < t.mask * 3
  few : L.length < 64
def kN : Key → NestedKey
  | .inl i => .num i
  | .inr x => .text x
def IsSc (p : Rw) : Prop := ∃ k : Key, p.2 = kN k ∧ keyIs k p.1 = true
/-- the set among the rows' own: by the scan -/
def ScanJ (w : World) (S : Addr) (h : Heap) (L : List Rw) : Prop := ∃ es ep t, SetX w h S L es ep t
def TabJ (w : World) (S : Addr) (h : Heap) (L : List Rw) : Prop := ∃ es ep t, SetY w h S L es ep t
/-- the set as a thing of the heap -/
def SetP (w : World) (a : Addr) (L : List Rw) (h : Heap) : Prop := (ScanJ w a h L ∨ TabJ w a h L) ∧ L.length < 4000
def SetHO (w : World) (a : Addr) (L : List Rw) : HO := .ext (SetP w a L)
end KB

/-! KT: tuples that are made here have no dict of their own. -/
namespace L2
open PySem PySem.Spec PyProof.Rows
section
variable {X : Cx} {pos : Pos} {es : List Expr} {t : TA}
theorem new_frz {P : Program} {w : World} {H : Hp} {h : Heap} {xs : List V} {its : List Value} (z : xs.length ≤ sizeLine) (r : Vals xs its) : ObjOk P w H (h.push { cls := .type "tuple", data := .seq its.toArray }) h.objs.size (.frz { cls := .type "tuple", data := .seq its.toArray } (.tup xs)) :=
  ⟨Heap.get?_push_size _ rfl, z, its, r, IsTup.new _ _⟩
def tTupF (t : TA) : TE := fun σ H Q => t σ H fun xs H1 => xs.length ≤ sizeLine ∧ ∀ p ob, H1 p = none → ob.dict = none → Q (.ref p) (upd H1 p (.frz ob (.tup xs)))
theorem pe_tupF {x1} (h : PA X es t) : PE X (.Tuple es x1 pos) (tTupF t) := by
  refine ⟨fun pins s σ H Q I hq => ?_⟩
  refine wpAny_Tuple_spliced (thn (h.run pos pins s σ H _ I hq) fun us s1 ⟨xs, H1, I1, r, z, q⟩ => ⟨by rw [← r.length]; exact z, ?_⟩)
  have hf : H1 s1.heap.objs.size = none := I1.hok.fresh (Nat.le_refl _)
  exact ⟨.ref s1.heap.objs.size, upd H1 s1.heap.objs.size (.frz { cls := .type "tuple", data := .seq us.toArray } (.tup xs)), I1.laid (t' := s1.toks) (fun b u e => Heap.get?_push_of_some _ e) (Nat.le_refl _) (new_frz z r), rfl, q _ _ hf rfl⟩
theorem call_tuple_ofF : CallR X (.type "tuple") (fun xs H Q => ∃ p ys, xs = [.ref p] ∧ ((SqL X.K H p ys ∧ ∀ l ob, H l = none → ob.dict = none → Q (.ref l) (upd H l (.frz ob (.tup ys)))) ∨ (SqT X.K H p ys ∧ Q (.ref p) H))) := by
  intro pins s σ H xs us Q I r h
  obtain ⟨p, ys, rfl, h⟩ := h
  obtain ⟨u, rfl, rx⟩ := vals1 r
  cases rx
  rcases h with ⟨hq, q⟩ | ⟨hq, q⟩
  · obtain ⟨its, r', pl, hz⟩ := I.list hq
    have hlen := r'.length
    refine call_tuple_list pl.isList (fun h' kp => ?_) (by simp only [List.size_toArray] <;> omega)
    have I1 : Inv X pins σ H { s with heap := h' } := I.kept (t' := s.toks) kp
    exact ⟨.ref h'.objs.size, _, I1.laid (t' := s.toks) (fun b o e => Heap.get?_push_of_some _ e) (Nat.le_refl _) (new_frz hz r'), rfl, q _ _ (I1.hok.fresh (Nat.le_refl _)) rfl⟩
  · obtain ⟨its, r', pl, hz⟩ := I.tuple hq
    exact call_tuple_same pl ⟨.ref p, H, I, rfl, q⟩
def rCatF (K : PySem.W.Frag) : R2 := fun x y H Q => ∃ a b xs ys, x = .ref a ∧ y = .ref b ∧ SqT K H a xs ∧ SqT K H b ys ∧ xs.length + ys.length ≤ sizeLine ∧
  (xs = [] → Q (.ref b) H) ∧ (xs ≠ [] → ys = [] → Q (.ref a) H) ∧ (xs ≠ [] → ys ≠ [] → ∀ p ob, H p = none → ob.dict = none → Q (.ref p) (upd H p (.frz ob (.tup (xs ++ ys)))))
theorem op_catF : OpR X (binaryOp .Add) (rCatF X.K) := by
  intro pins s σ H x y v u Q I rx ry h
  obtain ⟨a, b, xs, ys, rfl, rfl, ha, hb, hz, q0, q1, q2⟩ := h
  cases rx
  cases ry
  obtain ⟨its, r1, p1, _⟩ := I.tuple ha
  obtain ⟨its2, r2, p2, _⟩ := I.tuple hb
  by_cases hx : xs = []
  · subst hx
    cases r1
    exact cat_tup0 p1 p2 ⟨.ref b, H, I, rfl, q0 rfl⟩
  · refine HT.cat_tup p1 p2 (fun z => hx (r1.nil_iff.mp z)) (fun z => ⟨.ref a, H, I, rfl, q1 hx (r2.nil_iff.mp z)⟩) (fun z => ?_) (by rw [← r1.length, ← r2.length]; exact hz)
    exact ⟨.ref s.heap.objs.size, _, I.laid (t' := s.toks) (fun b ob q => Heap.get?_push_of_some _ q) (Nat.le_refl _) (new_frz (by rw [List.length_append]; exact hz) (r1.append r2)), rfl, q2 hx (fun w => z (r2.nil_iff.mpr w)) _ _ (I.hok.fresh (Nat.le_refl _)) rfl⟩
def rSlF (K : PySem.W.Frag) : V → Option Int → Option Int → Hp → VK → Prop := fun x lo hi H Q => ∃ a xs, x = .ref a ∧ SqT K H a xs ∧
  (HT.sIx xs.length 0 lo = 0 ∧ HT.sIx xs.length xs.length hi = xs.length → Q (.ref a) H) ∧ (¬ (HT.sIx xs.length 0 lo = 0 ∧ HT.sIx xs.length xs.length hi = xs.length) → ∀ p ob, H p = none → ob.dict = none → Q (.ref p) (upd H p (.frz ob (.tup (cutV xs lo hi)))))
theorem sl_tupF : SlR X (rSlF X.K) := by
  intro pins s σ H x v vl vu lo hi sl Q I rx hs pl pu h
  obtain ⟨a, xs, rfl, hx, q1, q2⟩ := h
  cases rx
  obtain ⟨its, r, ht, hz⟩ := I.tuple hx
  have hlen : its.toArray.size = xs.length := by rw [List.size_toArray]; exact r.length.symm
  refine ⟨"tuple", _, PyProof.Rows.slot_tuple_getitem.lookup, ht.typeIs, ?_⟩
  by_cases hw : HT.sIx xs.length 0 lo = 0 ∧ HT.sIx xs.length xs.length hi = xs.length
  · exact getItem_tuple_whole ht hs pl pu (by rw [hlen]; exact hw) ⟨.ref a, H, I, rfl, q1 hw⟩
  · refine HT.getItem_tuple_cut ht hs pl pu (by rw [hlen]; exact hw) ?_ (by rw [hlen]; exact hz)
    rw [hlen]
    exact ⟨.ref s.heap.objs.size, _, I.laid (t' := s.toks) (fun b ob q => Heap.get?_push_of_some _ q) (Nat.le_refl _) (new_frz (Nat.le_trans (cutV_length xs lo hi) hz) ((r.drop (HT.sIx xs.length 0 lo)).take (HT.sIx xs.length xs.length hi - HT.sIx xs.length 0 lo))), rfl, q2 hw _ _ (I.hok.fresh (Nat.le_refl _)) rfl⟩
end
end L2

/-! KB0: values as plain data over the hand layer; the stores of things that change; lifted readings. -/
namespace KB
open PySem PySem.Spec PyProof.Rows L2

/-- data: tuples are values; a thing that may change is told by its place -/
inductive D where
  | non | bl (b : Bool) | int (i : Int) | str (l : List Nat) | tup (ds : List D) | ptr (a : Addr) | ty (n : String)

abbrev DKey := Sum Int (List Nat)
abbrev Fs := List (Str × D)
/-- what stands at a place -/
inductive Cell where
  | lst (ds : List D) | fz (ds : List D) | dk (kvs : List (DKey × D)) | dt (kvs : List (List DKey × D)) | ins (n : Str) (fs : Fs) | st (ds : List D) | dg (kvs : List (D × D)) | lk (kvs : List (DKey × D)) (ep : Nat) | lg (kvs : List (D × D)) (as : List Addr) (ep : Nat) | raw (o : HO)
abbrev Cp := Addr → Option Cell
def up (C : Cp) (a : Addr) (c : Cell) : Cp := fun b => if b = a then some c else C b
theorem up_same {C : Cp} {a : Addr} {c : Cell} : up C a c a = some c := by unfold up; rw [if_pos rfl]
theorem up_ne {C : Cp} {a b : Addr} {c : Cell} (h : b ≠ a) : up C a c b = C b := by unfold up; rw [if_neg h]
abbrev Sl := List (Option D)
abbrev Exn := Str × Fs
abbrev DQ := D → Cp → Prop
abbrev DE := Sl → Cp → DQ → Prop
abbrev DT := Sl → Cp → (Bool → Cp → Prop) → Prop
abbrev DA := Sl → Cp → (List D → Cp → Prop) → Prop
structure DEnds where
  nx : Sl → Cp → Prop
  rt : DQ
  bk : Sl → Cp → Prop := fun _ _ => False
  ct : Sl → Cp → Prop := fun _ _ => False
abbrev DS := DEnds → Sl → Cp → Prop
abbrev DG := D → Sl → Cp → (Sl → Cp → Prop) → Prop
abbrev DGs := List D → Sl → Cp → (Sl → Cp → Prop) → Prop
/-- a def: arguments, store, the end wanted, the exception wanted -/
abbrev DSp := List D → Cp → DQ → (Exn → Cp → Prop) → Prop

/-! ### data and values -/
def keyOf : DKey → Key
  | .inl i => .inl i
  | .inr l => .inr ⟨l.toArray⟩
def keyD : DKey → D
  | .inl i => .int i
  | .inr l => .str l
theorem keyOf_inj : ∀ {a b : DKey}, keyOf a = keyOf b → a = b
  | .inl i, .inl j, h => by rw [Sum.inl.inj h]
  | .inr l, .inr m, h => by
    have h : (⟨l.toArray⟩ : Str) = ⟨m.toArray⟩ := Sum.inr.inj h
    have e : l.toArray = m.toArray := congrArg Str.cps h
    have : l = m := by simpa using congrArg Array.toList e
    rw [this]
  | .inl _, .inr _, h => nomatch h
  | .inr _, .inl _, h => nomatch h
mutual
def Rep (K : PySem.W.Frag) (H : Hp) : D → V → Prop
  | .non, v => v = .non
  | .bl b, v => v = .bl b
  | .int i, v => v = .int i
  | .str l, v => v = .str ⟨l.toArray⟩
  | .ptr a, v => v = .ref a
  | .ty n, v => v = .ty n
  | .tup ds, v => ∃ a vs, v = .ref a ∧ SqT K H a vs ∧ Reps K H ds vs
def Reps (K : PySem.W.Frag) (H : Hp) : List D → List V → Prop
  | [], vs => vs = []
  | d :: ds, vs => ∃ v r, vs = v :: r ∧ Rep K H d v ∧ Reps K H ds r
end
/-- tuples and locked things stay -/
structure Tx (H H' : Hp) : Prop where
  t : ∀ a xs, H a = some (.tup xs) → H' a = some (.tup xs)
  f : ∀ a o u, H a = some (.frz o u) → H' a = some (.frz o u)
theorem Tx.refl (H : Hp) : Tx H H := ⟨fun _ _ h => h, fun _ _ _ h => h⟩
theorem Tx.trans {H H1 H2 : Hp} (a : Tx H H1) (b : Tx H1 H2) : Tx H H2 := ⟨fun _ _ h => b.t _ _ (a.t _ _ h), fun _ _ _ h => b.f _ _ _ (a.f _ _ _ h)⟩
theorem Tx.sqT {K : PySem.W.Frag} {H H' : Hp} {a : Addr} {xs : List V} (e : Tx H H') (h : SqT K H a xs) : SqT K H' a xs := by
  rcases h with (h | ⟨o, h⟩) | h
  · exact .inl (.inl (e.t _ _ h))
  · exact .inl (.inr ⟨o, e.f _ _ _ h⟩)
  · exact .inr h
mutual
theorem Rep.mono {K : PySem.W.Frag} {H H' : Hp} (e : Tx H H') : ∀ {d : D} {v : V}, Rep K H d v → Rep K H' d v
  | .non, _, h => h
  | .bl _, _, h => h
  | .int _, _, h => h
  | .str _, _, h => h
  | .ptr _, _, h => h
  | .ty _, _, h => h
  | .tup _, _, h => by
    obtain ⟨a, vs, e1, e2, e3⟩ := h
    exact ⟨a, vs, e1, e.sqT e2, Reps.mono e e3⟩
theorem Reps.mono {K : PySem.W.Frag} {H H' : Hp} (e : Tx H H') : ∀ {ds : List D} {vs : List V}, Reps K H ds vs → Reps K H' ds vs
  | [], _, h => h
  | _ :: _, _, h => by
    obtain ⟨v, r, e1, e2, e3⟩ := h
    exact ⟨v, r, e1, Rep.mono e e2, Reps.mono e e3⟩
end
theorem Reps.nil {K : PySem.W.Frag} {H : Hp} : Reps K H [] [] := rfl
theorem Reps.cons {K : PySem.W.Frag} {H : Hp} {d : D} {v : V} {ds : List D} {vs : List V} (h : Rep K H d v) (t : Reps K H ds vs) : Reps K H (d :: ds) (v :: vs) := ⟨v, vs, rfl, h, t⟩
theorem Reps.length {K : PySem.W.Frag} {H : Hp} : ∀ {ds : List D} {vs : List V}, Reps K H ds vs → ds.length = vs.length
  | [], _, h => by cases h; rfl
  | _ :: _, _, h => by
    obtain ⟨v, r, rfl, _, t⟩ := h
    rw [List.length_cons, List.length_cons, t.length]
theorem Reps.append {K : PySem.W.Frag} {H : Hp} : ∀ {ds es : List D} {vs ws : List V}, Reps K H ds vs → Reps K H es ws → Reps K H (ds ++ es) (vs ++ ws)
  | [], _, _, _, h, g => by cases h; exact g
  | _ :: _, _, _, _, h, g => by
    obtain ⟨v, r, rfl, a, t⟩ := h
    exact ⟨v, _, rfl, a, t.append g⟩
theorem Reps.get {K : PySem.W.Frag} {H : Hp} : ∀ {ds : List D} {vs : List V} {i : Nat} {d : D}, Reps K H ds vs → ds[i]? = some d → ∃ v, vs[i]? = some v ∧ Rep K H d v
  | [], _, i, d, h, e => by simp at e
  | x :: ds, _, 0, d, h, e => by
    obtain ⟨v, r, rfl, a, t⟩ := h
    have : x = d := by simpa using e
    subst this
    exact ⟨v, rfl, a⟩
  | x :: ds, _, i + 1, d, h, e => by
    obtain ⟨v, r, rfl, a, t⟩ := h
    obtain ⟨w, e1, e2⟩ := t.get (i := i) (d := d) (by simpa using e)
    exact ⟨w, by simpa using e1, e2⟩
theorem Reps.getV {K : PySem.W.Frag} {H : Hp} : ∀ {ds : List D} {vs : List V} {i : Nat} {v : V}, Reps K H ds vs → vs[i]? = some v → ∃ d, ds[i]? = some d ∧ Rep K H d v
  | [], _, i, v, h, e => by
    cases h
    simp at e
  | x :: ds, _, 0, v, h, e => by
    obtain ⟨w, r, rfl, a, t⟩ := h
    have : w = v := by simpa using e
    subst this
    exact ⟨x, rfl, a⟩
  | x :: ds, _, i + 1, v, h, e => by
    obtain ⟨w, r, rfl, a, t⟩ := h
    obtain ⟨d, e1, e2⟩ := t.getV (i := i) (v := v) (by simpa using e)
    exact ⟨d, by simpa using e1, e2⟩
theorem Reps.take {K : PySem.W.Frag} {H : Hp} : ∀ {ds : List D} {vs : List V} (n : Nat), Reps K H ds vs → Reps K H (ds.take n) (vs.take n)
  | _, _, 0, _ => rfl
  | [], _, _ + 1, h => by cases h; rfl
  | _ :: _, _, n + 1, h => by
    obtain ⟨v, r, rfl, a, t⟩ := h
    exact ⟨v, _, rfl, a, t.take n⟩
theorem Reps.drop {K : PySem.W.Frag} {H : Hp} : ∀ {ds : List D} {vs : List V} (n : Nat), Reps K H ds vs → Reps K H (ds.drop n) (vs.drop n)
  | _, _, 0, h => h
  | [], _, _ + 1, h => by cases h; rfl
  | _ :: _, _, n + 1, h => by
    obtain ⟨v, r, rfl, a, t⟩ := h
    exact t.drop n
theorem Reps.set {K : PySem.W.Frag} {H : Hp} {d : D} {v : V} (q : Rep K H d v) : ∀ {ds : List D} {vs : List V} (i : Nat), Reps K H ds vs → Reps K H (ds.set i d) (vs.set i v)
  | [], _, _, h => by cases h; rfl
  | _ :: _, _, 0, h => by
    obtain ⟨w, r, rfl, a, t⟩ := h
    exact ⟨v, r, rfl, q, t⟩
  | _ :: _, _, i + 1, h => by
    obtain ⟨w, r, rfl, a, t⟩ := h
    exact ⟨w, _, rfl, a, t.set q i⟩
theorem Reps.reverse {K : PySem.W.Frag} {H : Hp} : ∀ {ds : List D} {vs : List V}, Reps K H ds vs → Reps K H ds.reverse vs.reverse
  | [], _, h => by cases h; rfl
  | _ :: _, _, h => by
    obtain ⟨v, r, rfl, a, t⟩ := h
    rw [List.reverse_cons, List.reverse_cons]
    exact t.reverse.append (.cons a .nil)
theorem Reps.map {K : PySem.W.Frag} {H : Hp} {α : Type} (f : α → D) (g : α → V) (h : ∀ x, Rep K H (f x) (g x)) : ∀ l : List α, Reps K H (l.map f) (l.map g)
  | [] => rfl
  | x :: l => ⟨_, _, rfl, h x, Reps.map f g h l⟩
/-- of ints, of texts: the values -/
theorem Reps.ints {K : PySem.W.Frag} {H : Hp} : ∀ {ns : List Int} {vs : List V}, Reps K H (ns.map D.int) vs → vs = ns.map V.int
  | [], _, h => h
  | n :: ns, _, h => by
    obtain ⟨v, r, rfl, a, t⟩ := h
    have a : v = .int n := a
    rw [a, t.ints]
    rfl
theorem Reps.bools {K : PySem.W.Frag} {H : Hp} : ∀ {ns : List Bool} {vs : List V}, Reps K H (ns.map D.bl) vs → vs = ns.map V.bl
  | [], _, h => h
  | n :: ns, _, h => by
    obtain ⟨v, r, rfl, a, t⟩ := h
    have a : v = .bl n := a
    rw [a, t.bools]
    rfl
abbrev sOf (l : List Nat) : Str := ⟨l.toArray⟩
theorem Reps.strs {K : PySem.W.Frag} {H : Hp} : ∀ {ns : List (List Nat)} {vs : List V}, Reps K H (ns.map D.str) vs → vs = (ns.map sOf).map V.str
  | [], _, h => h
  | n :: ns, _, h => by
    obtain ⟨v, r, rfl, a, t⟩ := h
    have a : v = .str ⟨n.toArray⟩ := a
    rw [a, t.strs]
    rfl

/-! ### cells -/
def RepK {α β : Type} (f : α → β) (K : PySem.W.Frag) (H : Hp) : List (α × D) → List (β × V) → Prop := Paired fun p q => f p.1 = q.1 ∧ Rep K H p.2 q.2
theorem RepK.mono {α β : Type} {f : α → β} {K : PySem.W.Frag} {H H' : Hp} (e : Tx H H') {l : List (α × D)} {m : List (β × V)} (h : RepK f K H l m) : RepK f K H' l m := Paired.mapP h fun _ _ q => ⟨q.1, q.2.mono e⟩
mutual
/-- a key's own shape -/
def nk : D → NestedKey
  | .non => .none
  | .bl b => .num (if b = true then 1 else 0)
  | .int i => .num i
  | .str l => .text ⟨l.toArray⟩
  | .tup ds => .tup (nks ds)
  | .ptr _ => .none
  | .ty _ => .none
def nks : List D → List NestedKey
  | [] => []
  | d :: ds => nk d :: nks ds
end
mutual
/-- no places, no truths within -/
def flatG : D → Bool
  | .tup ds => flatGs ds
  | .ptr _ => false
  | .ty _ => false
  | .bl _ => false
  | _ => true
def flatGs : List D → Bool
  | [] => true
  | d :: ds => flatG d && flatGs ds
end
/-- a dict whose keys are tuples, by its entries: the keys' places and the values as they lie there -/
def DgObj (P : Program) (w : World) (a : Addr) (xs : List (NestedKey × Addr × Value)) : HO := .ext fun h =>
  ∃ o es ep, h.get? a = some o ∧ o.ExactDict ∧ o.data = .dict es ep ∧ es.toList = xs.map (entryOfKey (nestedKind P w)) ∧ (xs.map (·.1)).Nodup ∧ xs.length ≤ sizeLine ∧ (a == sysModules) = false
/-- the same while it is walked: ep tells that no key has come or gone -/
def LgO (P : Program) (w : World) (a : Addr) (xs : List (NestedKey × Addr × Value)) (ep : Nat) : HO := .ext fun h =>
  ∃ o es, h.get? a = some o ∧ o.ExactDict ∧ o.data = .dict es ep ∧ es.toList = xs.map (entryOfKey (nestedKind P w)) ∧ (xs.map (·.1)).Nodup ∧ xs.length ≤ sizeLine ∧ (a == sysModules) = false
def LkO (P : Program) (w : World) (a : Addr) (ws : List (Key × V)) (ep : Nat) : HO := .ext fun h => ws.length ≤ sizeLine ∧ (a == sysModules) = false ∧ ∃ vs, KV ws vs ∧ h.DictAt (mixKind P w) a vs ep
/-- a key: a tuple, no places within, not too deep -/
def keyG (d : D) : Prop := (∃ ds, d = .tup ds) ∧ (nk d).depth ≤ 8 ∧ flatG d = true
def RepG (K : PySem.W.Frag) (H : Hp) : List (D × D) → List (NestedKey × Addr × Value) → Prop := Paired fun p q => nk p.1 = q.1 ∧ Rep K H p.1 (.ref q.2.1) ∧ ∃ v, Rep K H p.2 v ∧ RelV v q.2.2
theorem RepG.mono {K : PySem.W.Frag} {H H' : Hp} (e : Tx H H') {l : List (D × D)} {m : List (NestedKey × Addr × Value)} (h : RepG K H l m) : RepG K H' l m := Paired.mapP h fun _ _ q => ⟨q.1, q.2.1.mono e, let ⟨v, a, b⟩ := q.2.2; ⟨v, a.mono e, b⟩⟩
/-- data and a set's rows -/
def RepR (K : PySem.W.Frag) (H : Hp) : List D → List Rw → Prop := Paired fun d r => nk d = r.2 ∧ ∃ v, Rep K H d v ∧ RelV v r.1
theorem RepR.mono {K : PySem.W.Frag} {H H' : Hp} (e : Tx H H') {l : List D} {m : List Rw} (h : RepR K H l m) : RepR K H' l m := Paired.mapP h fun _ _ q => ⟨q.1, let ⟨v, a, b⟩ := q.2; ⟨v, a.mono e, b⟩⟩
/-- a tuple is known to have no dict of its own, or it holds more than references -/
def TFo : HO → Prop
  | .tup vs => ∃ v ∈ vs, ∀ r, v ≠ V.ref r
  | .frz ob (.tup _) => ob.dict = none
  | _ => True
def CellOk (P : Program) (w : World) (K : PySem.W.Frag) (H : Hp) (p : Addr) : Cell → Prop
  | .lst ds => ∃ vs, H p = some (.lst vs) ∧ Reps K H ds vs
  | .fz ds => ∃ o vs, H p = some (.frz o (.lst vs)) ∧ Reps K H ds vs
  | .dk kvs => ∃ ws, H p = some (.dK ws) ∧ RepK keyOf K H kvs ws
  | .dt kvs => ∃ ws, H p = some (.dT ws) ∧ RepK (fun k => k.map keyOf) K H kvs ws
  | .ins n fs => ∃ C dx ws, PySem.W.nsIn K mainGlobals n = some (some (.ref C)) ∧ H p = some (.ins C dx ws) ∧ RepK id K H fs ws
  | .st ds => ∃ L : List Rw, H p = some (SetHO w p L) ∧ RepR K H ds L
  | .dg kvs => ∃ xs, H p = some (DgObj P w p xs) ∧ RepG K H kvs xs ∧ ∀ q ∈ kvs, keyG q.1
  | .lk kvs ep => ∃ ws, H p = some (LkO P w p ws ep) ∧ RepK keyOf K H kvs ws
  | .lg kvs as ep => ∃ xs, H p = some (LgO P w p xs ep) ∧ xs.map (·.2.1) = as ∧ RepG K H kvs xs ∧ ∀ q ∈ kvs, keyG q.1
  | .raw o => H p = some o ∧ TFo o
theorem CellOk.there {P : Program} {w : World} {K : PySem.W.Frag} {H : Hp} {p : Addr} {c : Cell} (h : CellOk P w K H p c) : H p ≠ none := by
  intro e
  cases c with
  | lst ds => obtain ⟨_, q, _⟩ := h; rw [e] at q; cases q
  | fz ds => obtain ⟨_, _, q, _⟩ := h; rw [e] at q; cases q
  | dk ds => obtain ⟨_, q, _⟩ := h; rw [e] at q; cases q
  | dt ds => obtain ⟨_, q, _⟩ := h; rw [e] at q; cases q
  | ins C fs => obtain ⟨_, _, _, _, q, _⟩ := h; rw [e] at q; cases q
  | st ds => obtain ⟨_, q, _⟩ := h; rw [e] at q; cases q
  | dg kvs => obtain ⟨_, q, _⟩ := h; rw [e] at q; cases q
  | lk kvs ep => obtain ⟨_, q, _⟩ := h; rw [e] at q; cases q
  | lg kvs as ep => obtain ⟨_, q, _⟩ := h; rw [e] at q; cases q
  | raw o =>
    have h : H p = some o := h.1
    rw [e] at h; cases h
theorem CellOk.tfo {P : Program} {w : World} {K : PySem.W.Frag} {H : Hp} {p : Addr} {c : Cell} (h : CellOk P w K H p c) {o : HO} (e : H p = some o) : TFo o := by
  cases c with
  | lst ds => obtain ⟨_, q, _⟩ := h; rw [e] at q; cases q; trivial
  | fz ds => obtain ⟨_, _, q, _⟩ := h; rw [e] at q; cases q; trivial
  | dk ds => obtain ⟨_, q, _⟩ := h; rw [e] at q; cases q; trivial
  | dt ds => obtain ⟨_, q, _⟩ := h; rw [e] at q; cases q; trivial
  | ins C fs => obtain ⟨_, _, _, _, q, _⟩ := h; rw [e] at q; cases q; trivial
  | st ds => obtain ⟨_, q, _⟩ := h; rw [e] at q; cases q; trivial
  | dg kvs => obtain ⟨_, q, _⟩ := h; rw [e] at q; cases q; trivial
  | lk kvs ep => obtain ⟨_, q, _⟩ := h; rw [e] at q; cases q; trivial
  | lg kvs as ep => obtain ⟨_, q, _⟩ := h; rw [e] at q; cases q; trivial
  | raw o => obtain ⟨q, t⟩ := h; rw [e] at q; cases q; exact t
theorem CellOk.keep {P : Program} {w : World} {K : PySem.W.Frag} {H H' : Hp} {p : Addr} {c : Cell} (h : CellOk P w K H p c) (e : Tx H H') (k : H' p = H p) : CellOk P w K H' p c := by
  cases c with
  | lst ds => obtain ⟨vs, q, r⟩ := h; exact ⟨vs, k.trans q, r.mono e⟩
  | fz ds => obtain ⟨o, vs, q, r⟩ := h; exact ⟨o, vs, k.trans q, r.mono e⟩
  | dk ds => obtain ⟨vs, q, r⟩ := h; exact ⟨vs, k.trans q, r.mono e⟩
  | dt ds => obtain ⟨vs, q, r⟩ := h; exact ⟨vs, k.trans q, r.mono e⟩
  | ins C fs => obtain ⟨o, d, vs, n, q, r⟩ := h; exact ⟨o, d, vs, n, k.trans q, r.mono e⟩
  | st ds => obtain ⟨L, q, r⟩ := h; exact ⟨L, k.trans q, r.mono e⟩
  | dg kvs => obtain ⟨xs, q, r, g⟩ := h; exact ⟨xs, k.trans q, r.mono e, g⟩
  | lk kvs ep => obtain ⟨ws, q, r⟩ := h; exact ⟨ws, k.trans q, r.mono e⟩
  | lg kvs as ep => obtain ⟨xs, q, a, r, g⟩ := h; exact ⟨xs, k.trans q, a, r.mono e, g⟩
  | raw o => exact ⟨k.trans h.1, h.2⟩
/-- what is not told of stays as it was -/
structure Stp (H : Hp) (C : Cp) (H' : Hp) (C' : Cp) : Prop where
  tx : Tx H H'
  hid : ∀ p o, H p = some o → C p = none → H' p = some o ∧ C' p = none
theorem Stp.refl (H : Hp) (C : Cp) : Stp H C H C := ⟨Tx.refl H, fun _ _ a b => ⟨a, b⟩⟩
theorem Stp.trans {H H1 H2 : Hp} {C C1 C2 : Cp} (a : Stp H C H1 C1) (b : Stp H1 C1 H2 C2) : Stp H C H2 C2 := ⟨a.tx.trans b.tx, fun p o e n => let ⟨e1, n1⟩ := a.hid p o e n; b.hid p o e1 n1⟩
/-- a store tells less than another -/
def Sub (C C' : Cp) : Prop := ∀ p c, C p = some c → C' p = some c
theorem Sub.refl (C : Cp) : Sub C C := fun _ _ h => h
theorem Sub.trans {C C1 C2 : Cp} (a : Sub C C1) (b : Sub C1 C2) : Sub C C2 := fun p c h => b p c (a p c h)
theorem Sub.none {C C' : Cp} (a : Sub C C') {p : Addr} (h : C' p = Option.none) : C p = Option.none := by
  cases e : C p with
  | none => rfl
  | some c => rw [a p c e] at h; cases h
theorem Sub.new {C : Cp} {p : Addr} {c : Cell} (h : C p = Option.none) : Sub C (up C p c) := fun q d e => by
  rw [up_ne]
  · exact e
  · intro z
    subst z
    rw [h] at e
    cases e
/-- what a def, or a block, began with -/
structure Bs where
  H : Hp
  C : Cp
  P : Program
  w : World
structure Rl (K : PySem.W.Frag) (B : Bs) (H : Hp) (C : Cp) : Prop where
  st : Stp B.H B.C H C
  ok : ∀ p c, C p = some c → CellOk B.P B.w K H p c
  ti : ∀ p o, H p = some o → TFo o
theorem Rl.fresh {K : PySem.W.Frag} {B : Bs} {H : Hp} {C : Cp} (r : Rl K B H C) {p : Addr} (h : H p = none) : C p = none := by
  cases e : C p with
  | none => rfl
  | some c => exact absurd h (r.ok p c e).there
theorem Rl.base {K : PySem.W.Frag} {B : Bs} {H : Hp} {C : Cp} (r : Rl K B H C) : Rl K ⟨H, C, B.P, B.w⟩ H C := ⟨Stp.refl H C, r.ok, r.ti⟩
theorem Rl.rebase {K : PySem.W.Frag} {B : Bs} {H H' : Hp} {C C' : Cp} (r : Rl K B H C) (q : Rl K ⟨H, C, B.P, B.w⟩ H' C') : Rl K B H' C' := ⟨r.st.trans q.st, q.ok, q.ti⟩
theorem Stp.less {H H' : Hp} {C C' C'' : Cp} (r : Stp H C H' C') (h : Sub C'' C') : Stp H C H' C'' := ⟨r.tx, fun p o e n => ⟨(r.hid p o e n).1, h.none (r.hid p o e n).2⟩⟩
/-- less is told -/
theorem Rl.less {K : PySem.W.Frag} {B : Bs} {H : Hp} {C C' : Cp} (r : Rl K B H C) (h : Sub C' C) : Rl K B H C' := ⟨r.st.less h, fun p c e => r.ok p c (h p c e), r.ti⟩
theorem ti_upd {H : Hp} {p : Addr} {o : HO} (h : ∀ p o, H p = some o → TFo o) (t : TFo o := by trivial) : ∀ q u, upd H p o q = some u → TFo u := fun q u e => by
  by_cases z : q = p
  · subst z
    rw [upd_same] at e
    cases e
    exact t
  · rw [upd_ne z] at e
    exact h q u e
def Frz : Option HO → Prop
  | some (.tup _) => True
  | some (.frz _ _) => True
  | _ => False
theorem tx_upd {H : Hp} {p : Addr} {o : HO} (h : ¬ Frz (H p)) : Tx H (upd H p o) := by
  refine ⟨fun a xs e => ?_, fun a u xs e => ?_⟩
  · rw [upd_ne]
    · exact e
    · intro z
      subst z
      rw [e] at h
      exact h trivial
  · rw [upd_ne]
    · exact e
    · intro z
      subst z
      rw [e] at h
      exact h trivial
theorem tx_new {H : Hp} {p : Addr} {o : HO} (h : H p = none) : Tx H (upd H p o) := tx_upd (by rw [h]; exact id)
theorem stp_put {H : Hp} {C : Cp} {p : Addr} {o : HO} {c : Cell} (h : ¬ Frz (H p)) (hc : C p ≠ none ∨ H p = none) : Stp H C (upd H p o) (up C p c) := by
  refine ⟨tx_upd h, fun q u e n => ?_⟩
  have z : q ≠ p := by
    intro z
    subst z
    rcases hc with hc | hc
    · exact hc n
    · rw [hc] at e; cases e
  exact ⟨by rw [upd_ne z]; exact e, by rw [up_ne z]; exact n⟩
theorem stp_more {H : Hp} {C : Cp} {p : Addr} {o : HO} (h : H p = none) : Stp H C (upd H p o) C := ⟨tx_new h, fun q u e n => ⟨by rw [upd_ne (ne_of_none e h)]; exact e, n⟩⟩
/-- a cell is written or new -/
theorem Rl.put {K : PySem.W.Frag} {B : Bs} {H : Hp} {C : Cp} (r : Rl K B H C) {p : Addr} {o : HO} {c : Cell} (h : ¬ Frz (H p)) (hc : C p ≠ none ∨ H p = none) (new : CellOk B.P B.w K (upd H p o) p c) : Rl K B (upd H p o) (up C p c) := by
  refine ⟨r.st.trans (stp_put h hc), fun q d e => ?_, fun q u e => ?_⟩
  · by_cases z : q = p
    · subst z
      rw [up_same] at e
      cases e
      exact new
    · rw [up_ne z] at e
      exact (r.ok q d e).keep (tx_upd h) (upd_ne z)
  · by_cases z : q = p
    · subst z
      exact new.tfo e
    · rw [upd_ne z] at e
      exact r.ti q u e
/-- something new that is not told of -/
theorem Rl.more {K : PySem.W.Frag} {B : Bs} {H : Hp} {C : Cp} (r : Rl K B H C) {p : Addr} {o : HO} (h : H p = none) (t : TFo o := by trivial) : Rl K B (upd H p o) C := by
  refine ⟨r.st.trans (stp_more h), fun q d e => (r.ok q d e).keep (tx_new h) (upd_ne ?_), fun q u e => ?_⟩
  · intro z
    subst z
    exact (r.ok q d e).there h
  · by_cases z : q = p
    · subst z
      rw [upd_same] at e
      cases e
      exact t
    · rw [upd_ne z] at e
      exact r.ti q u e
theorem Rl.putNew {K : PySem.W.Frag} {B : Bs} {H : Hp} {C : Cp} (r : Rl K B H C) {p : Addr} {o : HO} {c : Cell} (h : H p = none) (new : CellOk B.P B.w K (upd H p o) p c) : Rl K B (upd H p o) (up C p c) := r.put (by rw [h]; exact id) (.inr h) new

/-! ### slots -/
def RepO (K : PySem.W.Frag) (H : Hp) (o : Option D) (x : Option V) : Prop := ∀ d, o = some d → ∃ v, x = some v ∧ Rep K H d v
def RepS (K : PySem.W.Frag) (H : Hp) (sl : Sl) (σ : L2.St) : Prop := Paired (RepO K H) sl σ
theorem RepO.mono {K : PySem.W.Frag} {H H' : Hp} (e : Tx H H') {o : Option D} {x : Option V} (h : RepO K H o x) : RepO K H' o x := fun d q => let ⟨v, e1, e2⟩ := h d q; ⟨v, e1, e2.mono e⟩
theorem RepS.mono {K : PySem.W.Frag} {H H' : Hp} (e : Tx H H') {sl : Sl} {σ : L2.St} (h : RepS K H sl σ) : RepS K H' sl σ := Paired.mapP h fun _ _ q => q.mono e
theorem RepS.get {K : PySem.W.Frag} {H : Hp} {sl : Sl} {σ : L2.St} {i : Nat} {d : D} (h : RepS K H sl σ) (e : sl[i]? = some (some d)) : ∃ v, σ[i]? = some (some v) ∧ Rep K H d v := by
  unfold RepS at h
  induction h generalizing i with
  | nil => simp at e
  | cons r t ih =>
    cases i with
    | zero =>
      simp only [List.length_cons, Nat.zero_lt_succ, getElem?_pos, List.getElem_cons_zero, Option.some.injEq] at e
      obtain ⟨v, q, h⟩ := r d e
      exact ⟨v, by rw [q]; rfl, h⟩
    | succ i =>
      obtain ⟨v, h1, h2⟩ := ih (by simpa using e)
      exact ⟨v, by simpa using h1, h2⟩
theorem RepS.set {K : PySem.W.Frag} {H : Hp} {o : Option D} {x : Option V} (r : RepO K H o x) {sl : Sl} {σ : L2.St} (i : Nat) (h : RepS K H sl σ) : RepS K H (sl.set i o) (σ.set i x) := by
  unfold RepS at h ⊢
  induction h generalizing i with
  | nil => exact .nil
  | cons q t ih =>
    cases i with
    | zero => exact .cons r t
    | succ i => exact .cons q (ih i)
theorem RepS.setD {K : PySem.W.Frag} {H : Hp} {d : D} {v : V} (r : Rep K H d v) {sl : Sl} {σ : L2.St} (i : Nat) (h : RepS K H sl σ) : RepS K H (sl.set i (some d)) (σ.set i (some v)) :=
  h.set (fun e q => by cases q; exact ⟨v, rfl, r⟩) i
def wipeD (sl : Sl) (vs : List Nat) : Sl := vs.foldr (fun v s => s.set v none) sl
theorem RepS.wipe {K : PySem.W.Frag} {H : Hp} {sl : Sl} {σ : L2.St} (h : RepS K H sl σ) : ∀ vs : List Nat, RepS K H (wipeD sl vs) (L2.wipe σ vs)
  | [] => h
  | v :: vs => (RepS.wipe h vs).set (fun d (q : Option.none = some d) => by cases q) v

/-! ### lifted readings -/
def lE (K : PySem.W.Frag) (B : Bs) (τ : DE) : TE := fun σ H Q => ∃ sl C Qd, RepS K H sl σ ∧ Rl K B H C ∧ τ sl C Qd ∧ ∀ v d H' C', Stp H C H' C' → Rl K B H' C' → Rep K H' d v → Qd d C' → Q v H'
def lT (K : PySem.W.Frag) (B : Bs) (τ : DT) : TT := fun σ H Q => ∃ sl C Qd, RepS K H sl σ ∧ Rl K B H C ∧ τ sl C Qd ∧ ∀ b H' C', Stp H C H' C' → Rl K B H' C' → Qd b C' → Q b H'
def lA (K : PySem.W.Frag) (B : Bs) (τ : DA) : TA := fun σ H Q => ∃ sl C Qd, RepS K H sl σ ∧ Rl K B H C ∧ τ sl C Qd ∧ ∀ vs ds H' C', Stp H C H' C' → Rl K B H' C' → Reps K H' ds vs → Qd ds C' → Q vs H'
structure EndsOk (K : PySem.W.Frag) (B : Bs) (H : Hp) (C : Cp) (Dd : DEnds) (D : Ends) : Prop where
  nx : ∀ σ sl H' C', Stp H C H' C' → Rl K B H' C' → RepS K H' sl σ → Dd.nx sl C' → D.nx σ H'
  rt : ∀ v d H' C', Stp H C H' C' → Rl K B H' C' → Rep K H' d v → Dd.rt d C' → D.rt v H'
  bk : ∀ σ sl H' C', Stp H C H' C' → Rl K B H' C' → RepS K H' sl σ → Dd.bk sl C' → D.bk σ H'
  ct : ∀ σ sl H' C', Stp H C H' C' → Rl K B H' C' → RepS K H' sl σ → Dd.ct sl C' → D.ct σ H'
theorem EndsOk.mono {K : PySem.W.Frag} {B : Bs} {H H1 : Hp} {C C1 : Cp} {Dd : DEnds} {D : Ends} (e : EndsOk K B H C Dd D) (t : Stp H C H1 C1) : EndsOk K B H1 C1 Dd D :=
  ⟨fun σ sl H' C' a => e.nx σ sl H' C' (t.trans a), fun σ sl H' C' a => e.rt σ sl H' C' (t.trans a), fun σ sl H' C' a => e.bk σ sl H' C' (t.trans a), fun σ sl H' C' a => e.ct σ sl H' C' (t.trans a)⟩
def lS (K : PySem.W.Frag) (B : Bs) (τ : DS) : TS := fun D σ H => ∃ sl C Dd, RepS K H sl σ ∧ Rl K B H C ∧ τ Dd sl C ∧ EndsOk K B H C Dd D
def lG (K : PySem.W.Frag) (B : Bs) (τ : DG) : TG := fun v σ H Q => ∃ d sl C Qd, Rep K H d v ∧ RepS K H sl σ ∧ Rl K B H C ∧ τ d sl C Qd ∧ ∀ σ' sl' H' C', Stp H C H' C' → Rl K B H' C' → RepS K H' sl' σ' → Qd sl' C' → Q σ' H'
def lGs (K : PySem.W.Frag) (B : Bs) (τ : DGs) : TGs := fun vs σ H Q => ∃ ds sl C Qd, Reps K H ds vs ∧ RepS K H sl σ ∧ Rl K B H C ∧ τ ds sl C Qd ∧ ∀ σ' sl' H' C', Stp H C H' C' → Rl K B H' C' → RepS K H' sl' σ' → Qd sl' C' → Q σ' H'

abbrev JE (X : Cx) (B : Bs) (e : Expr) (τ : DE) : Prop := PE X e (lE X.K B τ)
abbrev JT (X : Cx) (B : Bs) (e : Expr) (τ : DT) : Prop := PT X e (lT X.K B τ)
abbrev JW (X : Cx) (B : Bs) (e : Expr) (τ : DT) : Prop := PW X e (lT X.K B τ)
abbrev JA (X : Cx) (B : Bs) (es : List Expr) (τ : DA) : Prop := PA X es (lA X.K B τ)
abbrev JS (X : Cx) (B : Bs) (st : Stmt) (τ : DS) : Prop := PS X st (lS X.K B τ)
abbrev JSs (X : Cx) (B : Bs) (st : List Stmt) (τ : DS) : Prop := PSs X st (lS X.K B τ)
abbrev JG (X : Cx) (B : Bs) (e : Expr) (τ : DG) : Prop := PG X e (lG X.K B τ)
abbrev JGs (X : Cx) (B : Bs) (e : List Expr) (τ : DGs) : Prop := PGs X e (lGs X.K B τ)
section
variable {X : Cx} {B : Bs}
theorem PE.imp {e : Expr} {t t' : TE} (h : PE X e t) (i : ∀ σ H Q, t' σ H Q → t σ H Q) : PE X e t' := ⟨fun pins s σ H Q I q => h.run pins s σ H Q I (i σ H Q q)⟩
theorem PT.imp {e : Expr} {t t' : TT} (h : PT X e t) (i : ∀ σ H Q, t' σ H Q → t σ H Q) : PT X e t' := ⟨fun pins s σ H Q I q => h.run pins s σ H Q I (i σ H Q q)⟩
theorem PW.imp {e : Expr} {t t' : TT} (h : PW X e t) (i : ∀ σ H Q, t' σ H Q → t σ H Q) : PW X e t' := ⟨fun wh pins s σ H Q I q => h.run wh pins s σ H Q I (i σ H Q q)⟩
theorem PA.imp {e : List Expr} {t t' : TA} (h : PA X e t) (i : ∀ σ H Q, t' σ H Q → t σ H Q) : PA X e t' := ⟨fun pos pins s σ H Q I q => h.run pos pins s σ H Q I (i σ H Q q)⟩
theorem PS.imp {e : Stmt} {t t' : TS} (h : PS X e t) (i : ∀ D σ H, t' D σ H → t D σ H) : PS X e t' := ⟨fun pins s σ H D I q => h.run pins s σ H D I (i D σ H q)⟩
theorem PSs.imp {e : List Stmt} {t t' : TS} (h : PSs X e t) (i : ∀ D σ H, t' D σ H → t D σ H) : PSs X e t' := ⟨fun pins s σ H D I q => h.run pins s σ H D I (i D σ H q)⟩
theorem PG.imp {e : Expr} {t t' : TG} (h : PG X e t) (i : ∀ v σ H Q, t' v σ H Q → t v σ H Q) : PG X e t' := ⟨fun pins s σ H v u Q I r q => h.run pins s σ H v u Q I r (i v σ H Q q)⟩
theorem PGs.imp {e : List Expr} {t t' : TGs} (h : PGs X e t) (i : ∀ v σ H Q, t' v σ H Q → t v σ H Q) : PGs X e t' := ⟨fun pins s σ H v u Q I r q => h.run pins s σ H v u Q I r (i v σ H Q q)⟩

/-! ### names, constants -/
def dVar (i : Nat) : DE := fun s C Q => ∃ d, s[i]? = some (some d) ∧ Q d C
def dC (d : D) : DE := fun _ C Q => Q d C
theorem jv (i : Nat) {x : Str} {pos : Pos} (hN : X.N[i]? = some x := by rfl) (hv : Vis X.env.scope x := by first | exact Or.inl rfl | exact Or.inr (Or.inl rfl) | exact Or.inr (Or.inr rfl)) (hd : (x == ("__debug__" : Str)) = false := by decide)
    (hcd : (x == ("__classdict__" : Str)) = false := by decide) : JE X B (.Name x pos) (dVar i) := PE.imp (pe_var hN hv hd hcd) fun σ H Q h => by
  obtain ⟨sl, C, Qd, rs, rl, ⟨d, e, q⟩, k⟩ := h
  obtain ⟨v, e1, r⟩ := rs.get e
  exact ⟨v, e1, k v d H C (Stp.refl H C) rl r q⟩
theorem j_const {e : Expr} {v : V} (d : D) (h : PE X e (tC v)) (r : ∀ K H, Rep K H d v) : JE X B e (dC d) := PE.imp h fun σ H Q h => by
  obtain ⟨sl, C, Qd, rs, rl, q, k⟩ := h
  exact k v d H C (Stp.refl H C) rl (r _ _) q
theorem j_int {i j pos} : JE X B (.Constant (.int i) j pos) (dC (.int i)) := j_const _ pe_int fun _ _ => rfl
theorem j_bl {i j pos} : JE X B (.Constant (.bool i) j pos) (dC (.bl i)) := j_const _ pe_bl fun _ _ => rfl
theorem j_non {j pos} : JE X B (.Constant .none j pos) (dC .non) := j_const _ pe_non fun _ _ => rfl
/-- a text by its signs' numbers -/
theorem j_str {x : Str} {j pos} (l : List Nat) (h : x = ⟨l.toArray⟩ := by decide +kernel) : JE X B (.Constant (.str x) j pos) (dC (.str l)) := j_const _ pe_str fun _ _ => by
  show V.str x = _
  rw [h]
theorem j_globI {x : Str} {i : Int} {t : Tok} {pos : Pos} (hm : X.mg x = some (.int i t)) (hg : Gl X x := by rfl) (hd : (x == ("__debug__" : Str)) = false := by decide) : JE X B (.Name x pos) (dC (.int i)) := j_const _ (pe_glob (v := .int i) hg hm ⟨t, rfl⟩ hd) fun _ _ => rfl
theorem j_globS {x : Str} {z : Str} {t : Tok} {pos : Pos} (l : List Nat) (hm : X.mg x = some (.str z t)) (h : z = ⟨l.toArray⟩ := by decide +kernel) (hg : Gl X x := by rfl) (hd : (x == ("__debug__" : Str)) = false := by decide) : JE X B (.Name x pos) (dC (.str l)) := j_const _ (pe_glob (v := .str z) hg hm ⟨t, rfl⟩ hd) fun _ _ => by
  show V.str z = _
  rw [h]
end
end KB

/-! KB1: == of data. -/
namespace KB
open PySem PySem.Spec PyProof.Rows L2 SeqAt
mutual
def eqD : D → D → Bool
  | .non, .non => true
  | .bl a, .bl b => a == b
  | .bl a, .int j => (if a then 1 else 0) == j
  | .int i, .bl b => i == (if b then 1 else 0)
  | .int i, .int j => i == j
  | .str x, .str y => x == y
  | .tup xs, .tup ys => eqDs xs ys
  | _, _ => false
def eqDs : List D → List D → Bool
  | [], [] => true
  | x :: xs, y :: ys => eqD x y && eqDs xs ys
  | _, _ => false
end
mutual
/-- how deep; no places within -/
def dep : D → Nat
  | .tup xs => deps xs + 1
  | _ => 0
def deps : List D → Nat
  | [] => 0
  | x :: xs => max (dep x) (deps xs)
end
mutual
def npt : D → Bool
  | .tup xs => npts xs
  | .ptr _ => false
  | .ty _ => false
  | _ => true
def npts : List D → Bool
  | [] => true
  | x :: xs => npt x && npts xs
end
theorem deps_mem : ∀ {ds : List D} {d : D}, d ∈ ds → dep d ≤ deps ds
  | x :: xs, d, h => by
    unfold deps
    rcases List.mem_cons.mp h with rfl | h
    · omega
    · have := deps_mem h
      omega
theorem npts_mem : ∀ {ds : List D} {d : D}, npts ds = true → d ∈ ds → npt d = true
  | x :: xs, d, e, h => by
    unfold npts at e
    rw [Bool.and_eq_true] at e
    rcases List.mem_cons.mp h with rfl | h
    · exact e.1
    · exact npts_mem e.2 h
theorem npts_of : ∀ {ds : List D}, (∀ d ∈ ds, npt d = true) → npts ds = true
  | [], _ => rfl
  | x :: xs, h => by
    unfold npts
    rw [h x (by simp), npts_of fun d m => h d (by simp [m])]
    rfl
theorem deps_of : ∀ {ds : List D} {n : Nat}, (∀ d ∈ ds, dep d ≤ n) → deps ds ≤ n
  | [], _, _ => Nat.zero_le _
  | x :: xs, n, h => by
    unfold deps
    have h1 := h x List.mem_cons_self
    have h2 := deps_of fun d m => h d (List.mem_cons_of_mem _ m)
    omega
/-- what the tuples' rule tells is eqDs -/
theorem range_all_cons {f : Nat → Bool} {n : Nat} : (List.range (n + 1)).all f = (f 0 && (List.range n).all fun j => f (j + 1)) := by
  rw [List.range_succ_eq_map, List.all_cons, List.all_map]
  rfl
theorem eqDs_at : ∀ (ds es : List D), ((List.range (min ds.length es.length)).all (fun j => eqD (ds.getD j .non) (es.getD j .non)) && ds.length == es.length) = eqDs ds es
  | [], [] => rfl
  | [], _ :: _ => by
    unfold eqDs
    simp
  | _ :: _, [] => by
    unfold eqDs
    simp
  | x :: xs, y :: ys => by
    have ih := eqDs_at xs ys
    unfold eqDs
    rw [← ih, List.length_cons, List.length_cons, Nat.add_min_add_right, range_all_cons, Bool.and_assoc]
    have e : (xs.length + 1 == ys.length + 1) = (xs.length == ys.length) := by
      by_cases h : xs.length = ys.length
      · simp [h]
      · simp [h]
    rw [e]
    rfl
theorem getV_of {ds : List D} {vs : List V} {us : List Value} {K : PySem.W.Frag} {H : Hp} (r : Reps K H ds vs) (q : Vals vs us) {j : Nat} (h : j < us.length) : ∃ v, Rep K H (ds.getD j .non) v ∧ RelV v us[j] ∧ ds.getD j .non ∈ ds := by
  have hl : j < ds.length := by rw [r.length, q.length]; exact h
  obtain ⟨v, e1, e2⟩ := r.get (i := j) (d := ds[j]) (List.getElem?_eq_getElem hl)
  obtain ⟨u, e3, e4⟩ := q.get e1
  rw [List.getElem?_eq_getElem h] at e3
  cases e3
  have : ds.getD j .non = ds[j] := by rw [List.getD_eq_getElem?_getD, List.getElem?_eq_getElem hl]; rfl
  rw [this]
  exact ⟨v, e2, e4, List.getElem_mem hl⟩
section
variable {X : Cx} {pins : List (Addr × Obj)} {σ : L2.St} {H : Hp} {s : Shared}
theorem sOf_inj {x y : List Nat} (h : (⟨x.toArray⟩ : Str) = ⟨y.toArray⟩) : x = y := by simpa using congrArg Array.toList (congrArg Str.cps h)
mutual
theorem eqD_self : ∀ d : D, npt d = true → eqD d d = true
  | .non, _ => rfl
  | .bl b, _ => by unfold eqD; simp
  | .int i, _ => by unfold eqD; simp
  | .str l, _ => by unfold eqD; simp
  | .tup ds, h => by
    unfold eqD
    exact eqDs_self ds h
  | .ptr _, h => by unfold npt at h; cases h
  | .ty _, h => by unfold npt at h; cases h
theorem eqDs_self : ∀ ds : List D, npts ds = true → eqDs ds ds = true
  | [], _ => rfl
  | x :: xs, h => by
    unfold npts at h
    rw [Bool.and_eq_true] at h
    unfold eqDs
    rw [eqD_self x h.1, eqDs_self xs h.2]
    rfl
end
mutual
theorem rep_inj (I : Inv X pins σ H s) : ∀ (d e : D) (v : V), npt d = true → npt e = true → Rep X.K H d v → Rep X.K H e v → d = e
  | d, .ptr _, v, _, h, _, _ => by unfold npt at h; cases h
  | d, .ty _, v, _, h, _, _ => by unfold npt at h; cases h
  | .ptr _, _, v, h, _, _, _ => by unfold npt at h; cases h
  | .ty _, _, v, h, _, _, _ => by unfold npt at h; cases h
  | .non, e, v, _, _, h1, h2 => by
    cases h1
    cases e <;> first | rfl | (cases h2; done) | (obtain ⟨_, _, q, _⟩ := h2; cases q)
  | .bl b, e, v, _, _, h1, h2 => by
    cases h1
    cases e <;> first | (cases h2; rfl) | (cases h2; done) | (obtain ⟨_, _, q, _⟩ := h2; cases q)
  | .int b, e, v, _, _, h1, h2 => by
    cases h1
    cases e <;> first | (cases h2; rfl) | (cases h2; done) | (obtain ⟨_, _, q, _⟩ := h2; cases q)
  | .str b, e, v, _, _, h1, h2 => by
    cases h1
    cases e with
    | str c =>
      have h2 : V.str ⟨b.toArray⟩ = V.str ⟨c.toArray⟩ := h2
      rw [sOf_inj (V.str.inj h2)]
    | tup es => obtain ⟨_, _, q, _⟩ := h2; cases q
    | _ => cases h2
  | .tup ds, .tup es, v, n1, n2, h1, h2 => by
    obtain ⟨a, vs, rfl, q1, r1⟩ := h1
    obtain ⟨b, ws, e, q2, r2⟩ := h2
    cases e
    have := I.tuple_inj q1 q2
    subst this
    rw [reps_inj I ds es vs n1 n2 r1 r2]
  | .tup ds, .non, v, n1, n2, h1, h2 => by obtain ⟨_, _, rfl, _⟩ := h1; cases h2
  | .tup ds, .bl _, v, n1, n2, h1, h2 => by obtain ⟨_, _, rfl, _⟩ := h1; cases h2
  | .tup ds, .int _, v, n1, n2, h1, h2 => by obtain ⟨_, _, rfl, _⟩ := h1; cases h2
  | .tup ds, .str _, v, n1, n2, h1, h2 => by obtain ⟨_, _, rfl, _⟩ := h1; cases h2
theorem reps_inj (I : Inv X pins σ H s) : ∀ (ds es : List D) (vs : List V), npts ds = true → npts es = true → Reps X.K H ds vs → Reps X.K H es vs → ds = es
  | [], [], _, _, _, _, _ => rfl
  | [], _ :: _, vs, _, _, h1, h2 => by
    cases h1
    obtain ⟨_, _, q, _⟩ := h2
    cases q
  | _ :: _, [], vs, _, _, h1, h2 => by
    cases h2
    obtain ⟨_, _, q, _⟩ := h1
    cases q
  | d :: ds, e :: es, vs, n1, n2, h1, h2 => by
    unfold npts at n1 n2
    rw [Bool.and_eq_true] at n1 n2
    obtain ⟨v, r, rfl, a1, t1⟩ := h1
    obtain ⟨w, r2, q, a2, t2⟩ := h2
    cases q
    rw [rep_inj I d e v n1.1 n2.1 a1 a2, reps_inj I ds es r n1.2 n2.2 t1 t2]
end
theorem sarr_eq (x y : List Nat) : ((⟨x.toArray⟩ : Str) == ⟨y.toArray⟩) = (x == y) := by
  have : ((⟨x.toArray⟩ : Str) == ⟨y.toArray⟩) = (x.toArray == y.toArray) := by
    rw [Bool.eq_iff_iff, beq_iff_eq, beq_iff_eq]
    exact ⟨fun h => congrArg Str.cps h, fun h => by rw [h]⟩
  rw [this, Bool.eq_iff_iff, beq_iff_eq, beq_iff_eq]
  exact ⟨fun h => by simpa using congrArg Array.toList h, fun h => by rw [h]⟩
/-- == of data -/
theorem eqAt_D (I : Inv X pins σ H s) : ∀ (n : Nat) (d e : D) (A : Around) (x y : V) (u w : Value), dep d ≤ n → npt d = true → npt e = true → A.units + n < cLine → Rep X.K H d x → Rep X.K H e y → RelV x u → RelV y w → EqAt A s u w (eqD d e) := by
  intro n
  induction n with
  | zero =>
    intro d e A x y u w hd nd ne hA rd re ru rw'
    cases d with
    | tup ds => unfold dep at hd; omega
    | ptr a => exact absurd nd (by unfold npt; decide)
    | ty a => exact absurd nd (by unfold npt; decide)
    | non =>
      cases rd; cases ru
      cases e with
      | non => cases re; cases rw'; exact EqAt.same _
      | bl b => cases re; cases rw'; exact EqAt.none_bool b
      | int i => cases re; obtain ⟨t, rfl⟩ := rw'; exact EqAt.none_int i t
      | str l => cases re; obtain ⟨t, rfl⟩ := rw'; exact EqAt.none_str _ t
      | tup es =>
        obtain ⟨a, vs, rfl, hq, _⟩ := re
        cases rw'
        obtain ⟨its, _, p, _⟩ := I.tuple hq
        exact EqAt.none_tuple p (by omega)
      | ptr a => exact absurd ne (by unfold npt; decide)
      | ty a => exact absurd ne (by unfold npt; decide)
    | bl k =>
      cases rd; cases ru
      cases e with
      | non => cases re; cases rw'; exact EqAt.bool_none _
      | bl b => cases re; cases rw'; exact EqAt.bool_bool _ b
      | int i => cases re; obtain ⟨t, rfl⟩ := rw'; exact EqAt.bool_int _ i t
      | str l => cases re; obtain ⟨t, rfl⟩ := rw'; exact EqAt.bool_str _ _ t
      | tup es =>
        obtain ⟨a, vs, rfl, hq, _⟩ := re
        cases rw'
        obtain ⟨its, _, p, _⟩ := I.tuple hq
        exact EqAt.bool_tuple _ p (by omega)
      | ptr a => exact absurd ne (by unfold npt; decide)
      | ty a => exact absurd ne (by unfold npt; decide)
    | int k =>
      cases rd; obtain ⟨t0, rfl⟩ := ru
      cases e with
      | non => cases re; cases rw'; exact EqAt.int_none _ _
      | bl b => cases re; cases rw'; exact EqAt.int_bool _ _ b
      | int i => cases re; obtain ⟨t, rfl⟩ := rw'; exact EqAt.int_int _ _ i t
      | str l => cases re; obtain ⟨t, rfl⟩ := rw'; exact EqAt.int_str _ _ _ t
      | tup es =>
        obtain ⟨a, vs, rfl, hq, _⟩ := re
        cases rw'
        obtain ⟨its, _, p, _⟩ := I.tuple hq
        exact EqAt.int_tuple _ _ p (by omega)
      | ptr a => exact absurd ne (by unfold npt; decide)
      | ty a => exact absurd ne (by unfold npt; decide)
    | str k =>
      cases rd; obtain ⟨t0, rfl⟩ := ru
      cases e with
      | non => cases re; cases rw'; exact EqAt.str_none _ _
      | bl b => cases re; cases rw'; exact EqAt.str_bool _ _ b
      | int i => cases re; obtain ⟨t, rfl⟩ := rw'; exact EqAt.str_int _ _ i t
      | str l =>
        cases re; obtain ⟨t, rfl⟩ := rw'
        have h := EqAt.str_str (A := A) (s := s) ⟨k.toArray⟩ t0 ⟨l.toArray⟩ t
        rw [sarr_eq] at h
        exact h
      | tup es =>
        obtain ⟨a, vs, rfl, hq, _⟩ := re
        cases rw'
        obtain ⟨its, _, p, _⟩ := I.tuple hq
        exact EqAt.str_tuple _ _ p (by omega)
      | ptr a => exact absurd ne (by unfold npt; decide)
      | ty a => exact absurd ne (by unfold npt; decide)
  | succ n ih =>
    intro d e A x y u w hd nd ne hA rd re ru rw'
    cases d with
    | tup ds =>
      have hd : deps ds + 1 ≤ n + 1 := hd
      have nd : npts ds = true := nd
      obtain ⟨a, vs, rfl, hq, hr⟩ := rd
      cases ru
      obtain ⟨its, rv, p, _⟩ := I.tuple hq
      cases e with
      | non => cases re; cases rw'; exact EqAt.tuple_none p (by omega)
      | bl b => cases re; cases rw'; exact EqAt.tuple_bool b p (by omega)
      | int i => cases re; obtain ⟨t, rfl⟩ := rw'; exact EqAt.tuple_int i t p (by omega)
      | str l => cases re; obtain ⟨t, rfl⟩ := rw'; exact EqAt.tuple_str _ t p (by omega)
      | ptr a => exact absurd ne (by unfold npt; decide)
      | ty a => exact absurd ne (by unfold npt; decide)
      | tup es =>
        have ne : npts es = true := ne
        obtain ⟨b, ws, rfl, hq2, hr2⟩ := re
        cases rw'
        obtain ⟨its2, rv2, p2, _⟩ := I.tuple hq2
        have core : RcAt A s (.ref a) (.ref b) (eqDs ds es) := by
          have h := RcAt.tuples (A := A) (s := s) (e := fun j => eqD (ds.getD j .non) (es.getD j .non)) p p2 (by omega) (fun j h1 h2 => by
            have h1 : j < its.length := by simpa using h1
            have h2 : j < its2.length := by simpa using h2
            obtain ⟨v1, a1, a2, a3⟩ := getV_of hr rv h1
            obtain ⟨v2, b1, b2, b3⟩ := getV_of hr2 rv2 h2
            have m1 := deps_mem a3
            exact ih _ _ A.in1 v1 v2 _ _ (by omega) (npts_mem nd a3) (npts_mem ne b3) (by show A.units + 1 + n < cLine; omega) a1 b1 (by simpa using a2) (by simpa using b2))
          have l1 : its.toArray.size = ds.length := by rw [List.size_toArray, ← rv.length, ← hr.length]
          have l2 : its2.toArray.size = es.length := by rw [List.size_toArray, ← rv2.length, ← hr2.length]
          rw [l1, l2, eqDs_at] at h
          exact h
        by_cases hab : a = b
        · subst hab
          -- the same place: the rows are the same
          have hs : vs = ws := I.tuple_inj hq hq2
          subst hs
          have he : ds = es := reps_inj I ds es vs nd ne hr hr2
          subst he
          show EqAt A s _ _ (eqDs ds ds)
          rw [eqDs_self ds nd]
          exact EqAt.same _
        · exact EqAt.of_refs hab core
    | ptr a => exact absurd nd (by unfold npt; decide)
    | ty a => exact absurd nd (by unfold npt; decide)
    | non => exact ih _ _ A x y u w (by unfold dep; omega) nd ne (by omega) rd re ru rw'
    | bl k => exact ih _ _ A x y u w (by unfold dep; omega) nd ne (by omega) rd re ru rw'
    | int k => exact ih _ _ A x y u w (by unfold dep; omega) nd ne (by omega) rd re ru rw'
    | str k => exact ih _ _ A x y u w (by unfold dep; omega) nd ne (by omega) rd re ru rw'
end
end KB

/-! KB2: operators, tests, statements, loops, calls over data. -/
namespace KB
open PySem PySem.Spec PyProof.Rows L2 SeqAt
/-! ### operators by data -/
def lR (K : PySem.W.Frag) (B : Bs) (r : D → D → Cp → DQ → Prop) : R2 := fun x y H Q => ∃ dx dy C Qd, Rep K H dx x ∧ Rep K H dy y ∧ Rl K B H C ∧ r dx dy C Qd ∧ ∀ v d H' C', Stp H C H' C' → Rl K B H' C' → Rep K H' d v → Qd d C' → Q v H'
abbrev OpD (X : Cx) (B : Bs) (f : Value → Value → Sem Value) (r : D → D → Cp → DQ → Prop) : Prop := OpR X f (lR X.K B r)
def lU (K : PySem.W.Frag) (B : Bs) (r : D → Cp → DQ → Prop) : V → Hp → VK → Prop := fun x H Q => ∃ dx C Qd, Rep K H dx x ∧ Rl K B H C ∧ r dx C Qd ∧ ∀ v d H' C', Stp H C H' C' → Rl K B H' C' → Rep K H' d v → Qd d C' → Q v H'
def lC (K : PySem.W.Frag) (B : Bs) (r : List D → Cp → DQ → Prop) : List V → Hp → VK → Prop := fun xs H Q => ∃ ds C Qd, Reps K H ds xs ∧ Rl K B H C ∧ r ds C Qd ∧ ∀ v d H' C', Stp H C H' C' → Rl K B H' C' → Rep K H' d v → Qd d C' → Q v H'
abbrev CallD (X : Cx) (B : Bs) (f : Value) (r : List D → Cp → DQ → Prop) : Prop := CallR X f (lC X.K B r)
def lM (K : PySem.W.Frag) (B : Bs) (r : D → List D → Cp → DQ → Prop) : V → List V → Hp → VK → Prop := fun x xs H Q => ∃ d ds C Qd, Rep K H d x ∧ Reps K H ds xs ∧ Rl K B H C ∧ r d ds C Qd ∧ ∀ v e H' C', Stp H C H' C' → Rl K B H' C' → Rep K H' e v → Qd e C' → Q v H'
abbrev MtD (X : Cx) (B : Bs) (id : String) (r : D → List D → Cp → DQ → Prop) : Prop := MtR X id (lM X.K B r)

def addD : D → D → Cp → DQ → Prop
  | .int a, .int b, C, Q => Q (.int (a + b)) C
  | .str a, .str b, C, Q => a.length + b.length ≤ sizeLine ∧ Q (.str (a ++ b)) C
  | .tup a, .tup b, C, Q => a.length + b.length ≤ sizeLine ∧ Q (.tup (a ++ b)) C
  | .ptr a, .ptr b, C, Q => ∃ xs ys, C a = some (.lst xs) ∧ C b = some (.lst ys) ∧ xs.length + ys.length ≤ sizeLine ∧ ∀ p, C p = none → Q (.ptr p) (up C p (.lst (xs ++ ys)))
  | _, _, _, _ => False
def subD : D → D → Cp → DQ → Prop
  | .int a, .int b, C, Q => Q (.int (a - b)) C
  | _, _, _, _ => False
def mulD : D → D → Cp → DQ → Prop
  | .int a, .int b, C, Q => CMulW a b ∧ Q (.int (a * b)) C
  | .ptr a, .int k, C, Q => ∃ xs, C a = some (.lst xs) ∧ -(2 ^ 63) ≤ k ∧ k < 2 ^ 63 ∧ xs.length * k.toNat ≤ sizeLine ∧ ∀ p, C p = none → Q (.ptr p) (up C p (.lst (List.replicate k.toNat xs).flatten))
  | _, _, _, _ => False
def modD : D → D → Cp → DQ → Prop
  | .int a, .int b, C, Q => 0 < b ∧ Q (.int (a % b)) C
  | _, _, _, _ => False
def fdivD : D → D → Cp → DQ → Prop
  | .int a, .int b, C, Q => CDivW a b ∧ Q (.int (a / b)) C
  | _, _, _, _ => False
def powD : D → D → Cp → DQ → Prop
  | .int a, .int b, C, Q => CPow a b ∧ Q (.int (a ^ b.toNat)) C
  | _, _, _, _ => False
def ltD : D → D → Cp → DQ → Prop
  | .int a, .int b, C, Q => Q (.bl (decide (a < b))) C
  | .str a, .str b, C, Q => Q (.bl (decide (a < b))) C
  | _, _, _, _ => False
def leD : D → D → Cp → DQ → Prop
  | .int a, .int b, C, Q => Q (.bl (decide (a ≤ b))) C
  | .str a, .str b, C, Q => Q (.bl (!decide (b < a))) C
  | _, _, _, _ => False
def gtD : D → D → Cp → DQ → Prop
  | .int a, .int b, C, Q => Q (.bl (decide (b < a))) C
  | .str a, .str b, C, Q => Q (.bl (decide (b < a))) C
  | _, _, _, _ => False
def geD : D → D → Cp → DQ → Prop
  | .int a, .int b, C, Q => Q (.bl (decide (b ≤ a))) C
  | .str a, .str b, C, Q => Q (.bl (!decide (a < b))) C
  | _, _, _, _ => False
/-- what == may be asked of: data without places, of small depth; lists of such -/
def okEq (d : D) : Prop := npt d = true ∧ dep d ≤ 60
def okEqs (ds : List D) : Prop := npts ds = true ∧ deps ds ≤ 60
def isL (C : Cp) (p : Addr) (ds : List D) : Prop := C p = some (.lst ds) ∨ C p = some (.fz ds)
def eqR (neg : Bool) : D → D → Cp → DQ → Prop
  | .ptr p, .ptr q, C, Q => ∃ ds es, isL C p ds ∧ isL C q es ∧ okEqs ds ∧ npts es = true ∧ Q (.bl (if neg then !eqDs ds es else eqDs ds es)) C
  | .ptr p, d, C, Q => ∃ ds, isL C p ds ∧ npt d = true ∧ Q (.bl neg) C
  | d, .ptr p, C, Q => ∃ ds, isL C p ds ∧ npt d = true ∧ Q (.bl neg) C
  | d, e, C, Q => okEq d ∧ npt e = true ∧ Q (.bl (if neg then !eqD d e else eqD d e)) C
theorem isL.sq {K : PySem.W.Frag} {B : Bs} {H : Hp} {C : Cp} (r : Rl K B H C) {p : Addr} {ds : List D} (h : isL C p ds) : ∃ vs, SqL K H p vs ∧ Reps K H ds vs := by
  rcases h with h | h
  · obtain ⟨vs, e, q⟩ := r.ok _ _ h
    exact ⟨vs, .inl (.inl e), q⟩
  · obtain ⟨o, vs, e, q⟩ := r.ok _ _ h
    exact ⟨vs, .inl (.inr ⟨o, e⟩), q⟩
theorem Rl.cells {K : PySem.W.Frag} {B : Bs} {H : Hp} {C : Cp} (r : Rl K B H C) {p : Addr} {ds : List D} (h : C p = some (.lst ds)) : ∃ vs, H p = some (.lst vs) ∧ Reps K H ds vs := r.ok _ _ h
theorem CMulW_small {a b : Int} (h : (-(2 ^ 64) < a ∧ a < 2 ^ 64) ∧ -(2 ^ 64) < b ∧ b < 2 ^ 64) : CMulW a b := wide_mul (a := 64) (b := 64) (by omega) (by omega) (by decide) (by decide) (by decide)
theorem CDivW_small {a b : Int} (h : 0 < b ∧ b < 2 ^ 100) : CDivW a b := wide_div (b := 100) h.1 (by omega) (by decide) (by decide)
section
variable {X : Cx} {B : Bs} {pos : Pos} {a b c : Expr} {ta tb tc : DE}
theorem op_addD : OpD X B (binaryOp .Add) addD := by
  intro pins s σ H x y v u Q I rx ry h
  obtain ⟨dx, dy, C, Qd, r1, r2, rl, h, k⟩ := h
  cases dx with
  | int a =>
    cases dy with
    | int b =>
      cases r1; cases r2
      exact op_add pins s σ H _ _ v u Q I rx ry ⟨_, _, rfl, rfl, k _ (.int (a + b)) H C (Stp.refl _ _) rl rfl h⟩
    | _ => exact False.elim h
  | str a =>
    cases dy with
    | str b =>
      cases r1; cases r2
      refine op_add_str pins s σ H _ _ v u Q I rx ry ⟨_, _, rfl, rfl, ?_, k _ (.str (a ++ b)) H C (Stp.refl _ _) rl ?_ h.2⟩
      · show a.toArray.size + b.toArray.size ≤ sizeLine
        simpa using h.1
      · show V.str _ = V.str _
        congr 1
        exact TL.ext_tl (by rw [TL.tl_append])
    | _ => exact False.elim h
  | tup a =>
    cases dy with
    | tup b =>
      obtain ⟨p, vs, rfl, hp, hr⟩ := r1
      obtain ⟨q, ws, rfl, hq, hr2⟩ := r2
      refine op_catF pins s σ H _ _ v u Q I rx ry ⟨_, _, _, _, rfl, rfl, hp, hq, ?_, fun e => ?_, fun e e2 => ?_, fun e e2 t ob ht hob => ?_⟩
      · rw [← hr.length, ← hr2.length]
        exact h.1
      · subst e
        have : a = [] := List.length_eq_zero_iff.mp (by rw [hr.length] <;> rfl)
        subst this
        exact k _ (.tup ([] ++ b)) H C (Stp.refl _ _) rl ⟨_, _, rfl, hq, hr2⟩ h.2
      · subst e2
        have : b = [] := List.length_eq_zero_iff.mp (by rw [hr2.length] <;> rfl)
        subst this
        have h2 := h.2
        rw [List.append_nil] at h2
        exact k _ (.tup a) H C (Stp.refl _ _) rl ⟨_, _, rfl, hp, hr⟩ h2
      · exact k _ (.tup (a ++ b)) _ C (stp_more ht) (rl.more ht hob) ⟨t, _, rfl, .inl (.inr ⟨_, upd_same⟩), (hr.append hr2).mono (tx_new ht)⟩ h.2
    | _ => exact False.elim h
  | ptr a =>
    cases dy with
    | ptr b =>
      cases r1; cases r2
      obtain ⟨xs, ys, ha, hb, hz, h⟩ := h
      obtain ⟨vs, e1, q1⟩ := rl.cells ha
      obtain ⟨ws, e2, q2⟩ := rl.cells hb
      refine op_cat pins s σ H _ _ v u Q I rx ry ⟨_, _, _, _, rfl, rfl, e1, e2, ?_, fun p hp => ?_⟩
      · rw [← q1.length, ← q2.length]
        exact hz
      · exact k _ (.ptr p) _ (up C p (.lst (xs ++ ys))) (stp_put (by rw [hp]; exact id) (.inr hp)) (rl.putNew hp ⟨_, upd_same, (q1.append q2).mono (tx_new hp)⟩) rfl (h p (rl.fresh hp))
    | _ => exact False.elim h
  | _ => exact False.elim h
theorem opI_D {f : Value → Value → Sem Value} {Cn : Int → Int → Prop} {g : Int → Int → V} {g' : Int → Int → D} (hr : OpR X f (rI Cn g)) (hg : ∀ i j K H, Rep K H (g' i j) (g i j)) {i j : Int} {pins : List (Addr × Obj)} {s : Shared} {σ : L2.St} {H : Hp} {C : Cp} {v u : Value} {Q : VK} {Qd : DQ}
    (I : Inv X pins σ H s) (rx : RelV (.int i) v) (ry : RelV (.int j) u) (rl : Rl X.K B H C) (hc : Cn i j) (h : Qd (g' i j) C) (k : ∀ v d H' C', Stp H C H' C' → Rl X.K B H' C' → Rep X.K H' d v → Qd d C' → Q v H') : wpAny (model X.prog X.w) X.A (f v u) (EP X pins σ Q) X.xe s :=
  hr pins s σ H _ _ v u Q I rx ry ⟨_, _, rfl, rfl, hc, k _ (g' i j) H C (Stp.refl _ _) rl (hg _ _ _ _) h⟩
theorem op_subD : OpD X B (binaryOp .Sub) subD := by
  intro pins s σ H x y v u Q I rx ry h
  obtain ⟨dx, dy, C, Qd, r1, r2, rl, h, k⟩ := h
  cases dx with
  | int a =>
    cases dy with
    | int b =>
      cases r1; cases r2
      exact op_sub pins s σ H _ _ v u Q I rx ry ⟨_, _, rfl, rfl, k _ (.int (a - b)) H C (Stp.refl _ _) rl rfl h⟩
    | _ => exact False.elim h
  | _ => exact False.elim h
theorem op_mulD : OpD X B (binaryOp .Mult) mulD := by
  intro pins s σ H x y v u Q I rx ry h
  obtain ⟨dx, dy, C, Qd, r1, r2, rl, h, k⟩ := h
  cases dx with
  | int a =>
    cases dy with
    | int b =>
      cases r1; cases r2
      exact opI_D (g' := fun i j => .int (i * j)) op_mulW (fun _ _ _ _ => rfl) I rx ry rl h.1 h.2 k
    | _ => exact False.elim h
  | ptr a =>
    cases dy with
    | int b =>
      cases r1; cases r2
      obtain ⟨xs, ha, h1, h2, h3, h⟩ := h
      obtain ⟨vs, e1, q1⟩ := rl.cells ha
      refine op_rep pins s σ H _ _ v u Q I rx ry ⟨_, _, _, rfl, rfl, e1, h1, h2, by rw [← q1.length]; exact h3, fun p hp => ?_⟩
      have q2 : ∀ n : Nat, Reps X.K H (List.replicate n xs).flatten (List.replicate n vs).flatten := by
        intro n
        induction n with
        | zero => exact .nil
        | succ n ih =>
          rw [List.replicate_succ, List.replicate_succ, List.flatten_cons, List.flatten_cons]
          exact q1.append ih
      exact k _ (.ptr p) _ (up C p (.lst _)) (stp_put (by rw [hp]; exact id) (.inr hp)) (rl.putNew hp ⟨_, upd_same, (q2 _).mono (tx_new hp)⟩) rfl (h p (rl.fresh hp))
    | _ => exact False.elim h
  | _ => exact False.elim h
theorem op_modD : OpD X B (binaryOp .Mod) modD := by
  intro pins s σ H x y v u Q I rx ry h
  obtain ⟨dx, dy, C, Qd, r1, r2, rl, h, k⟩ := h
  cases dx with
  | int a =>
    cases dy with
    | int b =>
      cases r1; cases r2
      exact opI_D (g' := fun i j => .int (i % j)) op_mod (fun _ _ _ _ => rfl) I rx ry rl h.1 h.2 k
    | _ => exact False.elim h
  | _ => exact False.elim h
theorem op_fdivD : OpD X B (binaryOp .FloorDiv) fdivD := by
  intro pins s σ H x y v u Q I rx ry h
  obtain ⟨dx, dy, C, Qd, r1, r2, rl, h, k⟩ := h
  cases dx with
  | int a =>
    cases dy with
    | int b =>
      cases r1; cases r2
      exact opI_D (g' := fun i j => .int (i / j)) op_fdivW (fun _ _ _ _ => rfl) I rx ry rl h.1 h.2 k
    | _ => exact False.elim h
  | _ => exact False.elim h
theorem op_powD : OpD X B (binaryOp .Pow) powD := by
  intro pins s σ H x y v u Q I rx ry h
  obtain ⟨dx, dy, C, Qd, r1, r2, rl, h, k⟩ := h
  cases dx with
  | int a =>
    cases dy with
    | int b =>
      cases r1; cases r2
      exact opI_D (g' := fun i j => .int (i ^ j.toNat)) op_pow (fun _ _ _ _ => rfl) I rx ry rl h.1 h.2 k
    | _ => exact False.elim h
  | _ => exact False.elim h
theorem op_ltD : OpD X B (compareOp .Lt) ltD := by
  intro pins s σ H x y v u Q I rx ry h
  obtain ⟨dx, dy, C, Qd, r1, r2, rl, h, k⟩ := h
  cases dx with
  | int a =>
    cases dy with
    | int b =>
      cases r1; cases r2
      exact op_lt pins s σ H _ _ v u Q I rx ry ⟨_, _, rfl, rfl, k _ (.bl _) H C (Stp.refl _ _) rl rfl h⟩
    | _ => exact False.elim h
  | str a =>
    cases dy with
    | str b =>
      cases r1; cases r2
      exact op_lt_str pins s σ H _ _ v u Q I rx ry ⟨_, _, rfl, rfl, k _ (.bl (decide (a < b))) H C (Stp.refl _ _) rl rfl h⟩
    | _ => exact False.elim h
  | _ => exact False.elim h
theorem op_leD : OpD X B (compareOp .LtE) leD := by
  intro pins s σ H x y v u Q I rx ry h
  obtain ⟨dx, dy, C, Qd, r1, r2, rl, h, k⟩ := h
  cases dx with
  | int a =>
    cases dy with
    | int b =>
      cases r1; cases r2
      exact op_le pins s σ H _ _ v u Q I rx ry ⟨_, _, rfl, rfl, k _ (.bl _) H C (Stp.refl _ _) rl rfl h⟩
    | _ => exact False.elim h
  | str a =>
    cases dy with
    | str b =>
      cases r1; cases r2
      exact op_le_str pins s σ H _ _ v u Q I rx ry ⟨_, _, rfl, rfl, k _ (.bl (!decide (b < a))) H C (Stp.refl _ _) rl rfl h⟩
    | _ => exact False.elim h
  | _ => exact False.elim h
theorem op_gtD : OpD X B (compareOp .Gt) gtD := by
  intro pins s σ H x y v u Q I rx ry h
  obtain ⟨dx, dy, C, Qd, r1, r2, rl, h, k⟩ := h
  cases dx with
  | int a =>
    cases dy with
    | int b =>
      cases r1; cases r2
      exact op_gt pins s σ H _ _ v u Q I rx ry ⟨_, _, rfl, rfl, k _ (.bl _) H C (Stp.refl _ _) rl rfl h⟩
    | _ => exact False.elim h
  | str a =>
    cases dy with
    | str b =>
      cases r1; cases r2
      exact op_gt_str pins s σ H _ _ v u Q I rx ry ⟨_, _, rfl, rfl, k _ (.bl (decide (b < a))) H C (Stp.refl _ _) rl rfl h⟩
    | _ => exact False.elim h
  | _ => exact False.elim h
theorem op_geD : OpD X B (compareOp .GtE) geD := by
  intro pins s σ H x y v u Q I rx ry h
  obtain ⟨dx, dy, C, Qd, r1, r2, rl, h, k⟩ := h
  cases dx with
  | int a =>
    cases dy with
    | int b =>
      cases r1; cases r2
      exact op_ge pins s σ H _ _ v u Q I rx ry ⟨_, _, rfl, rfl, k _ (.bl _) H C (Stp.refl _ _) rl rfl h⟩
    | _ => exact False.elim h
  | str a =>
    cases dy with
    | str b =>
      cases r1; cases r2
      exact op_ge_str pins s σ H _ _ v u Q I rx ry ⟨_, _, rfl, rfl, k _ (.bl (!decide (a < b))) H C (Stp.refl _ _) rl rfl h⟩
    | _ => exact False.elim h
  | _ => exact False.elim h
end
end KB

/-! KB3: == and != as operators. -/
namespace KB
open PySem PySem.Spec PyProof.Rows SeqAt
open L2 hiding op_eqD op_neD
section
variable {X : Cx} {pins : List (Addr × Obj)} {σ : L2.St} {H : Hp} {s : Shared}
theorem RcAt_D (I : L2.Inv X pins σ H s) (d e : D) (A : Around) (x y : V) (u w : Value) (hd : dep d ≤ 60) (nd : npt d = true) (ne : npt e = true) (hA : A.units + 60 < cLine) (rd : Rep X.K H d x) (re : Rep X.K H e y) (ru : RelV x u) (rw' : RelV y w) : RcAt A s u w (eqD d e) := by
  cases d with
  | ptr a => exact absurd nd (by unfold npt; decide)
  | ty a => exact absurd nd (by unfold npt; decide)
  | non =>
    cases rd; cases ru
    cases e with
    | ptr a => exact absurd ne (by unfold npt; decide)
    | ty a => exact absurd ne (by unfold npt; decide)
    | non =>
      cases re; cases rw'
      exact RcAt.none_none 
    | bl l =>
      cases re; cases rw'
      exact RcAt.none_bool _
    | int l =>
      cases re; obtain ⟨t, rfl⟩ := rw'
      exact RcAt.none_int _ _
    | str l =>
      cases re; obtain ⟨t, rfl⟩ := rw'
      exact RcAt.none_str _ _
    | tup es =>
      have ne : npts es = true := ne
      obtain ⟨b, ws, rfl, hq2, hr2⟩ := re
      cases rw'
      obtain ⟨its2, rv2, p2, _⟩ := I.tuple hq2
      exact RcAt.none_tuple  p2 (by omega)
  | bl k =>
    cases rd; cases ru
    cases e with
    | ptr a => exact absurd ne (by unfold npt; decide)
    | ty a => exact absurd ne (by unfold npt; decide)
    | non =>
      cases re; cases rw'
      exact RcAt.bool_none _
    | bl l =>
      cases re; cases rw'
      exact RcAt.bool_bool _ _
    | int l =>
      cases re; obtain ⟨t, rfl⟩ := rw'
      exact RcAt.bool_int _ _ _
    | str l =>
      cases re; obtain ⟨t, rfl⟩ := rw'
      exact RcAt.bool_str _ _ _
    | tup es =>
      have ne : npts es = true := ne
      obtain ⟨b, ws, rfl, hq2, hr2⟩ := re
      cases rw'
      obtain ⟨its2, rv2, p2, _⟩ := I.tuple hq2
      exact RcAt.bool_tuple _ p2 (by omega)
  | int k =>
    cases rd; obtain ⟨t0, rfl⟩ := ru
    cases e with
    | ptr a => exact absurd ne (by unfold npt; decide)
    | ty a => exact absurd ne (by unfold npt; decide)
    | non =>
      cases re; cases rw'
      exact RcAt.int_none _ _
    | bl l =>
      cases re; cases rw'
      exact RcAt.int_bool _ _ _
    | int l =>
      cases re; obtain ⟨t, rfl⟩ := rw'
      exact RcAt.int_int _ _ _ _
    | str l =>
      cases re; obtain ⟨t, rfl⟩ := rw'
      exact RcAt.int_str _ _ _ _
    | tup es =>
      have ne : npts es = true := ne
      obtain ⟨b, ws, rfl, hq2, hr2⟩ := re
      cases rw'
      obtain ⟨its2, rv2, p2, _⟩ := I.tuple hq2
      exact RcAt.int_tuple _ _ p2 (by omega)
  | str k =>
    cases rd; obtain ⟨t0, rfl⟩ := ru
    cases e with
    | ptr a => exact absurd ne (by unfold npt; decide)
    | ty a => exact absurd ne (by unfold npt; decide)
    | non =>
      cases re; cases rw'
      exact RcAt.str_none _ _
    | bl l =>
      cases re; cases rw'
      exact RcAt.str_bool _ _ _
    | int l =>
      cases re; obtain ⟨t, rfl⟩ := rw'
      exact RcAt.str_int _ _ _ _
    | str l =>
      cases re; obtain ⟨t, rfl⟩ := rw'
      have h := RcAt.str_str (A := A) (s := s) ⟨k.toArray⟩ t0 ⟨l.toArray⟩ t
      rw [sarr_eq] at h
      exact h
    | tup es =>
      have ne : npts es = true := ne
      obtain ⟨b, ws, rfl, hq2, hr2⟩ := re
      cases rw'
      obtain ⟨its2, rv2, p2, _⟩ := I.tuple hq2
      exact RcAt.str_tuple _ _ p2 (by omega)
  | tup ds =>
    have nd : npts ds = true := nd
    have hd : deps ds + 1 ≤ 60 := hd
    obtain ⟨a, vs, rfl, hq, hr⟩ := rd
    cases ru
    obtain ⟨its, rv, p, _⟩ := I.tuple hq
    cases e with
    | ptr a => exact absurd ne (by unfold npt; decide)
    | ty a => exact absurd ne (by unfold npt; decide)
    | non =>
      cases re; cases rw'
      exact RcAt.tuple_none  p (by omega)
    | bl l =>
      cases re; cases rw'
      exact RcAt.tuple_bool _ p (by omega)
    | int l =>
      cases re; obtain ⟨t, rfl⟩ := rw'
      exact RcAt.tuple_int _ _ p (by omega)
    | str l =>
      cases re; obtain ⟨t, rfl⟩ := rw'
      exact RcAt.tuple_str _ _ p (by omega)
    | tup es =>
      have ne : npts es = true := ne
      obtain ⟨b, ws, rfl, hq2, hr2⟩ := re
      cases rw'
      obtain ⟨its2, rv2, p2, _⟩ := I.tuple hq2
      have h := RcAt.tuples (A := A) (s := s) (e := fun j => eqD (ds.getD j .non) (es.getD j .non)) p p2 (by omega) (fun j h1 h2 => by
        have h1 : j < its.length := by simpa using h1
        have h2 : j < its2.length := by simpa using h2
        obtain ⟨v1, a1, a2, a3⟩ := getV_of hr rv h1
        obtain ⟨v2, b1, b2, b3⟩ := getV_of hr2 rv2 h2
        have m1 := deps_mem a3
        exact eqAt_D I 59 _ _ A.in1 v1 v2 _ _ (by omega) (npts_mem nd a3) (npts_mem ne b3) (by show A.units + 1 + 59 < cLine; omega) a1 b1 (by simpa using a2) (by simpa using b2))
      have l1 : its.toArray.size = ds.length := by rw [List.size_toArray, ← rv.length, ← hr.length]
      have l2 : its2.toArray.size = es.length := by rw [List.size_toArray, ← rv2.length, ← hr2.length]
      rw [l1, l2, eqDs_at] at h
      exact h
theorem RcAt_L (I : L2.Inv X pins σ H s) (ds es : List D) (A : Around) (p q : Addr) (hd : deps ds ≤ 60) (nd : npts ds = true) (ne : npts es = true) (hA : A.units + 70 < cLine) (rd : ∃ vs, SqL X.K H p vs ∧ Reps X.K H ds vs) (re : ∃ vs, SqL X.K H q vs ∧ Reps X.K H es vs) : RcAt A s (.ref p) (.ref q) (eqDs ds es) := by
  obtain ⟨vs, hq, hr⟩ := rd
  obtain ⟨ws, hq2, hr2⟩ := re
  obtain ⟨its, rv, pl, _⟩ := I.list hq
  obtain ⟨its2, rv2, pl2, _⟩ := I.list hq2
  have l1 : its.toArray.size = ds.length := by rw [List.size_toArray, ← rv.length, ← hr.length]
  have l2 : its2.toArray.size = es.length := by rw [List.size_toArray, ← rv2.length, ← hr2.length]
  by_cases hl : ds.length = es.length
  · have h := RcAt.lists (A := A) (s := s) (e := fun j => eqD (ds.getD j .non) (es.getD j .non)) pl.isList pl2.isList (by rw [l1, l2, hl]) (by omega) (fun j h1 h2 => by
      have h1 : j < its.length := by simpa using h1
      have h2 : j < its2.length := by simpa using h2
      obtain ⟨v1, a1, a2, a3⟩ := getV_of hr rv h1
      obtain ⟨v2, b1, b2, b3⟩ := getV_of hr2 rv2 h2
      have m1 := deps_mem a3
      exact eqAt_D I 60 _ _ A.in1 v1 v2 _ _ (by omega) (npts_mem nd a3) (npts_mem ne b3) (by show A.units + 1 + 60 < cLine; omega) a1 b1 (by simpa using a2) (by simpa using b2))
    have e := eqDs_at ds es
    rw [← hl, Nat.min_self, beq_self_eq_true, Bool.and_true] at e
    rw [l1, e] at h
    exact h
  · have e : eqDs ds es = false := by
      rw [← eqDs_at, beq_eq_false_iff_ne.mpr hl, Bool.and_false]
    rw [e]
    exact RcAt.lists_lengths pl.isList pl2.isList (by rw [l1, l2]; simpa using hl) (by omega)
theorem RcAt_Ld (I : L2.Inv X pins σ H s) (e : D) (A : Around) (p : Addr) (y : V) (w : Value) (ne : npt e = true) (hA : A.units + 70 < cLine) (rd : ∃ vs, SqL X.K H p vs) (re : Rep X.K H e y) (rw' : RelV y w) : RcAt A s (.ref p) w false := by
  obtain ⟨vs, hq⟩ := rd
  obtain ⟨its, rv, pl, _⟩ := I.list hq
  cases e with
  | ptr a => exact absurd ne (by unfold npt; decide)
  | ty a => exact absurd ne (by unfold npt; decide)
  | non => cases re; cases rw'; exact RcAt.list_none pl.isList (by omega)
  | bl b => cases re; cases rw'; exact RcAt.list_bool b pl.isList (by omega)
  | int i => cases re; obtain ⟨t, rfl⟩ := rw'; exact RcAt.list_int _ _ pl.isList (by omega)
  | str l => cases re; obtain ⟨t, rfl⟩ := rw'; exact RcAt.list_str _ _ pl.isList (by omega)
  | tup es =>
    obtain ⟨b, ws, rfl, hq2, hr2⟩ := re
    cases rw'
    obtain ⟨its2, rv2, p2, _⟩ := I.tuple hq2
    exact RcAt.list_tuple pl.isList p2 (by omega)
theorem RcAt_dL (I : L2.Inv X pins σ H s) (e : D) (A : Around) (p : Addr) (y : V) (w : Value) (ne : npt e = true) (hA : A.units + 70 < cLine) (rd : ∃ vs, SqL X.K H p vs) (re : Rep X.K H e y) (rw' : RelV y w) : RcAt A s w (.ref p) false := by
  obtain ⟨vs, hq⟩ := rd
  obtain ⟨its, rv, pl, _⟩ := I.list hq
  cases e with
  | ptr a => exact absurd ne (by unfold npt; decide)
  | ty a => exact absurd ne (by unfold npt; decide)
  | non => cases re; cases rw'; exact RcAt.none_list pl.isList (by omega)
  | bl b => cases re; cases rw'; exact RcAt.bool_list b pl.isList (by omega)
  | int i => cases re; obtain ⟨t, rfl⟩ := rw'; exact RcAt.int_list _ _ pl.isList (by omega)
  | str l => cases re; obtain ⟨t, rfl⟩ := rw'; exact RcAt.str_list _ _ pl.isList (by omega)
  | tup es =>
    obtain ⟨b, ws, rfl, hq2, hr2⟩ := re
    cases rw'
    obtain ⟨its2, rv2, p2, _⟩ := I.tuple hq2
    exact RcAt.tuple_list p2 pl.isList (by omega)
theorem RcNeAt_D (I : L2.Inv X pins σ H s) (d e : D) (A : Around) (x y : V) (u w : Value) (hd : dep d ≤ 60) (nd : npt d = true) (ne : npt e = true) (hA : A.units + 60 < cLine) (rd : Rep X.K H d x) (re : Rep X.K H e y) (ru : RelV x u) (rw' : RelV y w) : RcNeAt A s u w (!eqD d e) := by
  cases d with
  | ptr a => exact absurd nd (by unfold npt; decide)
  | ty a => exact absurd nd (by unfold npt; decide)
  | non =>
    cases rd; cases ru
    cases e with
    | ptr a => exact absurd ne (by unfold npt; decide)
    | ty a => exact absurd ne (by unfold npt; decide)
    | non =>
      cases re; cases rw'
      exact RcNeAt.none_none 
    | bl l =>
      cases re; cases rw'
      exact RcNeAt.none_bool _
    | int l =>
      cases re; obtain ⟨t, rfl⟩ := rw'
      exact RcNeAt.none_int _ _
    | str l =>
      cases re; obtain ⟨t, rfl⟩ := rw'
      exact RcNeAt.none_str _ _
    | tup es =>
      have ne : npts es = true := ne
      obtain ⟨b, ws, rfl, hq2, hr2⟩ := re
      cases rw'
      obtain ⟨its2, rv2, p2, _⟩ := I.tuple hq2
      exact RcNeAt.none_tuple  p2 (by omega)
  | bl k =>
    cases rd; cases ru
    cases e with
    | ptr a => exact absurd ne (by unfold npt; decide)
    | ty a => exact absurd ne (by unfold npt; decide)
    | non =>
      cases re; cases rw'
      exact RcNeAt.bool_none _
    | bl l =>
      cases re; cases rw'
      exact RcNeAt.bool_bool _ _
    | int l =>
      cases re; obtain ⟨t, rfl⟩ := rw'
      exact RcNeAt.bool_int _ _ _
    | str l =>
      cases re; obtain ⟨t, rfl⟩ := rw'
      exact RcNeAt.bool_str _ _ _
    | tup es =>
      have ne : npts es = true := ne
      obtain ⟨b, ws, rfl, hq2, hr2⟩ := re
      cases rw'
      obtain ⟨its2, rv2, p2, _⟩ := I.tuple hq2
      exact RcNeAt.bool_tuple _ p2 (by omega)
  | int k =>
    cases rd; obtain ⟨t0, rfl⟩ := ru
    cases e with
    | ptr a => exact absurd ne (by unfold npt; decide)
    | ty a => exact absurd ne (by unfold npt; decide)
    | non =>
      cases re; cases rw'
      exact RcNeAt.int_none _ _
    | bl l =>
      cases re; cases rw'
      exact RcNeAt.int_bool _ _ _
    | int l =>
      cases re; obtain ⟨t, rfl⟩ := rw'
      exact RcNeAt.int_int _ _ _ _
    | str l =>
      cases re; obtain ⟨t, rfl⟩ := rw'
      exact RcNeAt.int_str _ _ _ _
    | tup es =>
      have ne : npts es = true := ne
      obtain ⟨b, ws, rfl, hq2, hr2⟩ := re
      cases rw'
      obtain ⟨its2, rv2, p2, _⟩ := I.tuple hq2
      exact RcNeAt.int_tuple _ _ p2 (by omega)
  | str k =>
    cases rd; obtain ⟨t0, rfl⟩ := ru
    cases e with
    | ptr a => exact absurd ne (by unfold npt; decide)
    | ty a => exact absurd ne (by unfold npt; decide)
    | non =>
      cases re; cases rw'
      exact RcNeAt.str_none _ _
    | bl l =>
      cases re; cases rw'
      exact RcNeAt.str_bool _ _ _
    | int l =>
      cases re; obtain ⟨t, rfl⟩ := rw'
      exact RcNeAt.str_int _ _ _ _
    | str l =>
      cases re; obtain ⟨t, rfl⟩ := rw'
      have h := RcNeAt.str_str (A := A) (s := s) ⟨k.toArray⟩ t0 ⟨l.toArray⟩ t
      rw [sarr_eq] at h
      exact h
    | tup es =>
      have ne : npts es = true := ne
      obtain ⟨b, ws, rfl, hq2, hr2⟩ := re
      cases rw'
      obtain ⟨its2, rv2, p2, _⟩ := I.tuple hq2
      exact RcNeAt.str_tuple _ _ p2 (by omega)
  | tup ds =>
    have nd : npts ds = true := nd
    have hd : deps ds + 1 ≤ 60 := hd
    obtain ⟨a, vs, rfl, hq, hr⟩ := rd
    cases ru
    obtain ⟨its, rv, p, _⟩ := I.tuple hq
    cases e with
    | ptr a => exact absurd ne (by unfold npt; decide)
    | ty a => exact absurd ne (by unfold npt; decide)
    | non =>
      cases re; cases rw'
      exact RcNeAt.tuple_none  p (by omega)
    | bl l =>
      cases re; cases rw'
      exact RcNeAt.tuple_bool _ p (by omega)
    | int l =>
      cases re; obtain ⟨t, rfl⟩ := rw'
      exact RcNeAt.tuple_int _ _ p (by omega)
    | str l =>
      cases re; obtain ⟨t, rfl⟩ := rw'
      exact RcNeAt.tuple_str _ _ p (by omega)
    | tup es =>
      have ne : npts es = true := ne
      obtain ⟨b, ws, rfl, hq2, hr2⟩ := re
      cases rw'
      obtain ⟨its2, rv2, p2, _⟩ := I.tuple hq2
      have h := RcNeAt.tuples (A := A) (s := s) (e := fun j => eqD (ds.getD j .non) (es.getD j .non)) p p2 (by omega) (fun j h1 h2 => by
        have h1 : j < its.length := by simpa using h1
        have h2 : j < its2.length := by simpa using h2
        obtain ⟨v1, a1, a2, a3⟩ := getV_of hr rv h1
        obtain ⟨v2, b1, b2, b3⟩ := getV_of hr2 rv2 h2
        have m1 := deps_mem a3
        exact eqAt_D I 59 _ _ A.in1 v1 v2 _ _ (by omega) (npts_mem nd a3) (npts_mem ne b3) (by show A.units + 1 + 59 < cLine; omega) a1 b1 (by simpa using a2) (by simpa using b2))
      have l1 : its.toArray.size = ds.length := by rw [List.size_toArray, ← rv.length, ← hr.length]
      have l2 : its2.toArray.size = es.length := by rw [List.size_toArray, ← rv2.length, ← hr2.length]
      rw [l1, l2, eqDs_at] at h
      exact h
theorem RcNeAt_L (I : L2.Inv X pins σ H s) (ds es : List D) (A : Around) (p q : Addr) (hd : deps ds ≤ 60) (nd : npts ds = true) (ne : npts es = true) (hA : A.units + 70 < cLine) (rd : ∃ vs, SqL X.K H p vs ∧ Reps X.K H ds vs) (re : ∃ vs, SqL X.K H q vs ∧ Reps X.K H es vs) : RcNeAt A s (.ref p) (.ref q) (!eqDs ds es) := by
  obtain ⟨vs, hq, hr⟩ := rd
  obtain ⟨ws, hq2, hr2⟩ := re
  obtain ⟨its, rv, pl, _⟩ := I.list hq
  obtain ⟨its2, rv2, pl2, _⟩ := I.list hq2
  have l1 : its.toArray.size = ds.length := by rw [List.size_toArray, ← rv.length, ← hr.length]
  have l2 : its2.toArray.size = es.length := by rw [List.size_toArray, ← rv2.length, ← hr2.length]
  by_cases hl : ds.length = es.length
  · have h := RcNeAt.lists (A := A) (s := s) (e := fun j => eqD (ds.getD j .non) (es.getD j .non)) pl.isList pl2.isList (by rw [l1, l2, hl]) (by omega) (fun j h1 h2 => by
      have h1 : j < its.length := by simpa using h1
      have h2 : j < its2.length := by simpa using h2
      obtain ⟨v1, a1, a2, a3⟩ := getV_of hr rv h1
      obtain ⟨v2, b1, b2, b3⟩ := getV_of hr2 rv2 h2
      have m1 := deps_mem a3
      exact eqAt_D I 60 _ _ A.in1 v1 v2 _ _ (by omega) (npts_mem nd a3) (npts_mem ne b3) (by show A.units + 1 + 60 < cLine; omega) a1 b1 (by simpa using a2) (by simpa using b2))
    have e := eqDs_at ds es
    rw [← hl, Nat.min_self, beq_self_eq_true, Bool.and_true] at e
    rw [l1, e] at h
    exact h
  · have e : eqDs ds es = false := by
      rw [← eqDs_at, beq_eq_false_iff_ne.mpr hl, Bool.and_false]
    rw [e]
    exact RcNeAt.lists_lengths pl.isList pl2.isList (by rw [l1, l2]; simpa using hl) (by omega)
theorem RcNeAt_Ld (I : L2.Inv X pins σ H s) (e : D) (A : Around) (p : Addr) (y : V) (w : Value) (ne : npt e = true) (hA : A.units + 70 < cLine) (rd : ∃ vs, SqL X.K H p vs) (re : Rep X.K H e y) (rw' : RelV y w) : RcNeAt A s (.ref p) w true := by
  obtain ⟨vs, hq⟩ := rd
  obtain ⟨its, rv, pl, _⟩ := I.list hq
  cases e with
  | ptr a => exact absurd ne (by unfold npt; decide)
  | ty a => exact absurd ne (by unfold npt; decide)
  | non => cases re; cases rw'; exact RcNeAt.list_none pl.isList (by omega)
  | bl b => cases re; cases rw'; exact RcNeAt.list_bool b pl.isList (by omega)
  | int i => cases re; obtain ⟨t, rfl⟩ := rw'; exact RcNeAt.list_int _ _ pl.isList (by omega)
  | str l => cases re; obtain ⟨t, rfl⟩ := rw'; exact RcNeAt.list_str _ _ pl.isList (by omega)
  | tup es =>
    obtain ⟨b, ws, rfl, hq2, hr2⟩ := re
    cases rw'
    obtain ⟨its2, rv2, p2, _⟩ := I.tuple hq2
    exact RcNeAt.list_tuple pl.isList p2 (by omega)
theorem RcNeAt_dL (I : L2.Inv X pins σ H s) (e : D) (A : Around) (p : Addr) (y : V) (w : Value) (ne : npt e = true) (hA : A.units + 70 < cLine) (rd : ∃ vs, SqL X.K H p vs) (re : Rep X.K H e y) (rw' : RelV y w) : RcNeAt A s w (.ref p) true := by
  obtain ⟨vs, hq⟩ := rd
  obtain ⟨its, rv, pl, _⟩ := I.list hq
  cases e with
  | ptr a => exact absurd ne (by unfold npt; decide)
  | ty a => exact absurd ne (by unfold npt; decide)
  | non => cases re; cases rw'; exact RcNeAt.none_list pl.isList (by omega)
  | bl b => cases re; cases rw'; exact RcNeAt.bool_list b pl.isList (by omega)
  | int i => cases re; obtain ⟨t, rfl⟩ := rw'; exact RcNeAt.int_list _ _ pl.isList (by omega)
  | str l => cases re; obtain ⟨t, rfl⟩ := rw'; exact RcNeAt.str_list _ _ pl.isList (by omega)
  | tup es =>
    obtain ⟨b, ws, rfl, hq2, hr2⟩ := re
    cases rw'
    obtain ⟨its2, rv2, p2, _⟩ := I.tuple hq2
    exact RcNeAt.tuple_list p2 pl.isList (by omega)
end
section
variable {X : Cx} {B : Bs}
theorem op_eqD (hu : X.A.units + 70 < cLine) : OpD X B (compareOp .Eq) (eqR false) := by
  intro pins s σ H x y v u Q I rx ry h
  obtain ⟨dx, dy, C, Qd, r1, r2, rl, h, k⟩ := h
  have fin : ∀ b : Bool, RcAt X.A s v u b → Qd (.bl b) C → wpAny (model X.prog X.w) X.A (compareOp .Eq v u) (EP X pins σ Q) X.xe s := fun b hb hq => hb X.prog X.w _ _ ⟨.bl b, H, I, rfl, k _ (.bl b) H C (Stp.refl _ _) rl rfl hq⟩
  have gen : ∀ dx dy : D, Rep X.K H dx x → Rep X.K H dy y → okEq dx ∧ npt dy = true ∧ Qd (.bl (eqD dx dy)) C → wpAny (model X.prog X.w) X.A (compareOp .Eq v u) (EP X pins σ Q) X.xe s := fun dx dy a b ⟨⟨h1, h2⟩, h3, h4⟩ => fin _ (RcAt_D I dx dy X.A x y v u h2 h1 h3 (by omega) a b rx ry) h4
  cases dx with
  | ptr p =>
    cases r1; cases rx
    cases dy with
    | ptr q =>
      cases r2; cases ry
      obtain ⟨ds, es, h1, h2, ⟨h3, h4⟩, h5, h6⟩ := h
      exact fin _ (RcAt_L I ds es X.A p q h4 h3 h5 hu (h1.sq rl) (h2.sq rl)) h6
    | _ =>
      obtain ⟨ds, h1, h2, h3⟩ := h
      exact fin _ (RcAt_Ld I _ X.A p y u h2 hu (let ⟨vs, q, _⟩ := h1.sq rl; ⟨vs, q⟩) r2 ry) h3
  | _ =>
    cases dy with
    | ptr p =>
      cases r2; cases ry
      obtain ⟨ds, h1, h2, h3⟩ := h
      exact fin _ (RcAt_dL I _ X.A p x v h2 hu (let ⟨vs, q, _⟩ := h1.sq rl; ⟨vs, q⟩) r1 rx) h3
    | _ => exact gen _ _ r1 r2 h
theorem op_neD (hu : X.A.units + 70 < cLine) : OpD X B (compareOp .NotEq) (eqR true) := by
  intro pins s σ H x y v u Q I rx ry h
  obtain ⟨dx, dy, C, Qd, r1, r2, rl, h, k⟩ := h
  have fin : ∀ b : Bool, RcNeAt X.A s v u b → Qd (.bl b) C → wpAny (model X.prog X.w) X.A (compareOp .NotEq v u) (EP X pins σ Q) X.xe s := fun b hb hq => hb X.prog X.w _ _ ⟨.bl b, H, I, rfl, k _ (.bl b) H C (Stp.refl _ _) rl rfl hq⟩
  have gen : ∀ dx dy : D, Rep X.K H dx x → Rep X.K H dy y → okEq dx ∧ npt dy = true ∧ Qd (.bl (!eqD dx dy)) C → wpAny (model X.prog X.w) X.A (compareOp .NotEq v u) (EP X pins σ Q) X.xe s := fun dx dy a b ⟨⟨h1, h2⟩, h3, h4⟩ => fin _ (RcNeAt_D I dx dy X.A x y v u h2 h1 h3 (by omega) a b rx ry) h4
  cases dx with
  | ptr p =>
    cases r1; cases rx
    cases dy with
    | ptr q =>
      cases r2; cases ry
      obtain ⟨ds, es, h1, h2, ⟨h3, h4⟩, h5, h6⟩ := h
      exact fin _ (RcNeAt_L I ds es X.A p q h4 h3 h5 hu (h1.sq rl) (h2.sq rl)) h6
    | _ =>
      obtain ⟨ds, h1, h2, h3⟩ := h
      exact fin _ (RcNeAt_Ld I _ X.A p y u h2 hu (let ⟨vs, q, _⟩ := h1.sq rl; ⟨vs, q⟩) r2 ry) h3
  | _ =>
    cases dy with
    | ptr p =>
      cases r2; cases ry
      obtain ⟨ds, h1, h2, h3⟩ := h
      exact fin _ (RcNeAt_dL I _ X.A p x v h2 hu (let ⟨vs, q, _⟩ := h1.sq rl; ⟨vs, q⟩) r1 rx) h3
    | _ => exact gen _ _ r1 r2 h
end
end KB

/-! KB4: expressions, tests, statements over data. -/
namespace KB
open PySem PySem.Spec PyProof.Rows SeqAt
open L2 hiding op_eqD op_neD
theorem repB {K : PySem.W.Frag} {H : Hp} (b : Bool) : Rep K H (.bl b) (.bl b) := rfl
theorem repI {K : PySem.W.Frag} {H : Hp} (b : Int) : Rep K H (.int b) (.int b) := rfl
theorem repN {K : PySem.W.Frag} {H : Hp} : Rep K H .non .non := rfl
theorem repP {K : PySem.W.Frag} {H : Hp} (p : Addr) : Rep K H (.ptr p) (.ref p) := rfl
theorem repS {K : PySem.W.Frag} {H : Hp} (l : List Nat) : Rep K H (.str l) (.str ⟨l.toArray⟩) := rfl
section
variable {X : Cx} {B : Bs} {pos : Pos} {a b c : Expr} {ta tb tc : DE} {rest : List Expr}
/-! ### operators -/
def dOp (r : D → D → Cp → DQ → Prop) (ta tb : DE) : DE := fun s C Q => ta s C fun x C1 => tb s C1 fun y C2 => r x y C2 Q
theorem op_lift {K : PySem.W.Frag} {r : D → D → Cp → DQ → Prop} {σ : L2.St} {H : Hp} {Q : VK} (h : lE K B (dOp r ta tb) σ H Q) : tOp (lR K B r) (lE K B ta) (lE K B tb) σ H Q := by
  obtain ⟨sl, C, Qd, rs, rl, h, k⟩ := h
  exact ⟨sl, C, _, rs, rl, h, fun x dx H1 C1 st1 rl1 rx h1 => ⟨sl, C1, _, rs.mono st1.tx, rl1, h1, fun y dy H2 C2 st2 rl2 ry h2 => ⟨dx, dy, C2, Qd, rx.mono st2.tx, ry, rl2, h2, fun v d H' C' st => k v d H' C' ((st1.trans st2).trans st)⟩⟩⟩
theorem j_op {op : Operator} {r : D → D → Cp → DQ → Prop} (ho : OpD X B (binaryOp op) r) (ha : JE X B a ta) (hb : JE X B b tb) : JE X B (.BinOp a op b pos) (dOp r ta tb) := PE.imp (pe_op ho ha hb) fun _ _ _ h => op_lift h
theorem j_cmp {op : CmpOp} {r : D → D → Cp → DQ → Prop} (ho : OpD X B (compareOp op) r) (ha : JE X B a ta) (hb : JE X B b tb) (hm : behindInMarks op b = false := by first | exact nobehind _ (by decide) (by decide) | rfl) : JE X B (.Compare a [op] [b] pos) (dOp r ta tb) :=
  PE.imp (pe_cmpR ho ha hb hm) fun _ _ _ h => op_lift h
def dTest (t : DE) : DT := fun s C Q => t s C fun d C1 => ∃ b, d = .bl b ∧ Q b C1
theorem jt_cmp {op : CmpOp} {r : D → D → Cp → DQ → Prop} (ho : OpD X B (compareOp op) r) (ha : JE X B a ta) (hb : JE X B b tb) (hm : behindInMarks op b = false := by first | exact nobehind _ (by decide) (by decide) | rfl) : JT X B (.Compare a [op] [b] pos) (dTest (dOp r ta tb)) :=
  PT.imp (pt_cmpR ho ha hb hm) fun σ H Q h => by
    obtain ⟨sl, C, Qd, rs, rl, h, k⟩ := h
    refine op_lift (Q := fun x H' => ∃ k, x = .bl k ∧ Q k H') ⟨sl, C, _, rs, rl, h, fun v d H' C' st rl' r ⟨b, e, q⟩ => ?_⟩
    subst e
    exact ⟨b, r, k b H' C' st rl' q⟩
def dChain (r r' : D → D → Cp → DQ → Prop) (ta tb tc : DE) : DE := fun s C Q => ta s C fun x C1 => tb s C1 fun y C2 => r x y C2 fun z C3 => ∃ k, z = .bl k ∧ (if k = true then tc s C3 fun w C4 => r' y w C4 Q else Q (.bl false) C3)
theorem chain_lift {K : PySem.W.Frag} {r r' : D → D → Cp → DQ → Prop} {σ : L2.St} {H : Hp} {Q : VK} (h : lE K B (dChain r r' ta tb tc) σ H Q) : tChain (lR K B r) (lR K B r') (lE K B ta) (lE K B tb) (lE K B tc) σ H Q := by
  obtain ⟨sl, C, Qd, rs, rl, h, k⟩ := h
  refine ⟨sl, C, _, rs, rl, h, fun x dx H1 C1 st1 rl1 rx h1 => ⟨sl, C1, _, rs.mono st1.tx, rl1, h1, fun y dy H2 C2 st2 rl2 ry h2 => ⟨dx, dy, C2, _, rx.mono st2.tx, ry, rl2, h2, fun v d H3 C3 st3 rl3 rv ⟨kk, e, q⟩ => ?_⟩⟩⟩
  subst e
  refine ⟨kk, rv, ?_⟩
  cases kk with
  | true => exact ⟨sl, C3, _, rs.mono ((st1.trans st2).trans st3).tx, rl3, q, fun w dw H4 C4 st4 rl4 rw4 h4 => ⟨dy, dw, C4, Qd, ry.mono (st3.trans st4).tx, rw4, rl4, h4, fun v d H' C' st => k v d H' C' ((((st1.trans st2).trans st3).trans st4).trans st)⟩⟩
  | false => exact k _ _ H3 C3 ((st1.trans st2).trans st3) rl3 (repB _) q
theorem j_chain {op op' : CmpOp} {r r' : D → D → Cp → DQ → Prop} (ho : OpD X B (compareOp op) r) (ho' : OpD X B (compareOp op') r') (ha : JE X B a ta) (hb : JE X B b tb) (hc : JE X B c tc) (hm : lastMarks [op, op'] [b, c] = false := by with_unfolding_all rfl) :
    JE X B (.Compare a [op, op'] [b, c] pos) (dChain r r' ta tb tc) := PE.imp (pe_chain ho ho' ha hb hc hm) fun _ _ _ h => chain_lift h
theorem jt_chain {op op' : CmpOp} {r r' : D → D → Cp → DQ → Prop} (ho : OpD X B (compareOp op) r) (ho' : OpD X B (compareOp op') r') (ha : JE X B a ta) (hb : JE X B b tb) (hc : JE X B c tc) (hm : lastMarks [op, op'] [b, c] = false := by with_unfolding_all rfl) :
    JT X B (.Compare a [op, op'] [b, c] pos) (dTest (dChain r r' ta tb tc)) := PT.imp (pt_chain ho ho' ha hb hc hm) fun σ H Q h => by
  obtain ⟨sl, C, Qd, rs, rl, h, k⟩ := h
  refine chain_lift (Q := fun x H' => ∃ k, x = .bl k ∧ Q k H') ⟨sl, C, _, rs, rl, h, fun v d H' C' st rl' r ⟨b, e, q⟩ => ?_⟩
  subst e
  exact ⟨b, r, k b H' C' st rl' q⟩
/-! is None -/
def isNR (neg : Bool) : D → D → Cp → DQ → Prop := fun x y C Q => y = .non ∧ Q (.bl (match x with | .non => !neg | _ => neg)) C
theorem op_isND : OpD X B (compareOp .Is) (isNR false) := by
  intro pins s σ H x y v u Q I rx ry h
  obtain ⟨dx, dy, C, Qd, r1, r2, rl, ⟨e, h⟩, k⟩ := h
  subst e
  cases r2
  refine op_isN pins s σ H x _ v u Q I rx ry ⟨rfl, ?_⟩
  cases dx with
  | tup ds => obtain ⟨a, vs, rfl, _⟩ := r1; exact k _ _ H C (Stp.refl _ _) rl (repB _) h
  | _ => cases r1; exact k _ _ H C (Stp.refl _ _) rl (repB _) h
theorem op_isNND : OpD X B (compareOp .IsNot) (isNR true) := by
  intro pins s σ H x y v u Q I rx ry h
  obtain ⟨dx, dy, C, Qd, r1, r2, rl, ⟨e, h⟩, k⟩ := h
  subst e
  cases r2
  refine op_notN pins s σ H x _ v u Q I rx ry ⟨rfl, ?_⟩
  cases dx with
  | tup ds => obtain ⟨a, vs, rfl, _⟩ := r1; exact k _ _ H C (Stp.refl _ _) rl (repB _) h
  | _ => cases r1; exact k _ _ H C (Stp.refl _ _) rl (repB _) h

/-! ### tests -/
def truD (C : Cp) : D → Bool → Prop
  | .non, k => k = false
  | .bl b, k => k = b
  | .int i, k => k = (i != 0)
  | .str l, k => l.length ≤ sizeLine ∧ k = !l.isEmpty
  | .tup ds, k => k = !ds.isEmpty
  | .ptr p, k => (∃ ds, isL C p ds ∧ k = !ds.isEmpty) ∨ ∃ kvs, C p = some (.dk kvs) ∧ k = !kvs.isEmpty
  | .ty _, _ => False
theorem isEmpty_reps {K : PySem.W.Frag} {H : Hp} {ds : List D} {vs : List V} (r : Reps K H ds vs) : (!ds.isEmpty) = !vs.isEmpty := by
  have := r.length
  cases ds <;> cases vs <;> simp_all
theorem truD_ok {K : PySem.W.Frag} {H : Hp} {C : Cp} (rl : Rl K B H C) {d : D} {x : V} {k : Bool} (r : Rep K H d x) (h : truD C d k) : TruV K x H k := by
  cases d with
  | non => cases r; exact h
  | bl b => cases r; exact h
  | int i => cases r; exact h
  | str l =>
    cases r
    refine ⟨by simpa [Str.length] using h.1, ?_⟩
    rw [h.2]
    cases l with
    | nil => rfl
    | cons x l =>
      show true = (((l.length + 1 : Nat) : Int) != 0)
      symm
      rw [bne_iff_ne]
      omega
  | tup ds =>
    obtain ⟨a, vs, rfl, hq, hr⟩ := r
    have h : k = !ds.isEmpty := h
    exact .inr (.inl ⟨vs, hq, by rw [h, isEmpty_reps hr]⟩)
  | ptr p =>
    cases r
    rcases h with ⟨ds, hl, h⟩ | ⟨kvs, hl, h⟩
    · obtain ⟨vs, hq, hr⟩ := hl.sq rl
      exact .inl ⟨vs, hq, by rw [h, isEmpty_reps hr]⟩
    · obtain ⟨ws, e, q⟩ := rl.ok _ _ hl
      refine .inr (.inr ⟨ws, e, ?_⟩)
      rw [h]
      have := Paired.length q
      cases kvs <;> cases ws <;> simp_all
  | ty _ => exact h.elim
def dTru (t : DE) : DT := fun s C Q => t s C fun d C1 => ∃ k, truD C1 d k ∧ Q k C1
theorem jt_tru (ha : JE X B a ta) (he : ∀ whole, isTrue a X.env whole = (do let v ← whole; standAt a.pos; holding [v] (truthy v)) := by intro _; rfl) : JT X B a (dTru ta) := PT.imp (pt_truth ha he) fun σ H Q h => by
  obtain ⟨sl, C, Qd, rs, rl, h, k⟩ := h
  exact ⟨sl, C, _, rs, rl, h, fun v d H' C' st rl' r ⟨b, t, q⟩ => ⟨b, truD_ok rl' r t, k b H' C' st rl' q⟩⟩
def dAnd (t u : DT) : DT := fun s C Q => t s C fun c C1 => if c = true then u s C1 Q else Q false C1
def dOr (t u : DT) : DT := fun s C Q => t s C fun c C1 => if c = true then Q true C1 else u s C1 Q
def dNot (t : DT) : DT := fun s C Q => t s C fun c C1 => Q (!c) C1
variable {tA tB : DT}
theorem jw_and1 (ha : JT X B a tA) : JW X B (.BoolOp .And [a] pos) tA := pw_and1 ha
theorem jw_or1 (ha : JT X B a tA) : JW X B (.BoolOp .Or [a] pos) tA := pw_or1 ha
theorem jw_and (ha : JT X B a tA) (hb : JW X B (.BoolOp .And (b :: rest) pos) tB) : JW X B (.BoolOp .And (a :: b :: rest) pos) (dAnd tA tB) := PW.imp (pw_and ha hb) fun σ H Q h => by
  obtain ⟨sl, C, Qd, rs, rl, h, k⟩ := h
  refine ⟨sl, C, _, rs, rl, h, fun c H1 C1 st1 rl1 q => ?_⟩
  cases c with
  | true => exact ⟨sl, C1, Qd, rs.mono st1.tx, rl1, q, fun b H' C' st => k b H' C' (st1.trans st)⟩
  | false => exact k _ H1 C1 st1 rl1 q
theorem jw_or (ha : JT X B a tA) (hb : JW X B (.BoolOp .Or (b :: rest) pos) tB) : JW X B (.BoolOp .Or (a :: b :: rest) pos) (dOr tA tB) := PW.imp (pw_or ha hb) fun σ H Q h => by
  obtain ⟨sl, C, Qd, rs, rl, h, k⟩ := h
  refine ⟨sl, C, _, rs, rl, h, fun c H1 C1 st1 rl1 q => ?_⟩
  cases c with
  | false => exact ⟨sl, C1, Qd, rs.mono st1.tx, rl1, q, fun b H' C' st => k b H' C' (st1.trans st)⟩
  | true => exact k _ H1 C1 st1 rl1 q
theorem jt_w (h : JW X B a tA) : JT X B a tA := PW.pt h
theorem jt_not (ha : JT X B a tA) : JT X B (.UnaryOp .Not a pos) (dNot tA) := PT.imp (pt_not ha) fun σ H Q h => by
  obtain ⟨sl, C, Qd, rs, rl, h, k⟩ := h
  exact ⟨sl, C, _, rs, rl, h, fun c H1 C1 st1 rl1 q => k _ H1 C1 st1 rl1 q⟩
/-! as values -/
def dOrT (ta tb : DE) : DE := fun s C Q => ta s C fun x C1 => ∃ k, truD C1 x k ∧ if k = true then Q x C1 else tb s C1 Q
def dAndT (ta tb : DE) : DE := fun s C Q => ta s C fun x C1 => ∃ k, truD C1 x k ∧ if k = true then tb s C1 Q else Q x C1
def dNotT (ta : DE) : DE := fun s C Q => ta s C fun x C1 => ∃ k, truD C1 x k ∧ Q (.bl (!k)) C1
theorem j_one {op} (h : JE X B a ta) : JE X B (.BoolOp op [a] pos) ta := pe_one h
theorem j_or (ha : JE X B a ta) (hb : JE X B (.BoolOp .Or (b :: rest) pos) tb) : JE X B (.BoolOp .Or (a :: b :: rest) pos) (dOrT ta tb) := PE.imp (pe_orT ha hb) fun σ H Q h => by
  obtain ⟨sl, C, Qd, rs, rl, h, k⟩ := h
  refine ⟨sl, C, _, rs, rl, h, fun v d H1 C1 st1 rl1 r ⟨kk, t, q⟩ => ⟨kk, truD_ok rl1 r t, ?_⟩⟩
  cases kk with
  | true => exact k _ _ H1 C1 st1 rl1 r q
  | false => exact ⟨sl, C1, Qd, rs.mono st1.tx, rl1, q, fun v d H' C' st => k v d H' C' (st1.trans st)⟩
theorem j_and (ha : JE X B a ta) (hb : JE X B (.BoolOp .And (b :: rest) pos) tb) : JE X B (.BoolOp .And (a :: b :: rest) pos) (dAndT ta tb) := PE.imp (pe_andT ha hb) fun σ H Q h => by
  obtain ⟨sl, C, Qd, rs, rl, h, k⟩ := h
  refine ⟨sl, C, _, rs, rl, h, fun v d H1 C1 st1 rl1 r ⟨kk, t, q⟩ => ⟨kk, truD_ok rl1 r t, ?_⟩⟩
  cases kk with
  | false => exact k _ _ H1 C1 st1 rl1 r q
  | true => exact ⟨sl, C1, Qd, rs.mono st1.tx, rl1, q, fun v d H' C' st => k v d H' C' (st1.trans st)⟩
theorem j_not (ha : JE X B a ta) : JE X B (.UnaryOp .Not a pos) (dNotT ta) := PE.imp (pe_notT ha) fun σ H Q h => by
  obtain ⟨sl, C, Qd, rs, rl, h, k⟩ := h
  exact ⟨sl, C, _, rs, rl, h, fun v d H1 C1 st1 rl1 r ⟨kk, t, q⟩ => ⟨kk, truD_ok rl1 r t, k _ _ H1 C1 st1 rl1 (repB _) q⟩⟩
def dIfE (t : DT) (ta tb : DE) : DE := fun s C Q => t s C fun c C1 => if c = true then ta s C1 Q else tb s C1 Q
theorem j_ifExp (hc : JT X B c tA) (ha : JE X B a ta) (hb : JE X B b tb) : JE X B (.IfExp c a b pos) (dIfE tA ta tb) := PE.imp (pe_ifExp hc ha hb) fun σ H Q h => by
  obtain ⟨sl, C, Qd, rs, rl, h, k⟩ := h
  refine ⟨sl, C, _, rs, rl, h, fun cc H1 C1 st1 rl1 q => ?_⟩
  cases cc with
  | true => exact ⟨sl, C1, Qd, rs.mono st1.tx, rl1, q, fun v d H' C' st => k v d H' C' (st1.trans st)⟩
  | false => exact ⟨sl, C1, Qd, rs.mono st1.tx, rl1, q, fun v d H' C' st => k v d H' C' (st1.trans st)⟩
def dNeg (ta : DE) : DE := fun s C Q => ta s C fun x C1 => ∃ i, x = .int i ∧ Q (.int (-i)) C1
theorem j_neg (ha : JE X B a ta) : JE X B (.UnaryOp .USub a pos) (dNeg ta) := PE.imp (pe_un un_neg ha) fun σ H Q h => by
  obtain ⟨sl, C, Qd, rs, rl, h, k⟩ := h
  refine ⟨sl, C, _, rs, rl, h, fun v d H1 C1 st1 rl1 r ⟨i, e, q⟩ => ?_⟩
  subst e
  exact ⟨i, r, k _ (.int (-i)) H1 C1 st1 rl1 rfl q⟩

/-! ### arguments, displays -/
def dNil : DA := fun _ C Q => Q [] C
def dCons (t : DE) (u : DA) : DA := fun s C Q => t s C fun x C1 => u s C1 fun xs C2 => Q (x :: xs) C2
variable {es : List Expr} {tr : DA}
theorem jas_nil : JA X B [] dNil := PA.imp pa_nil fun σ H Q h => by
  obtain ⟨sl, C, Qd, rs, rl, h, k⟩ := h
  exact k [] [] H C (Stp.refl _ _) rl rfl h
theorem jas_cons (ha : JE X B a ta) (hr : JA X B es tr) (hs : starEach (a :: es) X.env = (false, eval a X.env) :: starEach es X.env := by rfl) : JA X B (a :: es) (dCons ta tr) := PA.imp (pa_cons ha hr hs) fun σ H Q h => by
  obtain ⟨sl, C, Qd, rs, rl, h, k⟩ := h
  refine ⟨sl, C, _, rs, rl, h, fun v d H1 C1 st1 rl1 r q => ⟨sl, C1, _, rs.mono st1.tx, rl1, q, fun vs ds H2 C2 st2 rl2 r2 q2 => ?_⟩⟩
  exact k _ _ H2 C2 (st1.trans st2) rl2 (.cons (r.mono st2.tx) r2) q2
def dTup (t : DA) : DE := fun s C Q => t s C fun ds C1 => ds.length ≤ 1000 ∧ Q (.tup ds) C1
def dLst (t : DA) : DE := fun s C Q => t s C fun ds C1 => ds.length ≤ 1000 ∧ ∀ p, C1 p = none → Q (.ptr p) (up C1 p (.lst ds))
theorem Rl.newL {K : PySem.W.Frag} {H : Hp} {C : Cp} (rl : Rl K B H C) {p : Addr} {ds : List D} {vs : List V} (hp : H p = none) (r : Reps K H ds vs) : Stp H C (upd H p (.lst vs)) (up C p (.lst ds)) ∧ Rl K B (upd H p (.lst vs)) (up C p (.lst ds)) :=
  ⟨stp_put (by rw [hp]; exact id) (.inr hp), rl.putNew hp ⟨vs, upd_same, r.mono (tx_new hp)⟩⟩
theorem Rl.newT {K : PySem.W.Frag} {H : Hp} {C : Cp} (rl : Rl K B H C) {p : Addr} {ds : List D} {vs : List V} (hp : H p = none) (ht : ∃ v ∈ vs, ∀ r, v ≠ V.ref r) (r : Reps K H ds vs) : Stp H C (upd H p (.tup vs)) C ∧ Rl K B (upd H p (.tup vs)) C ∧ Rep K (upd H p (.tup vs)) (.tup ds) (.ref p) :=
  ⟨stp_more hp, rl.more hp ht, ⟨p, vs, rfl, .inl (.inl upd_same), r.mono (tx_new hp)⟩⟩
theorem Rl.newF {K : PySem.W.Frag} {H : Hp} {C : Cp} (rl : Rl K B H C) {p : Addr} {ds : List D} {vs : List V} {ob : Obj} (hp : H p = none) (hob : ob.dict = none) (r : Reps K H ds vs) : Stp H C (upd H p (.frz ob (.tup vs))) C ∧ Rl K B (upd H p (.frz ob (.tup vs))) C ∧ Rep K (upd H p (.frz ob (.tup vs))) (.tup ds) (.ref p) :=
  ⟨stp_more hp, rl.more hp hob, ⟨p, vs, rfl, .inl (.inr ⟨_, upd_same⟩), r.mono (tx_new hp)⟩⟩
theorem sz1000 {n : Nat} (h : n ≤ 1000) : n ≤ sizeLine := Nat.le_trans h (by decide)
theorem j_tup {x1} (h : JA X B es tr) : JE X B (.Tuple es x1 pos) (dTup tr) := PE.imp (pe_tupF h) fun σ H Q h => by
  obtain ⟨sl, C, Qd, rs, rl, h, k⟩ := h
  refine ⟨sl, C, _, rs, rl, h, fun vs ds H1 C1 st1 rl1 r ⟨hz, q⟩ => ⟨by rw [← r.length]; exact sz1000 hz, fun p ob hp hob => ?_⟩⟩
  obtain ⟨a1, a2, a3⟩ := rl1.newF hp hob r
  exact k _ _ _ C1 (st1.trans a1) a2 a3 q
theorem j_lst (h : JA X B es tr) : JE X B (.List es pos) (dLst tr) := PE.imp (pe_lst h) fun σ H Q h => by
  obtain ⟨sl, C, Qd, rs, rl, h, k⟩ := h
  refine ⟨sl, C, _, rs, rl, h, fun vs ds H1 C1 st1 rl1 r ⟨hz, q⟩ => ⟨by rw [← r.length]; exact sz1000 hz, fun p hp => ?_⟩⟩
  obtain ⟨a1, a2⟩ := rl1.newL hp r
  exact k _ _ _ _ (st1.trans a1) a2 (repP p) (q p (rl1.fresh hp))
def dEmp : DE := fun _ C Q => ∀ p, C p = none → Q (.ptr p) (up C p (.dk []))
def dEmpT : DE := fun _ C Q => ∀ p, C p = none → Q (.ptr p) (up C p (.dt []))
theorem j_emp : JE X B (.Dict [] [] pos) dEmp := PE.imp pe_dnewK fun σ H Q h p hp => by
  obtain ⟨sl, C, Qd, rs, rl, h, k⟩ := h
  exact k _ _ _ (up C p (.dk [])) (stp_put (by rw [hp]; exact id) (.inr hp)) (rl.putNew hp ⟨[], upd_same, .nil⟩) (repP p) (h p (rl.fresh hp))
theorem j_empT : JE X B (.Dict [] [] pos) dEmpT := PE.imp pe_dnewT fun σ H Q h p hp => by
  obtain ⟨sl, C, Qd, rs, rl, h, k⟩ := h
  exact k _ _ _ (up C p (.dt [])) (stp_put (by rw [hp]; exact id) (.inr hp)) (rl.putNew hp ⟨[], upd_same, .nil⟩) (repP p) (h p (rl.fresh hp))

/-! ### items, slices -/
def ixD : D → D → Cp → DQ → Prop
  | .tup ds, .int i, C, Q => ∃ d, atI ds i = some d ∧ Q d C
  | .str l, .int i, C, Q => l.length ≤ sizeLine ∧ ∃ c, atI l i = some c ∧ Q (.str [c]) C
  | .ptr p, .int i, C, Q => ∃ ds d, isL C p ds ∧ atI ds i = some d ∧ Q d C
  | _, _, _, _ => False
theorem atI_reps {K : PySem.W.Frag} {H : Hp} {ds : List D} {vs : List V} {i : Int} {d : D} (r : Reps K H ds vs) (h : atI ds i = some d) : ∃ v, atI vs i = some v ∧ Rep K H d v := by
  unfold atI at h ⊢
  rw [← r.length]
  cases e : ixN ds.length i with
  | none => rw [e] at h; cases h
  | some j =>
    rw [e] at h
    obtain ⟨v, e1, e2⟩ := r.get (show ds[j]? = some d from h)
    exact ⟨v, e1, e2⟩
theorem ix_D : IxR X (lR X.K B ixD) := by
  intro value slice pins s σ H x y v u Q I rx ry h hs
  obtain ⟨dx, dy, C, Qd, r1, r2, rl, h, k⟩ := h
  cases dx with
  | tup ds =>
    cases dy with
    | int i =>
      obtain ⟨a, vs, rfl, hq, hr⟩ := r1
      cases r2
      obtain ⟨d, e, q⟩ := h
      obtain ⟨w, e1, e2⟩ := atI_reps hr e
      exact ix_tup value slice pins s σ H _ _ v u Q I rx ry ⟨_, _, _, _, rfl, rfl, hq, e1, k _ d H C (Stp.refl _ _) rl e2 q⟩ hs
    | _ => exact False.elim h
  | str l =>
    cases dy with
    | int i =>
      cases r1; cases r2
      obtain ⟨hz, c, e, q⟩ := h
      exact ix_str value slice pins s σ H _ _ v u Q I rx ry ⟨_, _, c, rfl, rfl, by simpa [Str.length] using hz, e, k _ (.str [c]) H C (Stp.refl _ _) rl rfl q⟩ hs
    | _ => exact False.elim h
  | ptr p =>
    cases dy with
    | int i =>
      cases r1; cases r2
      obtain ⟨ds, d, hl, e, q⟩ := h
      obtain ⟨vs, hq, hr⟩ := hl.sq rl
      obtain ⟨w, e1, e2⟩ := atI_reps hr e
      exact ix_list value slice pins s σ H _ _ v u Q I rx ry ⟨_, _, _, _, rfl, rfl, hq, e1, k _ d H C (Stp.refl _ _) rl e2 q⟩ hs
    | _ => exact False.elim h
  | _ => exact False.elim h
theorem j_ix (ha : JE X B a ta) (hb : JE X B b tb) (hs : PlainIx b := by exact fun _ _ => rfl) : JE X B (.Subscript a b pos) (dOp ixD ta tb) := PE.imp (pe_ix ix_D ha hb hs) fun _ _ _ h => op_lift h
/-! parts -/
abbrev DO := Sl → Cp → (Option Int → Cp → Prop) → Prop
def lO (K : PySem.W.Frag) (B : Bs) (τ : DO) : TO := fun σ H Q => ∃ sl C Qd, RepS K H sl σ ∧ Rl K B H C ∧ τ sl C Qd ∧ ∀ o H' C', Stp H C H' C' → Rl K B H' C' → Qd o C' → Q o H'
abbrev JO (X : Cx) (B : Bs) (e : Option Expr) (τ : DO) : Prop := PO X e (lO X.K B τ)
theorem PO.imp {e : Option Expr} {t t' : TO} (h : PO X e t) (i : ∀ σ H Q, t' σ H Q → t σ H Q) : PO X e t' := ⟨fun pins s σ H Q I q => h.run pins s σ H Q I (i σ H Q q)⟩
def dNoP : DO := fun _ C Q => Q none C
def dPart (t : DE) : DO := fun s C Q => t s C fun x C1 => ∃ i, x = .int i ∧ Q (some i) C1
theorem jo_none : JO X B none dNoP := PO.imp po_none fun σ H Q h => by
  obtain ⟨sl, C, Qd, rs, rl, h, k⟩ := h
  exact k _ H C (Stp.refl _ _) rl h
theorem jo_some (ha : JE X B a ta) : JO X B (some a) (dPart ta) := PO.imp (po_some ha) fun σ H Q h => by
  obtain ⟨sl, C, Qd, rs, rl, h, k⟩ := h
  refine ⟨sl, C, _, rs, rl, h, fun v d H1 C1 st1 rl1 r ⟨i, e, q⟩ => ?_⟩
  subst e
  exact ⟨i, r, k _ H1 C1 st1 rl1 q⟩
def cutL {α : Type} (xs : List α) (lo hi : Option Int) : List α := (xs.drop (HT.sIx xs.length 0 lo)).take (HT.sIx xs.length xs.length hi - HT.sIx xs.length 0 lo)
theorem cutL_whole {α : Type} (xs : List α) {lo hi : Option Int} (h : HT.sIx xs.length 0 lo = 0 ∧ HT.sIx xs.length xs.length hi = xs.length) : cutL xs lo hi = xs := by
  unfold cutL
  rw [h.1, h.2]
  simp
def slD (x : D) (lo hi : Option Int) (C : Cp) (Q : DQ) : Prop := match x with
  | .tup ds => Q (.tup (cutL ds lo hi)) C
  | .str l => l.length ≤ sizeLine ∧ Q (.str (cutL l lo hi)) C
  | .ptr p => ∃ ds, isL C p ds ∧ ∀ q, C q = none → Q (.ptr q) (up C q (.lst (cutL ds lo hi)))
  | _ => False
def lSl (K : PySem.W.Frag) (B : Bs) : V → Option Int → Option Int → Hp → VK → Prop := fun x lo hi H Q => ∃ dx C Qd, Rep K H dx x ∧ Rl K B H C ∧ slD dx lo hi C Qd ∧ ∀ v d H' C', Stp H C H' C' → Rl K B H' C' → Rep K H' d v → Qd d C' → Q v H'
theorem sl_D : SlR X (lSl X.K B) := by
  intro pins s σ H x v vl vu lo hi sl Q I rx hs pl pu h
  obtain ⟨dx, C, Qd, r1, rl, h, k⟩ := h
  cases dx with
  | tup ds =>
    obtain ⟨a, vs, rfl, hq, hr⟩ := r1
    have h : Qd (.tup (cutL ds lo hi)) C := h
    refine sl_tupF pins s σ H _ v vl vu lo hi sl Q I rx hs pl pu ⟨a, vs, rfl, hq, fun e => ?_, fun e p ob hp hob => ?_⟩
    · rw [← hr.length] at e
      rw [cutL_whole ds e] at h
      exact k _ (.tup ds) H C (Stp.refl _ _) rl ⟨a, vs, rfl, hq, hr⟩ h
    · have hr2 : Reps X.K H (cutL ds lo hi) (cutV vs lo hi) := by
        unfold cutL cutV
        rw [← hr.length]
        exact (hr.drop _).take _
      obtain ⟨a1, a2, a3⟩ := rl.newF hp hob hr2
      exact k _ _ _ C a1 a2 a3 h
  | str l =>
    cases r1
    refine sl_str pins s σ H _ v vl vu lo hi sl Q I rx hs pl pu ⟨_, rfl, by simpa [Str.length] using h.1, k _ (.str (cutL l lo hi)) H C (Stp.refl _ _) rl ?_ h.2⟩
    show V.str _ = V.str _
    rfl
  | ptr p =>
    cases r1
    obtain ⟨ds, hl, h⟩ := h
    obtain ⟨vs, hq, hr⟩ := hl.sq rl
    refine sl_list pins s σ H _ v vl vu lo hi sl Q I rx hs pl pu ⟨p, vs, rfl, hq, fun q hqn => ?_⟩
    have hr2 : Reps X.K H (cutL ds lo hi) (cutV vs lo hi) := by
      unfold cutL cutV
      rw [← hr.length]
      exact (hr.drop _).take _
    obtain ⟨a1, a2⟩ := rl.newL hqn hr2
    exact k _ _ _ _ a1 a2 (repP q) (h q (rl.fresh hqn))
  | _ => exact False.elim h
def dSl (te : DE) (tl th : DO) : DE := fun s C Q => te s C fun x C1 => tl s C1 fun l C2 => th s C2 fun u C3 => slD x l u C3 Q
theorem j_slice {lo hi : Option Expr} {tl th : DO} {p2 : Pos} (ha : JE X B a ta) (hl : JO X B lo tl) (hu : JO X B hi th) : JE X B (.Subscript a (.Slice lo hi none p2) pos) (dSl ta tl th) := PE.imp (pe_slice sl_D ha hl hu) fun σ H Q h => by
  obtain ⟨sl, C, Qd, rs, rl, h, k⟩ := h
  exact ⟨sl, C, _, rs, rl, h, fun x dx H1 C1 st1 rl1 rx h1 => ⟨sl, C1, _, rs.mono st1.tx, rl1, h1, fun l H2 C2 st2 rl2 h2 => ⟨sl, C2, _, rs.mono (st1.trans st2).tx, rl2, h2, fun u H3 C3 st3 rl3 h3 => ⟨dx, C3, Qd, rx.mono (st2.trans st3).tx, rl3, h3, fun v d H' C' st => k v d H' C' (((st1.trans st2).trans st3).trans st)⟩⟩⟩⟩

/-! ### statements -/
variable {st : Stmt} {sts : List Stmt} {tS uS : DS}
def dNext : DS := fun D s C => D.nx s C
def dSeq (t u : DS) : DS := fun D s C => t { D with nx := u D } s C
theorem jss_nil : JSs X B [] dNext := PSs.imp pss_nil fun D σ H h => by
  obtain ⟨sl, C, Dd, rs, rl, h, k⟩ := h
  exact k.nx σ sl H C (Stp.refl _ _) rl rs h
theorem EndsOk.seq {K : PySem.W.Frag} {H : Hp} {C : Cp} {Dd : DEnds} {D : Ends} (k : EndsOk K B H C Dd D) (u : DS) : EndsOk K B H C { Dd with nx := u Dd } { D with nx := lS K B u D } :=
  ⟨fun σ sl H' C' st rl rs q => ⟨sl, C', Dd, rs, rl, q, k.mono st⟩, k.rt, k.bk, k.ct⟩
theorem jss_cons (h1 : JS X B st tS) (h2 : JSs X B sts uS) : JSs X B (st :: sts) (dSeq tS uS) := PSs.imp (pss_cons h1 h2) fun D σ H h => by
  obtain ⟨sl, C, Dd, rs, rl, h, k⟩ := h
  exact ⟨sl, C, _, rs, rl, h, k.seq uS⟩
theorem jss_one (h1 : JS X B st tS) : JSs X B [st] tS := PSs.imp (pss_one h1) fun D σ H h => h
def dBreak : DS := fun D s C => D.bk s C
def dCont : DS := fun D s C => D.ct s C
theorem js_pass : JS X B (.Pass pos) dNext := PS.imp ps_pass fun D σ H h => by
  obtain ⟨sl, C, Dd, rs, rl, h, k⟩ := h
  exact k.nx σ sl H C (Stp.refl _ _) rl rs h
theorem js_break : JS X B (.Break pos) dBreak := PS.imp ps_break fun D σ H h => by
  obtain ⟨sl, C, Dd, rs, rl, h, k⟩ := h
  exact k.bk σ sl H C (Stp.refl _ _) rl rs h
theorem js_continue : JS X B (.Continue pos) dCont := PS.imp ps_continue fun D σ H h => by
  obtain ⟨sl, C, Dd, rs, rl, h, k⟩ := h
  exact k.ct σ sl H C (Stp.refl _ _) rl rs h
def dDrop (t : DE) : DS := fun D s C => t s C fun _ C1 => D.nx s C1
theorem js_expr (ha : JE X B a ta) (hs : swapsWith a none pos.line X.env = pure false := by rfl) : JS X B (.Expr a pos) (dDrop ta) := PS.imp (ps_expr ha hs) fun D σ H h => by
  obtain ⟨sl, C, Dd, rs, rl, h, k⟩ := h
  exact ⟨sl, C, _, rs, rl, h, fun v d H1 C1 st1 rl1 r q => k.nx σ sl H1 C1 st1 rl1 (rs.mono st1.tx) q⟩
/-- a def's end: what is not wanted any more may be let go -/
def dRet (t : DE) : DS := fun D s C => t s C D.rt
theorem js_ret (ha : JE X B a ta) : JS X B (.Return (some a) pos) (dRet ta) := PS.imp (ps_ret ha) fun D σ H h => by
  obtain ⟨sl, C, Dd, rs, rl, h, k⟩ := h
  exact ⟨sl, C, _, rs, rl, h, fun v d H1 C1 st1 rl1 r q => k.rt v d H1 C1 st1 rl1 r q⟩
def dIf (c : DT) (t u : DS) : DS := fun D s C => c s C fun b C1 => if b = true then t D s C1 else u D s C1
theorem js_if {p q : List Stmt} (hc : JT X B c tA) (ha : JSs X B p tS) (hb : JSs X B q uS) : JS X B (.If c p q pos) (dIf tA tS uS) := PS.imp (ps_if hc ha hb) fun D σ H h => by
  obtain ⟨sl, C, Dd, rs, rl, h, k⟩ := h
  refine ⟨sl, C, _, rs, rl, h, fun b H1 C1 st1 rl1 q => ?_⟩
  cases b with
  | true => exact ⟨sl, C1, Dd, rs.mono st1.tx, rl1, q, k.mono st1⟩
  | false => exact ⟨sl, C1, Dd, rs.mono st1.tx, rl1, q, k.mono st1⟩
/-- code that is not reached -/
def dNever : DS := fun _ _ _ => False
theorem js_never : JS X B st dNever := PS.imp ps_never fun D σ H h => by
  obtain ⟨sl, C, Dd, rs, rl, h, k⟩ := h
  exact h.elim
theorem jss_never : JSs X B sts dNever := PSs.imp pss_never fun D σ H h => by
  obtain ⟨sl, C, Dd, rs, rl, h, k⟩ := h
  exact h.elim
/-! targets -/
def gNm (i : Nat) : DG := fun d s C Q => Q (s.set i (some d)) C
theorem jg_name {i : Nat} {x : Str} (hN : X.N.Nodup) (hi : X.N[i]? = some x := by rfl) (hx : Loc X.env.scope x := by first | exact .inl rfl | exact .inr rfl) (hf : X.fn x = true ∨ X.env.scope.names.lookup x = some .local := by first | exact .inl rfl | exact .inr rfl | assumption) : JG X B (.Name x pos) (gNm i) := PG.imp (pg_name hN hi hx hf) fun v σ H Q h => by
  obtain ⟨d, sl, C, Qd, r, rs, rl, h, k⟩ := h
  exact k _ _ H C (Stp.refl _ _) rl (rs.setD r i) h
def gNl : DGs := fun ds s C Q => ds = [] ∧ Q s C
def gCn (t : DG) (u : DGs) : DGs := fun ds s C Q => ∃ d r, ds = d :: r ∧ t d s C fun s' C' => u r s' C' Q
theorem jgs_nil : JGs X B [] gNl := PGs.imp pgs_nil fun v σ H Q h => by
  obtain ⟨d, sl, C, Qd, r, rs, rl, ⟨e, h⟩, k⟩ := h
  subst e
  cases r
  exact ⟨rfl, k _ _ H C (Stp.refl _ _) rl rs h⟩
theorem jgs_cons {g : DG} {gs : DGs} (h1 : JG X B a g) (h2 : JGs X B es gs) (hs : (assignEach (a :: es) X.env).map (·.2) = assign a X.env :: (assignEach es X.env).map (·.2) := by rfl) : JGs X B (a :: es) (gCn g gs) := PGs.imp (pgs_cons h1 h2 hs) fun v σ H Q h => by
  obtain ⟨ds, sl, C, Qd, r, rs, rl, ⟨d, dr, e, h⟩, k⟩ := h
  subst e
  obtain ⟨w, vr, rfl, r1, r2⟩ := r
  exact ⟨w, vr, rfl, d, sl, C, _, r1, rs, rl, h, fun σ' sl' H' C' st rl' rs' q => ⟨dr, sl', C', Qd, r2.mono st.tx, rs', rl', q, fun a b c d e => k a b c d (st.trans e)⟩⟩
def gTp (n : Nat) (t : DGs) : DG := fun d s C Q => ∃ ds, d = .tup ds ∧ ds.length = n ∧ t ds s C Q
theorem jg_tup {k : Nat} {t : DGs} {n : Nat} (hc : X.calm = true) (h : JGs X B es t) (hn : (assignEach es X.env).length = n := by rfl) (hst : (assignEach es X.env).findIdx? (·.1) = none := by rfl) : JG X B (.Tuple es k pos) (gTp n t) := PG.imp (pg_tup hc h hn hst) fun v σ H Q h => by
  obtain ⟨d, sl, C, Qd, r, rs, rl, ⟨ds, e, hl, h⟩, k⟩ := h
  subst e
  obtain ⟨a, vs, rfl, hq, hr⟩ := r
  exact ⟨a, vs, rfl, hq, by rw [← hr.length]; exact hl, ds, sl, C, Qd, hr, rs, rl, h, k⟩
def dAsg (te : DE) (g : DG) : DS := fun D s C => te s C fun x C1 => g x s C1 D.nx
theorem js_asg {tg : Expr} {g : DG} (ha : JE X B a ta) (hg : JG X B tg g) (hs : swapsWithSole [tg] a pos.line X.env = pure false := by rfl) (hw : swappedStores [tg] a X.env = pure none := by rfl) (h1 : (assignEach [tg] X.env).map (·.2) = [assign tg X.env] := by rfl) : JS X B (.Assign [tg] a pos) (dAsg ta g) := PS.imp (ps_asg ha hg hs hw h1) fun D σ H h => by
  obtain ⟨sl, C, Dd, rs, rl, h, k⟩ := h
  exact ⟨sl, C, _, rs, rl, h, fun v d H1 C1 st1 rl1 r q => ⟨d, sl, C1, _, r, rs.mono st1.tx, rl1, q, fun σ' sl' H' C' st rl' rs' q' => k.nx σ' sl' H' C' (st1.trans st) rl' rs' q'⟩⟩
theorem js_set {i : Nat} {x : Str} {pos' : Pos} (hN : X.N.Nodup) (ha : JE X B a ta) (hi : X.N[i]? = some x := by rfl) (hx : Loc X.env.scope x := by first | exact .inl rfl | exact .inr rfl) (hs : swapsWith a (some (.Name x pos')) pos.line X.env = pure false := by rfl) (hf : X.fn x = true ∨ X.env.scope.names.lookup x = some .local := by first | exact .inl rfl | exact .inr rfl | assumption) :
    JS X B (.Assign [.Name x pos'] a pos) (dAsg ta (gNm i)) := PS.imp (ps_set hN hi hx ha hs hf) fun D σ H h => by
  obtain ⟨sl, C, Dd, rs, rl, h, k⟩ := h
  exact ⟨sl, C, _, rs, rl, h, fun v d H1 C1 st1 rl1 r q => k.nx _ _ H1 C1 st1 rl1 ((rs.mono st1.tx).setD r i) q⟩
/-- a, b = e1, e2, the names two different locals -/
def dPar (i j : Nat) (ta : DA) : DS := fun D s C => ta s C fun ds C1 => ∃ v w, ds = [v, w] ∧ D.nx ((s.set i (some v)).set j (some w)) C1
end
end KB

/-! KB5: loops, comprehensions, calls over data. -/
namespace KB
open PySem PySem.Spec PyProof.Rows SeqAt
open L2 hiding op_eqD op_neD
/-- what is walked: the items, what must stay of the store for that -/
abbrev DI := Sl → Cp → (List D → (Cp → Prop) → Cp → Prop) → Prop
structure WalkD (K : PySem.W.Frag) (B : Bs) (J : It) (items : List D) (ok : Cp → Prop) : Prop where
  goes : ∀ i H C, i < items.length → Rl K B H C → ok C → J.go i H
  stops : ∀ H C, Rl K B H C → ok C → J.stop items.length H
  yields : ∀ i H C x H', i < items.length → Rl K B H C → ok C → J.yld i H x H' → Stp H C H' C ∧ Rl K B H' C ∧ ∃ d, items[i]? = some d ∧ Rep K H' d x
def lI (K : PySem.W.Frag) (B : Bs) (τ : DI) : TI := fun σ H R => ∃ sl C Qd, RepS K H sl σ ∧ Rl K B H C ∧ τ sl C Qd ∧ ∀ items ok H' C' J, Stp H C H' C' → Rl K B H' C' → WalkD K ⟨H', C', B.P, B.w⟩ J items ok → Qd items ok C' → R J H'
abbrev JI (X : Cx) (B : Bs) (tg e : Expr) (τ : DI) : Prop := PI X tg e (lI X.K B τ)
theorem PI.imp {X : Cx} {tg e : Expr} {t t' : TI} (h : PI X tg e t) (i : ∀ σ H R, t' σ H R → t σ H R) : PI X tg e t' := ⟨fun pins s σ H R I q => h.run pins s σ H R I (i σ H R q)⟩
section
variable {X : Cx} {B : Bs} {pos : Pos} {a b c tg e : Expr} {ta tb tc : DE} {rest es : List Expr} {tr : DA} {K : PySem.W.Frag}
theorem walkD_same {J : It} {items : List D} {ok : Cp → Prop} {G : Hp → Prop} {Y : Hp → List V → Prop} (w : ∀ vs, Walk J vs.length (fun H => Y H vs) (YAt vs)) (hg : ∀ H C, Rl K B H C → ok C → ∃ vs, Y H vs ∧ Reps K H items vs) : WalkD K B J items ok where
  goes := fun i H C hi rl o => by
    obtain ⟨vs, g1, g2⟩ := hg H C rl o
    exact (w vs).goes i H (by rw [← g2.length]; exact hi) g1
  stops := fun H C rl o => by
    obtain ⟨vs, g1, g2⟩ := hg H C rl o
    rw [g2.length]
    exact (w vs).stops H g1
  yields := fun i H C x H' hi rl o y => by
    obtain ⟨vs, g1, g2⟩ := hg H C rl o
    obtain ⟨e, hx⟩ := (w vs).yields i H x H' (by rw [← g2.length]; exact hi) g1 y
    subst e
    obtain ⟨d, e1, e2⟩ := g2.getV hx
    exact ⟨Stp.refl _ _, rl, d, e1, e2⟩
theorem Rl.repsL {H : Hp} {C : Cp} (rl : Rl K B H C) {p : Addr} {ds : List D} (h : isL C p ds) : ∃ vs, Rd H p (.lst vs) ∧ Reps K H ds vs := by
  rcases h with h | h
  · obtain ⟨vs, e, q⟩ := rl.ok _ _ h
    exact ⟨vs, .inl e, q⟩
  · obtain ⟨o, vs, e, q⟩ := rl.ok _ _ h
    exact ⟨vs, .inr ⟨o, e⟩, q⟩
/-- over a list: it must stand as it is -/
def dOver (t : DE) : DI := fun s C R => t s C fun x C1 => match x with
  | .ptr p => ∃ ds, isL C1 p ds ∧ R ds (fun C => isL C p ds) C1
  | _ => False
theorem ji_list (ha : JE X B a ta) : JI X B tg a (dOver ta) := PI.imp (pi_list ha) fun σ H R h => by
  obtain ⟨sl, C, Qd, rs, rl, h, k⟩ := h
  refine ⟨sl, C, _, rs, rl, h, fun v d H1 C1 st1 rl1 r q => ?_⟩
  cases d with
  | ptr p =>
    cases r
    obtain ⟨ds, hl, q⟩ := q
    obtain ⟨vs, hq, hr⟩ := hl.sq rl1
    exact ⟨p, rfl, ⟨vs, hq⟩, k ds _ H1 C1 _ st1 rl1 (walkD_same (G := fun _ => True) (Y := fun H vs => SqL X.K H p vs) (fun vs => walk_list) fun H C rl o => isL.sq rl o) q⟩
  | _ => exact False.elim q
/-- over a tuple -/
def dOverT (t : DE) : DI := fun s C R => t s C fun x C1 => match x with
  | .tup ds => R ds (fun _ => True) C1
  | _ => False
theorem ji_tup (ha : JE X B a ta) : JI X B tg a (dOverT ta) := PI.imp (pi_tup ha) fun σ H R h => by
  obtain ⟨sl, C, Qd, rs, rl, h, k⟩ := h
  refine ⟨sl, C, _, rs, rl, h, fun v d H1 C1 st1 rl1 r q => ?_⟩
  cases d with
  | tup ds =>
    obtain ⟨p, vs, rfl, hq, hr⟩ := r
    exact ⟨p, rfl, ⟨vs, hq⟩, k ds _ H1 C1 _ st1 rl1 (walkD_same (G := fun _ => True) (Y := fun H vs => SqT X.K H p vs) (fun vs => walk_tup) fun H C rl o => ⟨vs, rl.st.tx.sqT hq, hr.mono rl.st.tx⟩) q⟩
  | _ => exact False.elim q
/-- over a text -/
def dOverS (t : DE) : DI := fun s C R => t s C fun x C1 => match x with
  | .str l => R (l.map fun c => .str [c]) (fun _ => True) C1
  | _ => False
theorem ji_str (ha : JE X B a ta) : JI X B tg a (dOverS ta) := PI.imp (pi_str ha) fun σ H R h => by
  obtain ⟨sl, C, Qd, rs, rl, h, k⟩ := h
  refine ⟨sl, C, _, rs, rl, h, fun v d H1 C1 st1 rl1 r q => ?_⟩
  cases d with
  | str l =>
    cases r
    refine ⟨⟨l.toArray⟩, rfl, k _ _ H1 C1 _ st1 rl1 ⟨fun i H C hi rl o => ?_, fun H C rl o => ?_, fun i H C x H' hi rl o y => ?_⟩ q⟩
    · exact walk_str.goes i H (by simpa using hi) trivial
    · have := (walk_str (z := ⟨l.toArray⟩)).stops H trivial
      simpa using this
    · obtain ⟨e, c, hc, hx⟩ := walk_str.yields i H x H' (by simpa using hi) trivial y
      subst e hx
      refine ⟨Stp.refl _ _, rl, .str [c], ?_, rfl⟩
      have hc : l.toArray[i]? = some c := hc
      rw [List.getElem?_map]
      simp at hc
      rw [hc]
      rfl
  | _ => exact False.elim q
/-- over a range -/
def rngD (lo : Int) (n : Nat) : List D := (List.range n).map fun (i : Nat) => D.int (lo + (i : Int))
theorem rngD_len {lo : Int} {n : Nat} : (rngD lo n).length = n := by simp [rngD]
theorem rngD_get {lo : Int} {n i : Nat} (h : i < n) : (rngD lo n)[i]? = some (.int (lo + (i : Int))) := by simp [rngD, h]
theorem walkD_rng {lo : Int} {n : Nat} : WalkD K B (Itr lo n) (rngD lo n) (fun _ => True) where
  goes := fun i H C hi rl o => walk_range.goes i H (by rw [rngD_len] at hi; exact hi) trivial
  stops := fun H C rl o => by rw [rngD_len]; exact walk_range.stops H trivial
  yields := fun i H C x H' hi rl o y => by
    rw [rngD_len] at hi
    obtain ⟨e, hx⟩ := walk_range.yields i H x H' hi trivial y
    subst e hx
    exact ⟨Stp.refl _ _, rl, _, rngD_get hi, rfl⟩
def dRng1 (t : DA) : DI := fun s C R => t s C fun ds C1 => ∃ j : Int, ds = [.int j] ∧ -(2 ^ 62) ≤ j ∧ j < 2 ^ 62 ∧ R (rngD 0 j.toNat) (fun _ => True) C1
def dRng2 (t : DA) : DI := fun s C R => t s C fun ds C1 => ∃ i j : Int, ds = [.int i, .int j] ∧ (-(2 ^ 62) ≤ i ∧ i < 2 ^ 62 ∧ -(2 ^ 62) ≤ j ∧ j < 2 ^ 62) ∧ R (rngD i (j - i).toNat) (fun _ => True) C1
theorem ji_range1 {p : Pos} (hm : X.mg "range" = none) (ha : JA X B [a] tr) (hg : Gl X "range" := by rfl) (hs : starEach [a] X.env = [(false, eval a X.env)] := by rfl) : JI X B tg (.Call (.Name "range" p) [a] [] pos) (dRng1 tr) := PI.imp (pi_range1 hg hm ha hs) fun σ H R h => by
  obtain ⟨sl, C, Qd, rs, rl, h, k⟩ := h
  refine ⟨sl, C, _, rs, rl, h, fun vs ds H1 C1 st1 rl1 r ⟨j, e, h1, h2, q⟩ => ?_⟩
  subst e
  obtain ⟨v, r2, rfl, hv, hn⟩ := r
  cases hv; cases hn
  exact ⟨j, rfl, h1, h2, k _ _ H1 C1 _ st1 rl1 walkD_rng q⟩
theorem ji_range2 {p : Pos} (hm : X.mg "range" = none) (ha : JA X B [a, b] tr) (hg : Gl X "range" := by rfl) (hs : starEach [a, b] X.env = [(false, eval a X.env), (false, eval b X.env)] := by rfl) (hs2 : starEach [b] X.env = [(false, eval b X.env)] := by rfl) :
    JI X B tg (.Call (.Name "range" p) [a, b] [] pos) (dRng2 tr) := PI.imp (pi_range2 hg hm ha hs hs2) fun σ H R h => by
  obtain ⟨sl, C, Qd, rs, rl, h, k⟩ := h
  refine ⟨sl, C, _, rs, rl, h, fun vs ds H1 C1 st1 rl1 r ⟨i, j, e, h1, q⟩ => ?_⟩
  subst e
  obtain ⟨v, r2, rfl, hv, w, r3, rfl, hw, hn⟩ := r
  cases hv; cases hw; cases hn
  exact ⟨i, j, rfl, h1, k _ _ H1 C1 _ st1 rl1 walkD_rng q⟩
/-! pairs -/
def pairD (xs ys : List D) : List D := (xs.zip ys).map fun p => .tup [p.1, p.2]
/-- no reference -/
def nrD : D → Bool
  | .tup _ => false
  | .ptr _ => false
  | _ => true
theorem nr_rep {K : PySem.W.Frag} {H : Hp} {d : D} {v : V} (h : nrD d = true) (r : Rep K H d v) : ∀ a, v ≠ V.ref a := fun a e => by
  subst e
  cases d with
  | tup _ => cases h
  | ptr _ => cases h
  | _ => cases r
def NRz (xs ys : List D) : Prop := (xs.all nrD || ys.all nrD) = true
theorem walkD_pair {J : It} {xs ys : List D} {ok : Cp → Prop} (nz : NRz xs ys) (hw : ∀ H C, Rl K B H C → ok C → ∃ (n : Nat) (G : Hp → Prop) (f g : Nat → Option V), n = min xs.length ys.length ∧ G H ∧ Walk J n G (YPair f g) ∧
    (∀ i v, i < n → f i = some v → ∃ d, xs[i]? = some d ∧ Rep K H d v) ∧ ∀ i v, g i = some v → ∃ d, ys[i]? = some d ∧ Rep K H d v) : WalkD K B J (pairD xs ys) ok where
  goes := fun i H C hi rl o => by
    obtain ⟨n, G, f, g, hn, hG, w, _, _⟩ := hw H C rl o
    exact w.goes i H (by simp [pairD] at hi; omega) hG
  stops := fun H C rl o => by
    obtain ⟨n, G, f, g, hn, hG, w, _, _⟩ := hw H C rl o
    have := w.stops H hG
    rw [hn] at this
    simpa [pairD] using this
  yields := fun i H C x H' hi rl o y => by
    obtain ⟨n, G, f, g, hn, hG, w, hf, hg⟩ := hw H C rl o
    have hi2 : i < n := by simp [pairD] at hi; omega
    obtain ⟨T, x1, x2, rfl, nT, rfl, f1, f2⟩ := w.yields i H x H' hi2 hG y
    obtain ⟨d1, a1, a2⟩ := hf i x1 hi2 f1
    obtain ⟨d2, b1, b2⟩ := hg i x2 f2
    have tz : ∃ v ∈ [x1, x2], ∀ r, v ≠ V.ref r := by
      unfold NRz at nz
      rw [Bool.or_eq_true, List.all_eq_true, List.all_eq_true] at nz
      rcases nz with nz | nz
      · exact ⟨x1, List.mem_cons_self, nr_rep (nz _ (List.mem_of_getElem? a1)) a2⟩
      · exact ⟨x2, List.mem_cons_of_mem _ List.mem_cons_self, nr_rep (nz _ (List.mem_of_getElem? b1)) b2⟩
    obtain ⟨s1, s2, s3⟩ := rl.newT nT tz (.cons a2 (.cons b2 .nil))
    refine ⟨s1, s2, _, ?_, s3⟩
    have hz : (xs.zip ys)[i]? = some (d1, d2) := List.getElem?_zip_eq_some.mpr ⟨a1, b1⟩
    simp [pairD, hz]
def dZip (t : DA) : DI := fun s C R => t s C fun ds C1 => ∃ p q xs ys, ds = [.ptr p, .ptr q] ∧ isL C1 p xs ∧ isL C1 q ys ∧ NRz xs ys ∧ R (pairD xs ys) (fun C => isL C p xs ∧ isL C q ys) C1
theorem ji_zip {e2 : Expr} {p tpos : Pos} {elts : List Expr} {kk : Nat} (hm : X.mg "zip" = none) (ha : JA X B [a, e2] tr) (hg : Gl X "zip" := by rfl) (hs : starEach [a, e2] X.env = (false, eval a X.env) :: starEach [e2] X.env := by rfl) (hpl : (backTo pos (starEach [e2] X.env)).any (·.1) = false := by rfl) :
    JI X B (.Tuple elts kk tpos) (.Call (.Name "zip" p) [a, e2] [] pos) (dZip tr) := PI.imp (pi_zip hg hm ha hs hpl) fun σ H R h => by
  obtain ⟨sl, C, Qd, rs, rl, h, k⟩ := h
  refine ⟨sl, C, _, rs, rl, h, fun vs ds H1 C1 st1 rl1 r ⟨pa, pb, xs, ys, e, h1, h2, nz, q⟩ => ?_⟩
  subst e
  obtain ⟨v, r2, rfl, hv, w, r3, rfl, hw, hn⟩ := r
  cases hv; cases hw; cases hn
  obtain ⟨ws, g1, g2⟩ := isL.sq rl1 h1
  obtain ⟨zs, g3, g4⟩ := isL.sq rl1 h2
  exact ⟨pa, pb, ws, zs, rfl, g1, g3, k _ _ H1 C1 _ st1 rl1 (walkD_pair nz fun H C rl o => by
    obtain ⟨ws, g1, g2⟩ := isL.sq rl o.1
    obtain ⟨zs, g3, g4⟩ := isL.sq rl o.2
    exact ⟨_, _, _, _, by rw [g2.length, g4.length], ⟨g1, g3⟩, walk_zip rfl, fun i v _ h => g2.getV h, fun i v h => g4.getV h⟩) q⟩
def dEnum (t : DA) : DI := fun s C R => t s C fun ds C1 => ∃ p xs, ds = [.ptr p] ∧ isL C1 p xs ∧ R (pairD (rngD 0 xs.length) xs) (fun C => isL C p xs) C1
theorem ji_enum {p tpos : Pos} {elts : List Expr} {kk : Nat} (hm : X.mg "enumerate" = none) (ha : JA X B [a] tr) (hg : Gl X "enumerate" := by rfl) (hs : starEach [a] X.env = [(false, eval a X.env)] := by rfl) :
    JI X B (.Tuple elts kk tpos) (.Call (.Name "enumerate" p) [a] [] pos) (dEnum tr) := PI.imp (pi_enum hg hm ha hs) fun σ H R h => by
  obtain ⟨sl, C, Qd, rs, rl, h, k⟩ := h
  refine ⟨sl, C, _, rs, rl, h, fun vs ds H1 C1 st1 rl1 r ⟨pa, xs, e, h1, q⟩ => ?_⟩
  subst e
  obtain ⟨v, r2, rfl, hv, hn⟩ := r
  cases hv; cases hn
  obtain ⟨ws, g1, g2⟩ := isL.sq rl1 h1
  exact ⟨pa, ws, rfl, g1, k _ _ H1 C1 _ st1 rl1 (walkD_pair (by unfold NRz rngD; rw [Bool.or_eq_true]; exact .inl (by simp [List.all_map, nrD])) fun H C rl o => by
    obtain ⟨ws, g1, g2⟩ := isL.sq rl o
    refine ⟨ws.length, _, _, _, by rw [rngD_len, g2.length, Nat.min_self], g1, walk_enum, fun i v hi h => ?_, fun i v h => g2.getV h⟩
    have h : V.int (i : Int) = v := Option.some.inj h
    subst h
    refine ⟨.int (0 + (i : Int)), rngD_get (by rw [g2.length]; exact hi), ?_⟩
    rw [Int.zero_add]
    rfl) q⟩

/-! ### for -/
variable {src : DI} {g : DG} {tS uS : DS} {tA : DT}
/-- Pv by the turn; behind a turn what is not wanted may be let go -/
def dFor (src : DI) (g : DG) (tb : DS) : DS := fun D s C => src s C fun items ok C1 => ∃ Pv : Nat → Sl → Cp → Prop, Pv 0 s C1 ∧ (∀ i s C, i ≤ items.length → Pv i s C → ok C) ∧
  (∀ i x s C, items[i]? = some x → Pv i s C → g x s C fun s2 C2 => tb { D with nx := fun s' C' => ∃ C'', Sub C'' C' ∧ Pv (i + 1) s' C'', ct := fun s' C' => ∃ C'', Sub C'' C' ∧ Pv (i + 1) s' C'', bk := D.nx } s2 C2) ∧ ∀ s C, Pv items.length s C → D.nx s C
theorem js_for {body : List Stmt} (hp : PassesOwn (model X.prog X.w) X.A X.env X.xe) (hc : X.calm = true) (hi : JI X B tg a src) (hg : JG X B tg g) (hb : JSs X B body tS) (hs : ∀ x, foldedSetIterable a X.env x = pure x := by intro _; rfl) : JS X B (.For tg a body [] pos) (dFor src g tS) := PS.imp (ps_for hp hc hi hg hb hs) fun D σ H h => by
  obtain ⟨sl, C, Dd, rs, rl, h, k⟩ := h
  refine ⟨sl, C, _, rs, rl, h, fun items ok H1 C1 J st1 rl1 w ⟨Pv, h0, hok, hstep, hd⟩ => ?_⟩
  refine ⟨fun i m σ H => m = items.length - i ∧ i ≤ items.length ∧ ∃ sl C, RepS X.K H sl σ ∧ Rl X.K B H C ∧ Stp H1 C1 H C ∧ Pv i sl C, ⟨_, rfl, Nat.zero_le _, sl, C1, rs.mono st1.tx, rl1, Stp.refl _ _, h0⟩, ?_⟩
  rintro i m σ2 H2 ⟨rfl, hi2, sl2, C2, rs2, rl2, st2, hp2⟩
  have rb : Rl X.K ⟨H1, C1, B.P, B.w⟩ H2 C2 := ⟨st2, rl2.ok, rl2.ti⟩
  have o := hok i sl2 C2 hi2 hp2
  by_cases hlt : i < items.length
  · refine .inr ⟨w.goes i H2 C2 hlt rb o, fun σ' H' => ∃ sl C, RepS X.K H' sl σ' ∧ Rl X.K B H' C ∧ Stp H1 C1 H' C ∧ Pv (i + 1) sl C, fun σ' H' q => ⟨items.length - (i + 1), by omega, rfl, hlt, q⟩, fun x H' y => ?_⟩
    obtain ⟨s3, r3, d, e, rd⟩ := w.yields i H2 C2 x H' hlt rb o y
    have rl3 : Rl X.K B H' C2 := ⟨rl2.st.trans s3, r3.ok, r3.ti⟩
    refine ⟨d, sl2, C2, _, rd, rs2.mono s3.tx, rl3, hstep i d sl2 C2 e hp2, fun σ' sl' H3 C3 st3 rl4 rs3 q => ?_⟩
    refine ⟨sl', C3, _, rs3, rl4, q, ⟨fun σ sl H' C' st rl rs q => ?_, fun v d H' C' st => k.rt v d H' C' ((((st1.trans st2).trans s3).trans st3).trans st), fun σ sl H' C' st => k.nx σ sl H' C' ((((st1.trans st2).trans s3).trans st3).trans st), fun σ sl H' C' st rl rs q => ?_⟩⟩
    · obtain ⟨C'', hs, q⟩ := q
      exact ⟨sl, C'', rs, rl.less hs, ((((st2.trans s3).trans st3).trans st).less hs), q⟩
    · obtain ⟨C'', hs, q⟩ := q
      exact ⟨sl, C'', rs, rl.less hs, ((((st2.trans s3).trans st3).trans st).less hs), q⟩
  · have e : i = items.length := by omega
    subst e
    exact .inl ⟨w.stops H2 C2 rb o, k.nx _ _ H2 C2 (st1.trans st2) rl2 rs2 (hd _ _ hp2)⟩
/-- while, by a word and a measure -/
def dWhile (c : DT) (tb : DS) : DS := fun D s C => ∃ W : Nat → Sl → Cp → Prop, (∃ m, W m s C) ∧ ∀ m s C, W m s C → c s C fun b C1 => if b = true then tb { D with nx := fun s' C' => ∃ m', m' < m ∧ ∃ C'', Sub C'' C' ∧ W m' s' C'', ct := fun s' C' => ∃ m', m' < m ∧ ∃ C'', Sub C'' C' ∧ W m' s' C'', bk := D.nx } s C1 else D.nx s C1
theorem js_while {body : List Stmt} (hp : PassesOwn (model X.prog X.w) X.A X.env X.xe) (hc : JT X B c tA) (hb : JSs X B body tS) : JS X B (.While c body [] pos) (dWhile tA tS) := PS.imp (ps_while hp hc hb) fun D σ H h => by
  obtain ⟨sl, C, Dd, rs, rl, ⟨W, ⟨m0, w0⟩, turn⟩, k⟩ := h
  refine ⟨fun m σ' H' => ∃ sl' C', RepS X.K H' sl' σ' ∧ Rl X.K B H' C' ∧ Stp H C H' C' ∧ W m sl' C', ⟨m0, sl, C, rs, rl, Stp.refl _ _, w0⟩, ?_⟩
  rintro m σ1 H1 ⟨sl1, C1, rs1, rl1, st1, w1⟩
  refine ⟨sl1, C1, _, rs1, rl1, turn m sl1 C1 w1, fun b H2 C2 st2 rl2 q => ?_⟩
  cases b with
  | true =>
    refine ⟨fun σ' H' => ∃ m', m' < m ∧ ∃ sl' C', RepS X.K H' sl' σ' ∧ Rl X.K B H' C' ∧ Stp H C H' C' ∧ W m' sl' C', fun σ' H' q => q, ?_⟩
    refine ⟨sl1, C2, _, rs1.mono st2.tx, rl2, q, ⟨fun σ sl H' C' st rl rs q => ?_, fun v d H' C' st => k.rt v d H' C' ((st1.trans st2).trans st), fun σ sl H' C' st => k.nx σ sl H' C' ((st1.trans st2).trans st), fun σ sl H' C' st rl rs q => ?_⟩⟩
    · obtain ⟨m', hm, C'', hs, q⟩ := q
      exact ⟨m', hm, sl, C'', rs, rl.less hs, ((st1.trans st2).trans st).less hs, q⟩
    · obtain ⟨m', hm, C'', hs, q⟩ := q
      exact ⟨m', hm, sl, C'', rs, rl.less hs, ((st1.trans st2).trans st).less hs, q⟩
  | false => exact k.nx _ _ H2 C2 (st1.trans st2) rl2 (rs1.mono st2.tx) q
/-! ### comprehensions -/
theorem wipe_at {σ : L2.St} {i : Nat} {x : Option V} : ∀ {vs : List Nat}, i ∈ vs → wipe (σ.set i x) vs = wipe σ vs
  | v :: vs, h => by
    unfold wipe
    by_cases hm : i ∈ vs
    · rw [wipe_at hm]
    · have e : i = v := by
        rcases List.mem_cons.mp h with e | e
        · exact e
        · exact absurd e hm
      subst e
      have : ∀ ws : List Nat, i ∉ ws → wipe (σ.set i x) ws = (wipe σ ws).set i x := by
        intro ws
        induction ws with
        | nil => intro _; rfl
        | cons w ws ih =>
          intro hn
          have h1 : i ≠ w := fun e => hn (by simp [e])
          have h2 : i ∉ ws := fun e => hn (by simp [e])
          show (wipe (σ.set i x) ws).set w none = ((wipe σ ws).set w none).set i x
          rw [ih h2, List.set_comm _ _ h1]
      rw [this vs hm, List.set_set]
theorem wipe_get {σ : L2.St} : ∀ (vs : List Nat) (i : Nat), (wipe σ vs)[i]? = if i ∈ vs ∧ i < σ.length then some none else σ[i]?
  | [], i => by simp [wipe]
  | v :: vs, i => by
    show ((wipe σ vs).set v none)[i]? = _
    rw [List.getElem?_set, wipe_get vs i, wipe_length]
    by_cases e : v = i
    · subst e
      by_cases hl : v < σ.length
      · simp [hl]
      · simp [hl, List.getElem?_eq_none (Nat.le_of_not_lt hl)]
    · have e2 : ¬ i = v := fun z => e z.symm
      simp [e, e2]
theorem wipe_idem (σ : L2.St) (vs : List Nat) : wipe (wipe σ vs) vs = wipe σ vs := by
  apply List.ext_getElem?
  intro i
  rw [wipe_get, wipe_length, wipe_get]
  by_cases h : i ∈ vs ∧ i < σ.length
  · rw [if_pos h, if_pos h]
  · rw [if_neg h]
def lGv (K : PySem.W.Frag) (B : Bs) (vs : List Nat) (τ : DG) : TG := fun v σ H Q => ∃ d sl C Qd, Rep K H d v ∧ RepS K H sl σ ∧ Rl K B H C ∧ τ d sl C Qd ∧ ∀ σ' sl' H' C', Stp H C H' C' → Rl K B H' C' → RepS K H' sl' σ' → wipe σ' vs = wipe σ vs → Qd sl' C' → Q σ' H'
def lGsv (K : PySem.W.Frag) (B : Bs) (vs : List Nat) (τ : DGs) : TGs := fun v σ H Q => ∃ d sl C Qd, Reps K H d v ∧ RepS K H sl σ ∧ Rl K B H C ∧ τ d sl C Qd ∧ ∀ σ' sl' H' C', Stp H C H' C' → Rl K B H' C' → RepS K H' sl' σ' → wipe σ' vs = wipe σ vs → Qd sl' C' → Q σ' H'
def GL (K : PySem.W.Frag) (B : Bs) (vs : List Nat) (g : TG) (τ : DG) : Prop := ∀ v σ H Q, lGv K B vs τ v σ H Q → g v σ H Q
def GLs (K : PySem.W.Frag) (B : Bs) (vs : List Nat) (g : TGs) (τ : DGs) : Prop := ∀ v σ H Q, lGsv K B vs τ v σ H Q → g v σ H Q
theorem gl_name {vs : List Nat} {i : Nat} (h : i ∈ vs := by decide) : GL K B vs (gName i) (gNm i) := fun v σ H Q ⟨d, sl, C, Qd, r, rs, rl, q, k⟩ => k _ _ H C (Stp.refl _ _) rl (rs.setD r i) (wipe_at h) q
theorem gls_nil {vs : List Nat} : GLs K B vs gNil gNl := fun v σ H Q ⟨d, sl, C, Qd, r, rs, rl, ⟨e, q⟩, k⟩ => by
  subst e
  cases r
  exact ⟨rfl, k _ _ H C (Stp.refl _ _) rl rs rfl q⟩
theorem gls_cons {vs : List Nat} {g : TG} {gs : TGs} {τ : DG} {τs : DGs} (h1 : GL K B vs g τ) (h2 : GLs K B vs gs τs) : GLs K B vs (gCons g gs) (gCn τ τs) := fun v σ H Q ⟨d, sl, C, Qd, r, rs, rl, ⟨x, xr, e, q⟩, k⟩ => by
  subst e
  obtain ⟨w, vr, rfl, r1, r2⟩ := r
  exact ⟨w, vr, rfl, h1 _ _ _ _ ⟨x, sl, C, _, r1, rs, rl, q, fun σ' sl' H' C' st rl' rs' hw q => h2 _ _ _ _ ⟨xr, sl', C', Qd, r2.mono st.tx, rs', rl', q, fun a b c d e f g hw2 => k a b c d (st.trans e) f g (hw2.trans hw)⟩⟩⟩
theorem gl_tup {vs : List Nat} {n : Nat} {gs : TGs} {τs : DGs} (h : GLs K B vs gs τs) : GL K B vs (gTup K n gs) (gTp n τs) := fun v σ H Q ⟨d, sl, C, Qd, r, rs, rl, ⟨ds, e, hl, q⟩, k⟩ => by
  subst e
  obtain ⟨a, ws, rfl, hq, hr⟩ := r
  exact ⟨a, ws, rfl, hq, by rw [← hr.length]; exact hl, h _ _ _ _ ⟨ds, sl, C, Qd, hr, rs, rl, q, k⟩⟩
theorem stp_hid {H0 H1 H : Hp} {C0 C1 C : Cp} {p : Addr} {o : HO} (a : Stp H0 C0 H1 C1) (h1 : H1 p = none) (b : Stp H1 C1 H C) (hp : ¬ Frz (H p)) : Stp H0 C0 (upd H p o) C := by
  refine ⟨(a.tx.trans b.tx).trans (tx_upd hp), fun q u e n => ?_⟩
  obtain ⟨e1, n1⟩ := a.hid q u e n
  obtain ⟨e2, n2⟩ := b.hid q u e1 n1
  exact ⟨by rw [upd_ne (ne_of_none e1 h1)]; exact e2, n2⟩
/-- the list so far is hidden; Pv by the turn and it; behind a turn what is not wanted may be let go -/
def dLc (src : DI) (g : DG) (tt : DT) (te : DE) (vs : List Nat) : DE := fun s C Q => src s C fun items ok C1 => ∃ Pv : Nat → List D → Cp → Prop, Pv 0 [] C1 ∧ (∀ i acc C, i ≤ items.length → Pv i acc C → ok C) ∧
  (∀ i x acc C, items[i]? = some x → Pv i acc C → acc.length ≤ i → g x (wipeD s vs) C fun s2 C2 => tt s2 C2 fun b C3 => if b = true then te s2 C3 fun y C4 => ∃ C'', Sub C'' C4 ∧ Pv (i + 1) (acc ++ [y]) C'' else ∃ C'', Sub C'' C3 ∧ Pv (i + 1) acc C'') ∧
  items.length < sizeLine ∧ ∀ acc C p, Pv items.length acc C → C p = none → Q (.ptr p) (up C p (.lst acc))
abbrev JTs (X : Cx) (B : Bs) (ifs : List Expr) (τ : DT) : Prop := PTs X ifs (lT X.K B τ)
def dYes : DT := fun _ C Q => Q true C
theorem jts_nil : JTs X B [] dYes := by
  refine ⟨fun pins s σ H Q I h => pts_nil.run pins s σ H Q I ?_⟩
  obtain ⟨sl, C, Qd, rs, rl, h, k⟩ := h
  exact k _ H C (Stp.refl _ _) rl h
theorem jts_one (h : JT X B c tA) : JTs X B [c] tA := pts_one h
theorem lc_lift {vs : List Nat} {g : TG} {τg : DG} {tt : DT} {te : DE} {σ : L2.St} {H : Hp} {Q : VK} (hg : GL K B vs g τg) (h : lE K B (dLc src τg tt te vs) σ H Q) : tLc (lI K B src) g (lT K B tt) (lE K B te) vs σ H Q := by
  obtain ⟨sl, C, Qd, rs, rl, h, k⟩ := h
  refine ⟨sl, C, _, rs, rl, h, fun items ok H1 C1 J st1 rl1 w ⟨Pv, h0, hok, hstep, hz, hd⟩ D hD => ?_⟩
  have c1 : C1 D = none := rl1.fresh hD
  refine ⟨fun i m H => m = items.length - i ∧ i ≤ items.length ∧ ∃ acc vacc C, H D = some (.lst vacc) ∧ Reps K H acc vacc ∧ Rl K B H C ∧ Stp H1 C1 H C ∧ C D = none ∧ acc.length ≤ i ∧ Pv i acc C,
    ⟨_, rfl, Nat.zero_le _, [], [], C1, upd_same, .nil, rl1.more hD, stp_more hD, c1, Nat.le_refl _, h0⟩, ?_⟩
  rintro i m H2 ⟨rfl, hi2, acc, vacc, C2, eD, ra, rl2, st2, cD, hl, hp2⟩
  have rb : Rl K ⟨H1, C1, B.P, B.w⟩ H2 C2 := ⟨st2, rl2.ok, rl2.ti⟩
  have o := hok i acc C2 hi2 hp2
  by_cases hlt : i < items.length
  · refine .inr ⟨w.goes i H2 C2 hlt rb o, fun H' => ∃ acc vacc C, H' D = some (.lst vacc) ∧ Reps K H' acc vacc ∧ Rl K B H' C ∧ Stp H1 C1 H' C ∧ C D = none ∧ acc.length ≤ i + 1 ∧ Pv (i + 1) acc C, fun H' q => ⟨items.length - (i + 1), by omega, rfl, hlt, q⟩, fun x H' y => ?_⟩
    obtain ⟨s3, r3, d, e, rd⟩ := w.yields i H2 C2 x H' hlt rb o y
    have rl3 : Rl K B H' C2 := ⟨rl2.st.trans s3, r3.ok, r3.ti⟩
    refine hg _ _ _ _ ⟨d, wipeD sl vs, C2, _, rd, (rs.wipe vs).mono ((st1.trans st2).trans s3).tx, rl3, hstep i d acc C2 e hp2 hl, fun σ' sl' H3 C3 st3 rl4 rs3 hw q => ⟨by rw [hw, wipe_idem], ?_⟩⟩
    refine ⟨sl', C3, _, rs3, rl4, q, fun b H4 C4 st4 rl5 q => ?_⟩
    have s24 : Stp H2 C2 H4 C4 := (s3.trans st3).trans st4
    cases b with
    | true =>
      refine ⟨sl', C4, _, rs3.mono st4.tx, rl5, q, fun v dv H5 C5 st5 rl6 rv ⟨C6, hs, q⟩ => ?_⟩
      have s25 : Stp H2 C2 H5 C5 := s24.trans st5
      obtain ⟨e5, n5⟩ := s25.hid D _ eD cD
      have nf : ¬ Frz (H5 D) := by rw [e5]; exact id
      refine ⟨vacc, e5, ?_, acc ++ [dv], vacc ++ [v], C6, upd_same, (Reps.append (ra.mono s25.tx) (.cons rv .nil)).mono (tx_upd nf), ?_, ?_, hs.none n5, by rw [List.length_append]; show acc.length + 1 ≤ i + 1; omega, q⟩
      · rw [← ra.length]
        omega
      · have st' : Stp B.H B.C (upd H5 D (.lst (vacc ++ [v]))) C6 := (stp_hid rl1.st hD (st2.trans s25) nf).less hs
        refine ⟨st', fun p c e => ?_, ti_upd rl6.ti⟩
        have hp : p ≠ D := by
          intro z
          subst z
          rw [hs.none n5] at e
          cases e
        exact (rl6.ok p c (hs p c e)).keep (tx_upd nf) (upd_ne hp)
      · exact (stp_hid (Stp.refl H1 C1) hD (st2.trans s25) nf).less hs
    | false =>
      obtain ⟨C6, hs, q⟩ := q
      obtain ⟨e5, n5⟩ := s24.hid D _ eD cD
      exact ⟨acc, vacc, C6, e5, ra.mono s24.tx, rl5.less hs, (st2.trans s24).less hs, hs.none n5, by omega, q⟩
  · have e : i = items.length := by omega
    subst e
    refine .inl ⟨w.stops H2 C2 rb o, k _ _ H2 (up C2 D (.lst acc)) ?_ ⟨?_, fun p c e => ?_, rl2.ti⟩ (repP D) (hd acc C2 D hp2 cD)⟩
    · refine st1.trans ⟨st2.tx, fun p u e n => ?_⟩
      obtain ⟨a1, a2⟩ := st2.hid p u e n
      exact ⟨a1, by rw [up_ne (ne_of_none e hD)]; exact a2⟩
    · refine rl1.st.trans ⟨st2.tx, fun p u e n => ?_⟩
      obtain ⟨a1, a2⟩ := st2.hid p u e n
      exact ⟨a1, by rw [up_ne (ne_of_none e hD)]; exact a2⟩
    · by_cases hp : p = D
      · subst hp
        rw [up_same] at e
        cases e
        exact ⟨vacc, eD, ra⟩
      · rw [up_ne hp] at e
        exact rl2.ok p c e
theorem j_lc {elt : Expr} {ifs : List Expr} {scope : Scope} (own : List (Str × Nat)) {g : TG} {τg : DG} {tt : DT} {te : DE} (hc : X.calm = true) (hN : X.N.Nodup) (hi : JI X B tg a src) (hgl : GL X.K B (own.map (·.2)) g τg)
    (hg : ∀ (s : Shared) (H : Hp) (C : Addr) (cl : List (Str × Addr)) (fp : List Addr), PG (X.blk s H scope (compEnvC scope cl C X.env) fp) tg g)
    (ht : ∀ (s : Shared) (H : Hp) (C : Addr) (cl : List (Str × Addr)) (fp : List Addr), JTs (X.blk s H scope (compEnvC scope cl C X.env) fp) B ifs tt)
    (he : ∀ (s : Shared) (H : Hp) (C : Addr) (cl : List (Str × Addr)) (fp : List Addr), JE (X.blk s H scope (compEnvC scope cl C X.env) fp) B elt te) (ok : blkC X.N X.env.scope scope own = true := by decide +kernel) (hs : ∀ x, foldedSetIterable a X.env x = pure x := by intro _; rfl) :
    JE X B (.ListComp elt [⟨tg, a, ifs, 0⟩] scope pos) (dLc src τg tt te (own.map (·.2))) := PE.imp (pe_lc hc hN hi (blkOk_by ok) hg ht he hs) fun _ _ _ h => lc_lift hgl h
theorem js_setLc {i : Nat} {y : Str} {py spos : Pos} {elt : Expr} {ifs : List Expr} {scope : Scope} (own : List (Str × Nat)) {g : TG} {τg : DG} {tt : DT} {te : DE} (hc : X.calm = true) (hN : X.N.Nodup) (hi : JI X B tg a src) (hgl : GL X.K B (own.map (·.2)) g τg)
    (hg : ∀ (s : Shared) (H : Hp) (C : Addr) (cl : List (Str × Addr)) (fp : List Addr), PG (X.blk s H scope (compEnvC scope cl C X.env) fp) tg g)
    (ht : ∀ (s : Shared) (H : Hp) (C : Addr) (cl : List (Str × Addr)) (fp : List Addr), JTs (X.blk s H scope (compEnvC scope cl C X.env) fp) B ifs tt)
    (he : ∀ (s : Shared) (H : Hp) (C : Addr) (cl : List (Str × Addr)) (fp : List Addr), JE (X.blk s H scope (compEnvC scope cl C X.env) fp) B elt te)
    (hsw : swapsWith (.ListComp elt [⟨tg, a, ifs, 0⟩] scope pos) (some (.Name y py)) spos.line X.env = pure true)
    (hy : X.N[i]? = some y := by rfl) (hyl : X.env.scope.names.lookup y = some .local := by rfl) (ok : blkC X.N X.env.scope scope own = true := by decide +kernel) (hs : ∀ x, foldedSetIterable a X.env x = pure x := by intro _; rfl) :
    JS X B (.Assign [.Name y py] (.ListComp elt [⟨tg, a, ifs, 0⟩] scope pos) spos) (dAsg (dLc src τg tt te (own.map (·.2))) (gNm i)) := PS.imp (ps_setLc hc hN hy hyl hsw hi (blkOk_by ok) hg ht he hs) fun D σ H h => by
  obtain ⟨sl, C, Dd, rs, rl, h, k⟩ := h
  exact lc_lift (Q := fun x H1 => gName i x σ H1 D.nx) hgl ⟨sl, C, _, rs, rl, h, fun v d H1 C1 st1 rl1 r q => k.nx _ _ H1 C1 st1 rl1 ((rs.mono st1.tx).setD r i) q⟩
end
end KB

/-! KG: defs that are called where no repr is under way. -/
namespace KB
open PySem PySem.Spec PyProof.Rows
open L2
/-- room within calls where nothing is being shown -/
structure RoomG (k : Nat) (A : Around) : Prop extends Room k A where
  gd : A.guards = some []
theorem RoomG.mono {j k : Nat} {A : Around} (r : RoomG k A) (h : j ≤ k) : RoomG j A := ⟨r.toRoom.mono h, r.gd⟩
/-- what a def promises to a caller within whom nothing is being shown -/
structure FnG (P : Program) (w : World) (K : PySem.W.Frag) (mg : Str → Option Value) (base : Heap) (X0 : CXT) (k : Nat) (f : Addr) (fd : FuncData) (ps : List Str) (sp : Sp) : Prop where
  len : ∀ vs H Q E, sp vs H Q E → vs.length = ps.length
  go : ∀ (A : Around) (out : List Env) (s : Shared) (H : Hp) (as : Args) (us : List Value) (vs : List V) (Q : VK) (E : XK), A.guards = some [] → Room k A → Env0 P w K mg base A out s H → BindsTo s fd as (ps.zip us) → Vals vs us → sp vs H Q E →
    codeAny (model P w) A (.call (.ref f) as) (CR X0 out P w H s Q E) s
section
variable {P : Program} {w : World} {K : PySem.W.Frag} {mg : Str → Option Value} {base : Heap} {X0 : CXT} {f : Addr} {fd : FuncData} {ps : List Str} {sp : Sp}
theorem FnG.mono {j k : Nat} (F : FnG P w K mg base X0 j f fd ps sp) (h : j ≤ k) : FnG P w K mg base X0 k f fd ps sp := ⟨F.len, fun A out s H as us vs Q E g r => F.go A out s H as us vs Q E g (r.mono h)⟩
/-- a def's body -/
theorem FnG.of {x q : Str} {st : Stmt} {N : List Str} {k : Nat} (F : Fun K x q st f fd) (S : FnScope N ps (defScope st)) (len : ∀ vs H Q E, sp vs H Q E → vs.length = ps.length)
    (body : ∀ (cdv : Value) (A : Around) (out : List Env) (s : Shared) (H : Hp) (vs : List V) (Q : VK) (E : XK), (A.deeper (envOfC q (defScope st) s.heap.objs.size f cdv)).guards = some [] → Room k (A.deeper (envOfC q (defScope st) s.heap.objs.size f cdv)) → sp vs H Q E →
      ∃ t, PSs (cxOf CX0 P w K mg base N q (defScope st) f cdv A out s H E).nox (defBody st) t ∧ t { nx := fun _ H' => Q .non H', rt := Q } (start N vs) H) : FnG P w K mg base CX0 (k + 1) f fd ps sp := by
  obtain ⟨oc, od, kV, doc, pm, an, cdv, ct, osl, rfl, lk, hcd⟩ := F.ex
  refine ⟨len, fun A out s H as us vs Q E g hr e0 hb r hs => ?_⟩
  have n1 := len _ _ _ _ hs
  have old : ∀ b o, base.get? b = some o → s.heap.get? b = some o := fun b o e => (e0.bs b o e).1
  have kin : K.In s.heap := e0.mod.kin.keeps old
  have nol : s.heap.NoLimit := e0.mod.nolimit.keeps old
  have kinds : ∀ y ∈ ps.zip us, (defScope st).names.lookup y.1 = some .local ∨ ((defScope st).names.lookup y.1 = some .cell ∧ ((cellsFrom (s.heap.objs.size + 1) (defScope st).names []).lookup y.1).isSome = true) := by
    rintro ⟨n, v⟩ hy
    rcases S.par n (List.of_mem_zip hy).1 with z | z
    · exact .inl z
    · exact .inr ⟨z, PySem.W.cellsFrom_some _ _ _ (.inl z)⟩
  refine codeAny_call_function hr.depth (kin _ _ lk) rfl S.co S.gen rfl (PySem.W.codeRec_of kin hcd) (hb _ _ _ _ ?_)
  refine wpAny_newFunctionEnv_cells S.kind kinds fun env he s1 x => ?_
  subst he
  refine ⟨nol.keeps x.toInCall.keep, codeAny_func ?_⟩
  obtain ⟨t, ht, hq⟩ := body cdv A out s H vs Q E g (hr.deeper _) hs
  have I : Inv (cxOf CX0 P w K mg base N q (defScope st) f cdv A out s H E) [] (start N vs) H s1 := inv_start S hr.hd e0 n1 r x
  have fin : ∀ {s' : Shared} {σ' : L2.St} {H' : Hp} {v : V} {u : Value}, Inv (cxOf CX0 P w K mg base N q (defScope st) f cdv A out s H E) [] σ' H' s' → RelV v u → Q v H' → CE out P w H s Q u s' := fun J rv z => ⟨_, _, J.os, J.bare, J.base, J.hok, rv, z⟩
  refine wpAny_mono (ht.nox.run [] s1 (start N vs) H _ I hq) (fun fl s' hf => ?_) fun _ _ z => z
  match fl, hf with
  | .ret u, ⟨v, σ', H', J, rv, z⟩ => exact fin J rv z
  | .next, ⟨σ', H', J, z⟩ => exact fin (v := V.non) (u := Value.none) J rfl z
  | .brk, ⟨_, _, _, z⟩ => exact z.elim
  | .cont, ⟨_, _, _, z⟩ => exact z.elim
end
section
variable {X : Cx} {X0 : CXT} {k : Nat} {f C : Addr} {fd : FuncData} {ps : List Str} {sp : Sp} {dvs : List V} {ds : List Value} {E : XK} {x m : Str} {p pos apos : Pos} {e o : Expr} {es : List Expr} {ta : TE} {t : TA}
theorem FnG.run {pins : List (Addr × Obj)} {σ : L2.St} {H : Hp} {s : Shared} {Q : VK} {us : List Value} {vs : List V} (F : FnG X.prog X.w X.K X.mg X.base X0 k f fd ps sp) (g : X.A.guards = some []) (hr : Room k X.A) (hb : Binds X.K fd ps ds) (hd : Vals dvs ds) (hx : Passes X0 X E)
    (I : Inv X pins σ H s) (r : Vals vs us) (h : sp (vs ++ dvs) H Q E) : wpAny (model X.prog X.w) X.A (call (.ref f) us) (EP X pins σ Q) X.xe s := by
  have rr := r.append hd
  have n1 : (us ++ ds).length = ps.length := rr.length.symm.trans (F.len _ _ _ _ h)
  refine wpAny_call (codeAny_mono (F.go X.A X.stack s H ⟨us, []⟩ (us ++ ds) (vs ++ dvs) Q E g hr I.env0 (hb s us I.kIn n1) rr h) fun res s' hq => ?_)
  match res, hq with
  | .error e, hq => exact hx pins σ H s e s' I hq
  | .ok (.ret u), hq => exact I.after hq
  | .ok .next, hq => exact False.elim hq
  | .ok .brk, hq => exact False.elim hq
  | .ok .cont, hq => exact False.elim hq
theorem callG (F : FnG X.prog X.w X.K X.mg X.base X0 k f fd ps sp) (g : X.A.guards = some []) (hr : Room k X.A) (hg : Gl X x) (hm : X.mg x = some (.ref f)) (hk : PySem.W.keepIn X.K (.ref f) = true) (hb : Binds X.K fd ps ds) (hd : Vals dvs ds) (hx : Passes X0 X E) (ha : PA X (e :: es) t)
    (hdb : (x == ("__debug__" : Str)) = false := by decide) (he : starEach (e :: es) X.env = (false, eval e X.env) :: starEach es X.env := by rfl) (hpl : (backTo pos (starEach es X.env)).any (·.1) = false := by rfl) : PE X (.Call (.Name x p) (e :: es) [] pos) (tCall sp dvs E t) where
  run pins s σ H Q I h := wpAny_Call_Name_kw (ld_glob I hg hm (PySem.W.callWith_K (h₀ := X.base) I.ok.mod.kin hk (thn (ha.run pos pins s σ H _ I h) fun us s1 ⟨vs, H1, I1, r, z⟩ => ⟨I1.kIn, F.run g hr hb hd hx I1 r z⟩) he hpl) hdb)
theorem call0G (F : FnG X.prog X.w X.K X.mg X.base X0 k f fd ps sp) (g : X.A.guards = some []) (hr : Room k X.A) (hg : Gl X x) (hm : X.mg x = some (.ref f)) (hk : PySem.W.keepIn X.K (.ref f) = true) (hb : Binds X.K fd ps ds) (hd : Vals dvs ds) (hx : Passes X0 X E)
    (hdb : (x == ("__debug__" : Str)) = false := by decide) : PE X (.Call (.Name x p) [] [] pos) (tCall sp dvs E tNil) where
  run pins s σ H Q I h := wpAny_Call_Name_kw (ld_glob I hg hm (PySem.W.callWith_K0 I.kIn hk (F.run (us := []) g hr hb hd hx I .nil h)) hdb)
theorem methG {pl : Sem Bool} (he : PE X o ta) (c : Cls X.K C) (hm : Meth X.K C m f) (F : FnG X.prog X.w X.K X.mg X.base X0 k f fd ps sp) (g : X.A.guards = some []) (hr : Room k X.A) (hb : Binds X.K fd ps ds) (hd : Vals dvs ds) (hx : Passes X0 X E) (ha : PA X (e :: es) t)
    (hst : starEach (e :: es) X.env = (false, eval e X.env) :: starEach es X.env := by rfl) (hpl : (backTo pos (starEach es X.env)).any (·.1) = false := by rfl)
    (ht : eval (.Call (.Attribute o m apos) (e :: es) [] pos) X.env = (do
      let v ← eval o X.env
      standAt apos.atName
      let (f, first) ← holding [v] (getMethod v m pl)
      callWith pos f first (backTo pos (starEach (e :: es) X.env)) (backToKw pos (keywordEach [] X.env))) := by rfl) : PE X (.Call (.Attribute o m apos) (e :: es) [] pos) (tMeth C m sp dvs E ta t) where
  run pins s σ H Q I h := by
    refine PySem.W.methodCall_KW (pl := pl) (thn (he.run pins s σ H _ I h) fun u s1 ⟨x, H1, I1, rx, a, dx, fs, ex, ea, l, z⟩ => ?_) ht
    cases ex
    obtain rfl : u = Value.ref a := rx
    exact getmeth_ok I1 ea c hm l (PySem.W.callWith_K (first := [.ref a]) (h₀ := X.base) I.ok.mod.kin hm.kp (thn (ha.run pos pins s1 σ H1 _ I1 z) fun us s2 ⟨vs, H2, I2, r, z2⟩ => ⟨I2.kIn, F.run (us := .ref a :: us) (vs := .ref a :: vs) g hr hb hd hx I2 (.cons rfl r) z2⟩) hst hpl)
theorem meth0G {pl : Sem Bool} (he : PE X o ta) (c : Cls X.K C) (hm : Meth X.K C m f) (F : FnG X.prog X.w X.K X.mg X.base X0 k f fd ps sp) (g : X.A.guards = some []) (hr : Room k X.A) (hb : Binds X.K fd ps ds) (hd : Vals dvs ds) (hx : Passes X0 X E)
    (ht : eval (.Call (.Attribute o m apos) [] [] pos) X.env = (do
      let v ← eval o X.env
      standAt apos.atName
      let (f, first) ← holding [v] (getMethod v m pl)
      callWith pos f first (backTo pos (starEach [] X.env)) (backToKw pos (keywordEach [] X.env))) := by rfl) : PE X (.Call (.Attribute o m apos) [] [] pos) (tMeth C m sp dvs E ta tNil) where
  run pins s σ H Q I h := by
    refine PySem.W.methodCall_KW (pl := pl) (thn (he.run pins s σ H _ I h) fun u s1 ⟨x, H1, I1, rx, a, dx, fs, ex, ea, l, z⟩ => ?_) ht
    cases ex
    obtain rfl : u = Value.ref a := rx
    exact getmeth_ok I1 ea c hm l (PySem.W.callWith_K0 (first := [.ref a]) I1.kIn hm.kp (F.run (us := [.ref a]) (vs := [.ref a]) g hr hb hd hx I1 (.cons rfl .nil) z))
theorem FnG.make {pins : List (Addr × Obj)} {σ : L2.St} {H : Hp} {s : Shared} {Q : VK} {us : List Value} {vs : List V} (M : Mk X.K C f) (F : FnG X.prog X.w X.K X.mg X.base X0 k f fd ps sp) (g : X.A.guards = some []) (hr : Room (k + 1) X.A) (hb : Binds X.K fd ps ds) (hd : Vals dvs ds)
    (hx : Passes X0 X E) (I : Inv X pins σ H s) (r : Vals vs us) (h : ∀ x dx, H x = none → H dx = none → dx ≠ x → sp (.ref x :: (vs ++ dvs)) (upd (upd H dx (.own x)) x (.ins C dx [])) (fun v H2 => v = .non ∧ Q (.ref x) H2) E) :
    wpAny (model X.prog X.w) X.A (call (.ref C) us) (EP X pins σ Q) X.xe s := by
  have z := h (s.heap.objs.size + 1) s.heap.objs.size (I.hok.fresh (Nat.le_succ _)) (I.hok.fresh (Nat.le_refl _)) (Nat.ne_of_lt (Nat.lt_succ_self _))
  have J := Inv.made (C := C) I
  have rr : Vals (V.ref (s.heap.objs.size + 1) :: (vs ++ dvs)) (Value.ref (s.heap.objs.size + 1) :: (us ++ ds)) := .cons rfl (r.append hd)
  have n1 : (Value.ref (s.heap.objs.size + 1) :: us ++ ds).length = ps.length := by rw [← F.len _ _ _ _ z, rr.length]; rfl
  have g2 : (X.A.under (.builtin "type.__call__" ⟨.ref C :: us, []⟩)).guards = some [] := by
    have q : (Code.builtin "type.__call__" ⟨.ref C :: us, []⟩).isGuard = false := by
      show guardIds.contains "type.__call__" = false
      decide +kernel
    have q2 : (Code.builtin "type.__call__" ⟨.ref C :: us, []⟩).guards = [] := by unfold Code.guards; rw [q]; rfl
    show pushGuards (Code.builtin "type.__call__" ⟨.ref C :: us, []⟩).guards X.A.guards = some []
    rw [q2, g]
    rfl
  refine wpAny_call (make_map (f := f) I.kIn M.makes M.init (beq_iff_eq.mp M.fn) (codeAny_mono (F.go _ X.stack _ _ ⟨Value.ref (s.heap.objs.size + 1) :: us, []⟩ (Value.ref (s.heap.objs.size + 1) :: (us ++ ds)) _ _ E g2 (hr.make C us [])
    (J.env0.make C us []) (hb _ (Value.ref (s.heap.objs.size + 1) :: us) J.kIn n1) rr z) fun res s' hq => ?_))
  match res, hq with
  | .error e, hq => exact hx pins σ _ _ e s' J hq
  | .ok (.ret u), hq =>
    obtain ⟨v, H', J2, rv, ev, z3⟩ := J.after hq
    cases ev
    exact ⟨rv, ⟨V.ref (s.heap.objs.size + 1), H', J2, rfl, z3⟩⟩
  | .ok .next, hq => exact False.elim hq
  | .ok .brk, hq => exact False.elim hq
  | .ok .cont, hq => exact False.elim hq
theorem makeG (M : Mk X.K C f) (F : FnG X.prog X.w X.K X.mg X.base X0 k f fd ps sp) (g : X.A.guards = some []) (hr : Room (k + 1) X.A) (hg : Gl X x) (hm : X.mg x = some (.ref C)) (hb : Binds X.K fd ps ds) (hd : Vals dvs ds) (hx : Passes X0 X E) (ha : PA X (e :: es) t)
    (hdb : (x == ("__debug__" : Str)) = false := by decide) (he : starEach (e :: es) X.env = (false, eval e X.env) :: starEach es X.env := by rfl) (hpl : (backTo pos (starEach es X.env)).any (·.1) = false := by rfl) : PE X (.Call (.Name x p) (e :: es) [] pos) (tMake C sp dvs E t) where
  run pins s σ H Q I h := wpAny_Call_Name_kw (ld_glob I hg hm (PySem.W.callWith_K (h₀ := X.base) I.ok.mod.kin M.kp (thn (ha.run pos pins s σ H _ I h) fun us s1 ⟨vs, H1, I1, r, z⟩ => ⟨I1.kIn, F.make M g hr hb hd hx I1 r z⟩) he hpl) hdb)
theorem make0G (M : Mk X.K C f) (F : FnG X.prog X.w X.K X.mg X.base X0 k f fd ps sp) (g : X.A.guards = some []) (hr : Room (k + 1) X.A) (hg : Gl X x) (hm : X.mg x = some (.ref C)) (hb : Binds X.K fd ps ds) (hd : Vals dvs ds) (hx : Passes X0 X E)
    (hdb : (x == ("__debug__" : Str)) = false := by decide) : PE X (.Call (.Name x p) [] [] pos) (tMake C sp dvs E tNil) where
  run pins s σ H Q I h := wpAny_Call_Name_kw (ld_glob I hg hm (PySem.W.callWith_K0 I.kIn M.kp (F.make (us := []) M g hr hb hd hx I .nil h)) hdb)
end
/-! ### the law's call -/
theorem lawG {P : Program} {w : World} {K : PySem.W.Frag} {mg mb : Str → Option Value} {X0 : CXT} {k : Nat} {fa a : Addr} {fd : FuncData} {x : Str} {sp : Sp} {t : Shared} {vs : List Value} {ns : List Int}
    (KX : K.In t.heap) (hns : t.heap.Ns mainGlobals mg) (hb : t.heap.Ns builtinsNs mb) (hbb : ∀ x : Str, x ≠ "__name__" → mb x = bootBuiltins x) (nol : t.heap.NoLimit) (hg : t.gens = #[])
    (ha : t.heap.get? a = some { cls := .type "list", data := .seq vs.toArray }) (hi : IntsAre vs ns) (hl : ns.length ≤ sizeLine) (hr : Room k callerA)
    (F : ∀ base : Heap, K.In base → base.Ns mainGlobals mg → FnG P w K mg base X0 k fa fd [x] sp) (bind : ∀ (s : Shared) (u : Value), BindsTo s fd ⟨[u], []⟩ [(x, u)])
    (hsp : ∀ H : Hp, Only H → SqL K H a (ns.map V.int) → sp [.ref a] H (fun v _ => v = .bl true) fun _ _ _ => False) (hX : ∀ H e s', X0 [] H t (fun _ _ _ => False) e s' → False) :
    codeAny (model P w) callerA (.call (.ref fa) ⟨[.ref a], []⟩) (fun r s' => r = .ok (.ret (.bool true)) ∧ OldK t.heap s'.heap ∧ s'.os = t.os ∧ AllBare s'.gens) t := by
  have rv := vals_ints hi
  have core : ∀ H : Hp, Only H → SqL K H a (ns.map V.int) → HOk P w H t.heap → (∀ b, H b ≠ none → b = a) → (H a ≠ none → K.lookup a = none) →
      codeAny (model P w) callerA (.call (.ref fa) ⟨[.ref a], []⟩) (fun r s' => r = .ok (.ret (.bool true)) ∧ OldK t.heap s'.heap ∧ s'.os = t.os ∧ AllBare s'.gens) t := by
    intro H hO hS hok hA hK
    have low : ∀ {b : Addr} {o : Obj}, t.heap.get? b = some o → H b = none → (hidT t.heap H).get? b = some o := fun e n => hidT_get e n
    have dictNo : ∀ {b : Addr} {o : Obj} {es : Array DictEntry} {ep : Nat}, t.heap.get? b = some o → o.data = .dict es ep → H b = none := by
      intro b o es ep e d
      by_cases q : H b = none
      · exact q
      · cases hA b q
        rw [ha] at e
        cases e
        exact nomatch (d : Data.seq vs.toArray _ = Data.dict es ep)
    have nsK : ∀ {b : Addr} {m : Str → Option Value}, t.heap.Ns b m → (hidT t.heap H).Ns b m := fun ⟨o, es, ep, e, d, r⟩ => ⟨o, es, ep, low e (dictNo e d), d, r⟩
    have kin : K.In (hidT t.heap H) := fun b o e => low (KX b o e) (by
      by_cases q : H b = none
      · exact q
      · cases hA b q
        rw [hK q] at e
        cases e)
    have md : Mod K mg (hidT t.heap H) := ⟨kin, nsK hns, ⟨mb, nsK hb, hbb⟩, by obtain ⟨mc, h1, h2⟩ := nol; exact ⟨mc, nsK h1, h2⟩⟩
    have e0 : Env0 P w K mg (hidT t.heap H) callerA [] t H := ⟨rfl, md, fun b o e => of_hidT e, Nat.le_of_eq (hidT_size _ _), trivial, (fun b (z : b ∈ ([] : List Addr)) => nomatch z), hok, .of_eq hg⟩
    refine codeAny_mono ((F _ kin (nsK hns)).go callerA [] t H ⟨[.ref a], []⟩ [.ref a] [.ref a] _ _ rfl hr e0 (bind t (.ref a)) (.cons rfl .nil) (hsp H hO hS)) fun r s' h => ?_
    match r, h with
    | .error e, h => exact (hX H e s' h).elim
    | .ok .next, h => exact False.elim h
    | .ok .brk, h => exact False.elim h
    | .ok .cont, h => exact False.elim h
    | .ok (.ret u), h =>
      obtain ⟨v, H', os, bare, un, hok', r', q⟩ := h
      have q : v = .bl true := q
      subst q
      obtain rfl : u = Value.bool true := r'
      refine ⟨rfl, OldK.of_keep fun b o e => ?_, os, bare⟩
      rcases hO b with z | ⟨ob, xs, z⟩
      · exact un.keep b o e z (fun z2 : b ∈ ([] : List Addr) => nomatch z2) (by simp)
      · obtain ⟨e1, _⟩ := hok b _ z
        obtain ⟨e2, _⟩ := hok' b _ (un.frzs b ob _ z)
        rw [e] at e1
        cases e1
        exact e2
  rcases hk : K.lookup a with _ | o
  · refine core (fun b => if b = a then some (.frz { cls := .type "list", data := .seq vs.toArray } (.lst (ns.map V.int))) else none) (fun b => ?_) (.inl (.inr ⟨{ cls := .type "list", data := .seq vs.toArray }, if_pos rfl⟩)) (fun b u z => ?_) (fun b z => ?_) fun _ => hk
    · by_cases q : b = a
      · exact .inr ⟨_, _, if_pos q⟩
      · exact .inl (if_neg q)
    · by_cases q : b = a
      · cases (if_pos q).symm.trans z
        subst q
        exact ⟨ha, by rw [List.length_map]; exact hl, vs, _, rv, ha⟩
      · cases (if_neg q).symm.trans z
    · by_cases q : b = a
      · exact q
      · exact absurd (if_neg q) z
  · have e := KX a o hk
    rw [ha] at e
    cases e
    refine core (fun _ => none) (fun _ => .inl rfl) (.inr ⟨_, vs.toArray, _, hk, rfl, rfl, rfl, by rw [List.size_toArray, hi.length]; exact hl, by simpa using rv⟩) (fun b u (z : (none : Option HO) = some u) => nomatch z) (fun b z => absurd rfl z) fun z => absurd rfl z
theorem walkG {l : PySem.W.OpenLaw} {n k : Nat} {q : Program} {loose : List Str} {XP : (Str → Option Value) → Heap → Prop} {YP : World → Heap → Prop} {d : DefRec} {K : Params → PySem.W.Frag} {X0 : World → CXT} {sp : World → Sp} {x : Str}
    (hn : l.most = some n) (hn2 : n ≤ sizeLine) (hdf : d.params.defaults = []) (hr : Room k callerA) (hY : ∀ (w : World) (h : Heap), YP w h → (K w.params).In h)
    (F : ∀ (w : World) (mg : Str → Option Value) (fa : Addr) (h : Heap), (K w.params).In h → h.Ns mainGlobals mg → mg d.name = some (.ref fa) →
      ∃ fd : FuncData, (∀ (s : Shared) (u : Value), BindsTo s fd ⟨[u], []⟩ [(x, u)]) ∧ ∀ base : Heap, (K w.params).In base → base.Ns mainGlobals mg → FnG l.prog w (K w.params) mg base (X0 w) k fa fd [x] (sp w))
    (hsp : ∀ (w : World) (H : Hp) (a : Addr) (ns : List Int), ns.length ≤ n → Only H → SqL (K w.params) H a (ns.map V.int) → sp w [.ref a] H (fun v _ => v = .bl true) fun _ _ _ => False)
    (hX : ∀ (w : World) (H : Hp) (s : Shared) (e : Value) (s' : Shared), X0 w [] H s (fun _ _ _ => False) e s' → False) : PySem.W.WalkO q loose XP YP l.row.toRowW d [] (fun f vs => PySem.call f vs) :=
  Att.attach_call hn hdf fun w s₀ s₁ mg mb fa o pm cd doc a vs ns G Y ho hd hcd hmg hobj hints hlen hg => by
    have KX := hY w _ Y
    obtain ⟨fd, b, hF⟩ := F w mg fa _ KX G.T.g hmg
    exact lawG KX G.T.g G.T.b G.T.builtins G.T.nolimit hg hobj hints (Nat.le_trans hlen hn2) hr hF b (fun H hO hS => hsp w H a ns hlen hO hS) fun H e s' => hX w H s₁ e s'
end KB

/-! KB6: defs, calls, built-ins, methods over data. -/
namespace KB
open PySem PySem.Spec PyProof.Rows SeqAt
open L2 hiding op_eqD op_neD
/-! ### defs -/
/-- the store is held, and the tuples are as they should be -/
def Ok2 (P : Program) (w : World) (K : PySem.W.Frag) (H : Hp) (C : Cp) : Prop := (∀ p c, C p = some c → CellOk P w K H p c) ∧ ∀ p o, H p = some o → TFo o
/-- a def that raises nothing: its promise by data -/
def lSp (P : Program) (w : World) (K : PySem.W.Frag) (n : Nat) (F : DSp) : Sp := fun vs H Q _ => vs.length = n ∧ ∃ ds C Qd, Reps K H ds vs ∧ Ok2 P w K H C ∧ F ds C Qd (fun _ _ => False) ∧ ∀ v d H' C', Stp H C H' C' → Ok2 P w K H' C' → Rep K H' d v → Qd d C' → Q v H'
/-- a body as a def: n names, the parameters first; what is not wanted at its end is let go -/
def runD (np n : Nat) (rd : DS) : DSp := fun ds C Q _ => ds.length = np ∧ rd { nx := fun _ C' => ∃ C'', Sub C'' C' ∧ Q .non C'', rt := fun d C' => ∃ C'', Sub C'' C' ∧ Q d C'' } (ds.map some ++ List.replicate (n - ds.length) none) C
theorem reps_start {K : PySem.W.Frag} {H : Hp} : ∀ {ds : List D} {vs : List V}, Reps K H ds vs → RepS K H (ds.map some) (vs.map some)
  | [], _, h => by cases h; exact .nil
  | d :: ds, _, h => by
    obtain ⟨v, r, rfl, a, t⟩ := h
    exact .cons (fun e q => by cases q; exact ⟨v, rfl, a⟩) (reps_start t)
theorem paired_append {α β : Type} {F : α → β → Prop} : ∀ {a c : List α} {b d : List β}, Paired F a b → Paired F c d → Paired F (a ++ c) (b ++ d)
  | _, _, _, _, .nil, h => h
  | _, _, _, _, .cons r t, h => .cons r (paired_append t h)
theorem reps_none {K : PySem.W.Frag} {H : Hp} : ∀ n : Nat, RepS K H (List.replicate n none) (List.replicate n none)
  | 0 => .nil
  | n + 1 => .cons (fun e q => nomatch q) (reps_none n)
section
variable {P : Program} {w : World} {K : PySem.W.Frag} {mg : Str → Option Value} {base : Heap}
/-- the context of a def's body, as the rules want it -/
structure CtxOk (X : Cx) (P : Program) (w : World) (K : PySem.W.Frag) (mg : Str → Option Value) (base : Heap) (k : Nat) : Prop where
  hP : X.prog = P
  hw : X.w = w
  hK : X.K = K
  hm : X.mg = mg
  hb : X.base = base
  hr : Room k X.A
  hc : X.calm = true
theorem fnok_of {x qual : Str} {st : Stmt} {f : Addr} {fd : FuncData} {N ps : List Str} {k n : Nat} {rd : DS} (F : Fun K x qual st f fd) (S : FnScope N ps (defScope st)) (hn : ps.length = n)
    (hbody : ∀ (cdv : Value) (A : Around) (outer : List Env) (s : Shared) (H : Hp) (E : XK) (B : Bs), B.P = P → B.w = w → RoomG k (A.deeper (envOfC qual (defScope st) s.heap.objs.size f cdv)) →
      JSs (cxOf CX0 P w K mg base N qual (defScope st) f cdv A outer s H E).nox B (defBody st) rd) : FnG P w K mg base CX0 (k + 1) f fd ps (lSp P w K n (runD n N.length rd)) := by
  refine FnG.of F S (fun vs H Q E h => h.1.trans hn.symm) (fun cdv A outer s H vs Q E hg hr h => ?_)
  obtain ⟨hl, ds, C, Qd, r, ok, ⟨hl2, h⟩, k⟩ := h
  refine ⟨_, hbody cdv A outer s H E ⟨H, C, P, w⟩ rfl rfl ⟨hr, hg⟩, ds.map some ++ List.replicate (N.length - ds.length) none, C, _, ?_, ⟨Stp.refl _ _, ok.1, ok.2⟩, h, ⟨fun σ sl H' C' st rl rs q => ?_, fun v d H' C' st rl r q => ?_, fun _ _ _ _ _ _ _ q => q.elim, fun _ _ _ _ _ _ _ q => q.elim⟩⟩
  · unfold L2.start
    rw [r.length]
    exact paired_append (reps_start r) (reps_none _)
  · obtain ⟨C'', hs, q⟩ := q
    exact k _ _ H' C'' (st.less hs) ⟨fun p c e => rl.ok p c (hs p c e), rl.ti⟩ repN q
  · obtain ⟨C'', hs, q⟩ := q
    exact k _ _ H' C'' (st.less hs) ⟨fun p c e => rl.ok p c (hs p c e), rl.ti⟩ r q
end
section
variable {X : Cx} {B : Bs} {pos : Pos} {a b c tg e o : Expr} {ta tb tc to ty tv : DE} {rest es : List Expr} {tr : DA} {K : PySem.W.Frag}
/-- f(..), dd the defaults -/
def dCall (F : DSp) (dd : List D) (t : DA) : DE := fun s C Q => t s C fun ds C1 => F (ds ++ dd) C1 Q fun _ _ => False
theorem call_lift {n : Nat} {F : DSp} {dd : List D} {dvs : List V} {σ : L2.St} {H : Hp} {Q : VK} (hd : ∀ H, Reps K H dd dvs) (hl : ∀ ds C Q E, F ds C Q E → ds.length = n) (h : lE K B (dCall F dd tr) σ H Q) : tCall (lSp B.P B.w K n F) dvs E0 (lA K B tr) σ H Q := by
  obtain ⟨sl, C, Qd, rs, rl, h, k⟩ := h
  refine ⟨sl, C, _, rs, rl, h, fun vs ds H1 C1 st1 rl1 r q => ?_⟩
  have r2 := r.append (hd H1)
  exact ⟨by rw [← r2.length]; exact hl _ _ _ _ q, ds ++ dd, C1, Qd, r2, ⟨rl1.ok, rl1.ti⟩, q, fun v d H' C' st ok r q => k v d H' C' (st1.trans st) ⟨rl1.st.trans st, ok.1, ok.2⟩ r q⟩
theorem j_call {k n : Nat} {f : Addr} {fd : FuncData} {ps : List Str} {F : DSp} {ds : List Value} {x : Str} {p : Pos} (dd : List D) {dvs : List V} (G : FnG X.prog X.w X.K X.mg X.base CX0 k f fd ps (lSp B.P B.w X.K n F)) (hr : RoomG k X.A) (hm : X.mg x = some (.ref f)) (hk : PySem.W.keepIn X.K (.ref f) = true) (hb : Binds X.K fd ps ds)
    (hl : ∀ ds C Q E, F ds C Q E → ds.length = n) (hd : Vals dvs ds) (hdd : ∀ H, Reps X.K H dd dvs) (ha : JA X B (e :: es) tr) (hg : Gl X x := by rfl) (hdb : (x == ("__debug__" : Str)) = false := by decide)
    (he : starEach (e :: es) X.env = (false, eval e X.env) :: starEach es X.env := by rfl) (hpl : (backTo pos (starEach es X.env)).any (·.1) = false := by rfl) : JE X B (.Call (.Name x p) (e :: es) [] pos) (dCall F dd tr) :=
  PE.imp (callG G hr.gd hr.toRoom hg hm hk hb hd pass0 ha hdb he hpl) fun _ _ _ h => call_lift hdd hl h
/-! ### built-ins by name -/
def dCB (r : List D → Cp → DQ → Prop) (t : DA) : DE := fun s C Q => t s C fun ds C1 => r ds C1 Q
theorem cb_lift {r : List D → Cp → DQ → Prop} {σ : L2.St} {H : Hp} {Q : VK} (h : lE K B (dCB r tr) σ H Q) : tCB (lC K B r) (lA K B tr) σ H Q := by
  obtain ⟨sl, C, Qd, rs, rl, h, k⟩ := h
  exact ⟨sl, C, _, rs, rl, h, fun vs ds H1 C1 st1 rl1 r q => ⟨ds, C1, Qd, r, rl1, q, fun v d H' C' st => k v d H' C' (st1.trans st)⟩⟩
theorem j_callB {x : Str} {p : Pos} {id : String} {r : List D → Cp → DQ → Prop} (hc : CallD X B (.builtin id) r) (hm : X.mg x = none) (hv : bootBuiltins x = some (.builtin id)) (ha : JA X B (e :: es) tr) (hg : Gl X x := by rfl) (hn : x ≠ "__name__" := by decide) (hdb : (x == ("__debug__" : Str)) = false := by decide)
    (he : starEach (e :: es) X.env = (false, eval e X.env) :: starEach es X.env := by rfl) (hpl : (backTo pos (starEach es X.env)).any (·.1) = false := by rfl) : JE X B (.Call (.Name x p) (e :: es) [] pos) (dCB r tr) := PE.imp (pe_callB hc hg hm hv ha hn hdb he hpl) fun _ _ _ h => cb_lift h
theorem j_callTy {x : Str} {p : Pos} {T : String} {r : List D → Cp → DQ → Prop} (hc : CallD X B (.type T) r) (hm : X.mg x = none) (hv : bootBuiltins x = some (.type T)) (ha : JA X B (e :: es) tr) (hg : Gl X x := by rfl) (hn : x ≠ "__name__" := by decide) (hdb : (x == ("__debug__" : Str)) = false := by decide)
    (he : starEach (e :: es) X.env = (false, eval e X.env) :: starEach es X.env := by rfl) (hpl : (backTo pos (starEach es X.env)).any (·.1) = false := by rfl) : JE X B (.Call (.Name x p) (e :: es) [] pos) (dCB r tr) := PE.imp (pe_callTy hc hg hm hv ha hn hdb he hpl) fun _ _ _ h => cb_lift h
def lenD (C : Cp) : D → Nat → Prop
  | .tup ds, n => n = ds.length
  | .str l, n => l.length ≤ sizeLine ∧ n = l.length
  | .ptr p, n => ∃ ds, isL C p ds ∧ n = ds.length
  | _, _ => False
def lenR : List D → Cp → DQ → Prop := fun ds C Q => ∃ d n, ds = [d] ∧ lenD C d n ∧ Q (.int (n : Int)) C
theorem call_lenD0 : CallD X B (.builtin "len") lenR := by
  intro pins s σ H xs us Q I rx h
  obtain ⟨ds, C, Qd, r, rl, ⟨d, n, e, hl, h⟩, k⟩ := h
  subst e
  obtain ⟨v, r2, rfl, hv, hn⟩ := r
  cases hn
  cases d with
  | tup ds =>
    obtain ⟨p, vs, rfl, hq, hr⟩ := hv
    have hl : n = ds.length := hl
    subst hl
    exact call_len_seq pins s σ H _ us Q I rx ⟨p, vs, rfl, .inr hq, k _ (.int _) H C (Stp.refl _ _) rl (by rw [hr.length]; exact repI _) h⟩
  | str l =>
    cases hv
    obtain ⟨hz, hl⟩ := hl
    subst hl
    exact call_len_str pins s σ H _ us Q I rx ⟨_, rfl, by simpa [Str.length] using hz, k _ (.int _) H C (Stp.refl _ _) rl (by show V.int _ = V.int _; simp [Str.length]) h⟩
  | ptr p =>
    cases hv
    obtain ⟨ds, hl, e⟩ := hl
    subst e
    obtain ⟨vs, hq, hr⟩ := hl.sq rl
    exact call_len_seq pins s σ H _ us Q I rx ⟨p, vs, rfl, .inl hq, k _ (.int _) H C (Stp.refl _ _) rl (by rw [hr.length]; exact repI _) h⟩
  | _ => exact False.elim hl
def lenKR : List D → Cp → DQ → Prop := fun ds C Q => ∃ p kvs, ds = [.ptr p] ∧ C p = some (.dk kvs) ∧ Q (.int (kvs.length : Int)) C
def absR : List D → Cp → DQ → Prop := fun ds C Q => ∃ i, ds = [.int i] ∧ Q (.int (if i < 0 then -i else i)) C
theorem call_absD : CallD X B (.builtin "abs") absR := by
  intro pins s σ H xs us Q I rx h
  obtain ⟨ds, C, Qd, r, rl, ⟨i, e, h⟩, k⟩ := h
  subst e
  obtain ⟨v, r2, rfl, hv, hn⟩ := r
  cases hn; cases hv
  exact call_abs pins s σ H _ us Q I rx ⟨i, rfl, k _ (.int _) H C (Stp.refl _ _) rl rfl h⟩
def max2R : List D → Cp → DQ → Prop := fun ds C Q => ∃ i j, ds = [.int i, .int j] ∧ Q (.int (if j > i then j else i)) C
def min2R : List D → Cp → DQ → Prop := fun ds C Q => ∃ i j, ds = [.int i, .int j] ∧ Q (.int (if j < i then j else i)) C
theorem call_max2D (hc : X.calm = true) : CallD X B (.builtin "max") max2R := by
  intro pins s σ H xs us Q I rx h
  obtain ⟨ds, C, Qd, r, rl, ⟨i, j, e, h⟩, k⟩ := h
  subst e
  obtain ⟨v, r2, rfl, hv, w, r3, rfl, hw, hn⟩ := r
  cases hn; cases hv; cases hw
  exact call_max2 hc pins s σ H _ us Q I rx ⟨i, j, rfl, k _ (.int _) H C (Stp.refl _ _) rl rfl h⟩
theorem call_min2D (hc : X.calm = true) : CallD X B (.builtin "min") min2R := by
  intro pins s σ H xs us Q I rx h
  obtain ⟨ds, C, Qd, r, rl, ⟨i, j, e, h⟩, k⟩ := h
  subst e
  obtain ⟨v, r2, rfl, hv, w, r3, rfl, hw, hn⟩ := r
  cases hn; cases hv; cases hw
  exact call_min2 hc pins s σ H _ us Q I rx ⟨i, j, rfl, k _ (.int _) H C (Stp.refl _ _) rl rfl h⟩
def intR : List D → Cp → DQ → Prop := fun ds C Q => (∃ i, ds = [.int i] ∧ Q (.int i) C) ∨ ∃ b, ds = [.bl b] ∧ Q (.int (if b = true then 1 else 0)) C
theorem call_intD : CallD X B (.type "int") intR := by
  intro pins s σ H xs us Q I rx h
  obtain ⟨ds, C, Qd, r, rl, h, k⟩ := h
  rcases h with ⟨i, e, h⟩ | ⟨i, e, h⟩
  · subst e
    obtain ⟨v, r2, rfl, hv, hn⟩ := r
    cases hn; cases hv
    exact call_int1 pins s σ H _ us Q I rx (.inl ⟨i, rfl, k _ (.int _) H C (Stp.refl _ _) rl rfl h⟩)
  · subst e
    obtain ⟨v, r2, rfl, hv, hn⟩ := r
    cases hn; cases hv
    exact call_int1 pins s σ H _ us Q I rx (.inr ⟨i, rfl, k _ (.int _) H C (Stp.refl _ _) rl rfl h⟩)
/-- any, all of a list of truths -/
def anyR : List D → Cp → DQ → Prop := fun ds C Q => ∃ (p : Addr) (bs : List Bool), ds = [.ptr p] ∧ isL C p (bs.map D.bl) ∧ Q (.bl (bs.any id)) C
def allR : List D → Cp → DQ → Prop := fun ds C Q => ∃ (p : Addr) (bs : List Bool), ds = [.ptr p] ∧ isL C p (bs.map D.bl) ∧ Q (.bl (bs.all id)) C
theorem call_anyD (hc : X.calm = true) : CallD X B (.builtin "any") anyR := by
  intro pins s σ H xs us Q I rx h
  obtain ⟨ds, C, Qd, r, rl, ⟨p, bs, e, hl, h⟩, k⟩ := h
  subst e
  obtain ⟨v, r2, rfl, hv, hn⟩ := r
  cases hn; cases hv
  obtain ⟨vs, hq, hr⟩ := hl.sq rl
  rw [hr.bools] at hq
  exact cr_any hc pins s σ H _ us Q I rx ⟨p, bs, rfl, hq, k _ (.bl _) H C (Stp.refl _ _) rl rfl h⟩
theorem call_allD (hc : X.calm = true) : CallD X B (.builtin "all") allR := by
  intro pins s σ H xs us Q I rx h
  obtain ⟨ds, C, Qd, r, rl, ⟨p, bs, e, hl, h⟩, k⟩ := h
  subst e
  obtain ⟨v, r2, rfl, hv, hn⟩ := r
  cases hn; cases hv
  obtain ⟨vs, hq, hr⟩ := hl.sq rl
  rw [hr.bools] at hq
  exact cr_all hc pins s σ H _ us Q I rx ⟨p, bs, rfl, hq, k _ (.bl _) H C (Stp.refl _ _) rl rfl h⟩
/-- list(..), tuple(..) of a list or a tuple -/
def itemsD (C : Cp) : D → List D → Prop
  | .tup ds, xs => xs = ds
  | .ptr p, xs => isL C p xs
  | _, _ => False
def listR : List D → Cp → DQ → Prop := fun ds C Q => ∃ d xs, ds = [d] ∧ itemsD C d xs ∧ ∀ p, C p = none → Q (.ptr p) (up C p (.lst xs))
def tupleR : List D → Cp → DQ → Prop := fun ds C Q => ∃ d xs, ds = [d] ∧ itemsD C d xs ∧ Q (.tup xs) C
theorem call_listD : CallD X B (.type "list") listR := by
  intro pins s σ H xs us Q I rx h
  obtain ⟨ds, C, Qd, r, rl, ⟨d, ys, e, hl, h⟩, k⟩ := h
  subst e
  obtain ⟨v, r2, rfl, hv, hn⟩ := r
  cases hn
  cases d with
  | tup ds =>
    obtain ⟨p, vs, rfl, hq, hr⟩ := hv
    have hl : ys = ds := hl
    subst hl
    refine call_list_of pins s σ H _ us Q I rx ⟨p, vs, rfl, .inr hq, fun l hn => ?_⟩
    obtain ⟨a1, a2⟩ := rl.newL hn hr
    exact k _ _ _ _ a1 a2 (repP l) (h l (rl.fresh hn))
  | ptr p =>
    cases hv
    obtain ⟨vs, hq, hr⟩ := isL.sq rl hl
    refine call_list_of pins s σ H _ us Q I rx ⟨p, vs, rfl, .inl hq, fun l hn => ?_⟩
    obtain ⟨a1, a2⟩ := rl.newL hn hr
    exact k _ _ _ _ a1 a2 (repP l) (h l (rl.fresh hn))
  | _ => exact False.elim hl
theorem call_tupleD : CallD X B (.type "tuple") tupleR := by
  intro pins s σ H xs us Q I rx h
  obtain ⟨ds, C, Qd, r, rl, ⟨d, ys, e, hl, h⟩, k⟩ := h
  subst e
  obtain ⟨v, r2, rfl, hv, hn⟩ := r
  cases hn
  cases d with
  | tup ds =>
    obtain ⟨p, vs, rfl, hq, hr⟩ := hv
    have hl : ys = ds := hl
    subst hl
    exact call_tuple_ofF pins s σ H _ us Q I rx ⟨p, vs, rfl, .inr ⟨hq, k _ (.tup ys) H C (Stp.refl _ _) rl ⟨p, vs, rfl, hq, hr⟩ h⟩⟩
  | ptr p =>
    cases hv
    obtain ⟨vs, hq, hr⟩ := isL.sq rl hl
    refine call_tuple_ofF pins s σ H _ us Q I rx ⟨p, vs, rfl, .inl ⟨hq, fun l ob hn hob => ?_⟩⟩
    obtain ⟨a1, a2, a3⟩ := rl.newF hn hob hr
    exact k _ _ _ _ a1 a2 a3 h
  | _ => exact False.elim hl
/-! ### methods of built-in types -/
def tyD (C : Cp) (T : String) : D → Prop
  | .str _ => T = "str"
  | .ptr p => (T = "list" ∧ ∃ ds, isL C p ds) ∨ (T = "dict" ∧ ((∃ kvs, C p = some (.dk kvs)) ∨ ∃ kvs, C p = some (.dt kvs)))
  | _ => False
theorem tyD_ok {H : Hp} {C : Cp} {T : String} {d : D} {x : V} (rl : Rl K B H C) (r : Rep K H d x) (h : tyD C T d) : tyV K T x H := by
  cases d with
  | str l => cases r; exact h
  | ptr p =>
    cases r
    rcases h with ⟨e, ds, hl⟩ | ⟨e, ⟨kvs, hl⟩ | ⟨kvs, hl⟩⟩
    · obtain ⟨vs, hq, _⟩ := hl.sq rl
      exact .inl ⟨e, vs, hq⟩
    · obtain ⟨ws, e1, _⟩ := rl.ok _ _ hl
      exact .inr (.inr (.inl ⟨e, .inl ⟨ws, e1⟩⟩))
    · obtain ⟨ws, e1, _⟩ := rl.ok _ _ hl
      exact .inr (.inr (.inl ⟨e, .inr ⟨ws, e1⟩⟩))
  | _ => exact False.elim h
def dBM (T : String) (r : D → List D → Cp → DQ → Prop) (to : DE) (t : DA) : DE := fun s C Q => to s C fun d C1 => tyD C1 T d ∧ t s C1 fun ds C2 => r d ds C2 Q
def dBM0 (T : String) (r : D → List D → Cp → DQ → Prop) (to : DE) : DE := fun s C Q => to s C fun d C1 => tyD C1 T d ∧ r d [] C1 Q
theorem j_bm {T : String} {name : Str} {id : String} {apos : Pos} {r : D → List D → Cp → DQ → Prop} (pa : PlainAttrs T) (slot : Slot T name id) (hty : typeOf (.builtin id) = pure (.type "method_descriptor")) (hm : MtD X B id r) (ho : JE X B o to) (ha : JA X B (e :: es) tr)
    (hbase : attributeBase o name X.env (eval o X.env) = eval o X.env := by rfl)
    (hfew : ((backTo pos (starEach (e :: es) X.env)).all (fun x => !x.1) && (backToKw pos (keywordEach [] X.env)).all (fun x => x.1.isSome)
      && decide ((e :: es).length + ([] : List Keyword).length + (if ([] : List Keyword).isEmpty then 0 else 1) < 30)) = true := by rfl)
    (hline : (apos.endLine == pos.line) = true := by rfl) (hs : starEach (e :: es) X.env = (false, eval e X.env) :: starEach es X.env := by rfl) (hplain : (backTo pos (starEach es X.env)).any (·.1) = false := by rfl) :
    JE X B (.Call (.Attribute o name apos) (e :: es) [] pos) (dBM T r to tr) := PE.imp (pe_bm pa slot hty hm ho ha hbase hfew hline hs hplain) fun σ H Q h => by
  obtain ⟨sl, C, Qd, rs, rl, h, k⟩ := h
  exact ⟨sl, C, _, rs, rl, h, fun v d H1 C1 st1 rl1 r1 ⟨ty, q⟩ => ⟨tyD_ok rl1 r1 ty, sl, C1, _, rs.mono st1.tx, rl1, q, fun vs ds H2 C2 st2 rl2 r2 q => ⟨d, ds, C2, Qd, r1.mono st2.tx, r2, rl2, q, fun v e H' C' st => k v e H' C' ((st1.trans st2).trans st)⟩⟩⟩
theorem j_bm0 {T : String} {name : Str} {id : String} {apos : Pos} {r : D → List D → Cp → DQ → Prop} (pa : PlainAttrs T) (slot : Slot T name id) (hty : typeOf (.builtin id) = pure (.type "method_descriptor")) (hm : MtD X B id r) (ho : JE X B o to)
    (hbase : attributeBase o name X.env (eval o X.env) = eval o X.env := by rfl) (hline : (apos.endLine == pos.line) = true := by rfl) : JE X B (.Call (.Attribute o name apos) [] [] pos) (dBM0 T r to) := PE.imp (pe_bm0 pa slot hty hm ho hbase hline) fun σ H Q h => by
  obtain ⟨sl, C, Qd, rs, rl, h, k⟩ := h
  exact ⟨sl, C, _, rs, rl, h, fun v d H1 C1 st1 rl1 r1 ⟨ty, q⟩ => ⟨tyD_ok rl1 r1 ty, d, [], C1, Qd, r1, .nil, rl1, q, fun v e H' C' st => k v e H' C' (st1.trans st)⟩⟩
theorem Rl.setL {H : Hp} {C : Cp} (rl : Rl K B H C) {p : Addr} {ds es : List D} {vs ws : List V} (hc : C p = some (.lst ds)) (hp : H p = some (.lst vs)) (r : Reps K H es ws) : Stp H C (upd H p (.lst ws)) (up C p (.lst es)) ∧ Rl K B (upd H p (.lst ws)) (up C p (.lst es)) := by
  have nf : ¬ Frz (H p) := by rw [hp]; exact id
  have hn : C p ≠ none := by rw [hc]; exact fun z => nomatch z
  exact ⟨stp_put nf (.inl hn), rl.put nf (.inl hn) ⟨ws, upd_same, r.mono (tx_upd nf)⟩⟩
def appendR : D → List D → Cp → DQ → Prop := fun d ds C Q => ∃ p xs y, d = .ptr p ∧ ds = [y] ∧ C p = some (.lst xs) ∧ xs.length < sizeLine ∧ Q .non (up C p (.lst (xs ++ [y])))
theorem mt_appendD : MtD X B "list.append" appendR := by
  intro pins s σ H x xs v us Q I rx rs h
  obtain ⟨d, ds, C, Qd, r1, r2, rl, ⟨p, ys, y, e1, e2, hc, hz, h⟩, k⟩ := h
  subst e1 e2
  cases r1
  obtain ⟨w, r3, rfl, hw, hn⟩ := r2
  cases hn
  obtain ⟨vs, hp, hr⟩ := rl.cells hc
  obtain ⟨a1, a2⟩ := rl.setL hc hp (hr.append (.cons hw .nil))
  exact mt_append pins s σ H _ _ v us Q I rx rs ⟨p, vs, w, rfl, rfl, hp, by rw [← hr.length]; exact hz, k _ _ _ _ a1 a2 repN h⟩
def extendR : D → List D → Cp → DQ → Prop := fun d ds C Q => ∃ p q xs ys, d = .ptr p ∧ ds = [.ptr q] ∧ C p = some (.lst xs) ∧ C q = some (.lst ys) ∧ xs.length + ys.length ≤ sizeLine ∧ Q .non (up C p (.lst (xs ++ ys)))
theorem mt_extendD : MtD X B "list.extend" extendR := by
  intro pins s σ H x xs v us Q I rx rs h
  obtain ⟨d, ds, C, Qd, r1, r2, rl, ⟨p, q, ys, zs, e1, e2, hc, hc2, hz, h⟩, k⟩ := h
  subst e1 e2
  cases r1
  obtain ⟨w, r3, rfl, hw, hn⟩ := r2
  cases hn; cases hw
  obtain ⟨vs, hp, hr⟩ := rl.cells hc
  obtain ⟨ws, hp2, hr2⟩ := rl.cells hc2
  obtain ⟨a1, a2⟩ := rl.setL hc hp (hr.append hr2)
  exact mt_extend pins s σ H _ _ v us Q I rx rs ⟨p, q, vs, ws, rfl, rfl, hp, hp2, by rw [← hr.length, ← hr2.length]; exact hz, k _ _ _ _ a1 a2 repN h⟩
theorem reps_eraseIdx {H : Hp} : ∀ {ds : List D} {vs : List V} (i : Nat), Reps K H ds vs → Reps K H (ds.eraseIdx i) (vs.eraseIdx i)
  | [], _, _, h => by cases h; exact .nil
  | _ :: _, _, 0, h => by
    obtain ⟨w, r, rfl, a, t⟩ := h
    exact t
  | _ :: _, _, i + 1, h => by
    obtain ⟨w, r, rfl, a, t⟩ := h
    exact ⟨w, _, rfl, a, reps_eraseIdx i t⟩
def popAtR : D → List D → Cp → DQ → Prop := fun d ds C Q => ∃ p xs i k y, d = .ptr p ∧ ds = [.int i] ∧ C p = some (.lst xs) ∧ -(2 ^ 63) ≤ i ∧ i < 2 ^ 63 ∧ seqIndex? i xs.length = some k ∧ xs[k]? = some y ∧ Q y (up C p (.lst (xs.eraseIdx k)))
end
end KB

/-! KC: sorting tuples some of which may be empty. -/
namespace KB
open PySem PySem.W PySem.Calls PyProof.Rows SeqAt
section
variable {prog : Program} {w : World} {A : Around} {E : Value → Shared → Prop} {s : Shared}
/-- tuple's own __lt__, called as sorting does -/
theorem call_tup_lt {Q : Value → Shared → Prop} {a b : Addr} {xs ys : Array Value} {e r : Nat → Bool} (ha : s.heap.IsTuple a xs) (hb : s.heap.IsTuple b ys)
    (he : ∀ j (h1 : j < xs.size) (h2 : j < ys.size), EqAt A.in1 s xs[j] ys[j] (e j)) (hr : ∀ j (h1 : j < xs.size) (h2 : j < ys.size), e j = false → RcLt A.in1 s xs[j] ys[j] (r j))
    (h : Q (.bool (firstLt e r (decide (xs.size < ys.size)) (List.range (min xs.size ys.size)))) s) : wpAny (model prog w) A (call (.builtin "tuple.__lt__") [.ref a, .ref b]) Q E s := by
  obtain ⟨⟨_, d1, _, s1⟩, o1, c1, n1, e1⟩ := id ha
  obtain ⟨⟨_, d2, _, s2⟩, o2, c2, n2, e2⟩ := id hb
  simp only at c1 e1 c2 e2
  subst c1 e1 c2 e2
  exact call_meets F.slot_tuple_lt ⟨_, o1, rfl⟩ F.entry_tuple_lt (F.args_tuple_lt_2 _ _) (SeqAt.tuple_ltAt a b xs ys n1 n2 d1 d2 s1 s2 e r) ⟨o1, o2, he, hr, h⟩
/-- two tuples, by their own __lt__ -/
theorem one_tup {xs ys : List PyData} {a b : Value} {as bs : List Addr} {Q : Bool → Shared → Prop} (ra : Reads s.heap a (.tuple xs) as) (rb : Reads s.heap b (.tuple ys) bs) (h : alike (.tuple xs) (.tuple ys) = true)
    (hu : A.units + min (PyData.tuple xs).depth (PyData.tuple ys).depth < cLine) (hq : Q (dataLt (.tuple xs) (.tuple ys)) s) : wpAny (model prog w) A (oneLt' true a b) Q E s := by
  have hal : alikeAll xs ys = true := by simpa [alike] using h
  cases ra with
  | @tuple l o vs n _ as₁ h1 h2 h3 h4 =>
    cases rb with
    | @tuple l' o' vs' n' _ bs₁ k1 k2 k3 k4 =>
      have n1 : vs.size = xs.length := by simpa using ReadsAll.length _ _ _ h4
      have n2 : vs'.size = ys.length := by simpa using ReadsAll.length _ _ _ k4
      rw [dataLt_tuple, ← firstLt_toks xs ys hal, ← n1, ← n2] at hq
      rw [oneLt'_eq]
      simp only [if_true]
      refine wpAny_bind (wpAny_cRoomFor (room_here hu) ?_)
      have pe := fun j (j1 : j < vs.size) (j2 : j < vs'.size) => eqAt_alikeAll xs ys A.in1 s vs.toList vs'.toList _ _ h4 k4 hal (room_in hu) j (by simpa using j1) (by simpa using j2)
      have pl := fun j (j1 : j < vs.size) (j2 : j < vs'.size) => rcLt_alikeAll xs ys A.in1 s vs.toList vs'.toList _ _ h4 k4 hal (room_in hu) j (by simpa using j1) (by simpa using j2)
      refine wpAny_bind (wpAny_callSpecialIfBound?_slot (T := "tuple") ⟨_, h1, h2⟩ F.slot_tuple_lt (call_tup_lt (e := pairEq xs ys) (r := fun j => dataLt (xs.getD j .none) (ys.getD j .none)) ⟨_, h1, h2, _, h3⟩ ⟨_, k1, k2, _, k3⟩
        (fun j j1 j2 => by simpa using pe j j1 j2) (fun j j1 j2 hj => by simpa using pl j j1 j2 hj) ?_))
      exact wpAny_truthy_bool hq
end
section
variable {M : Model} {A : Around} {E : Value → Shared → Prop} {s : Shared}
/-- has it an item? -/
def full : PyData → Bool
  | .tuple (_ :: _) => true
  | _ => false
theorem first_tups : ∀ {vs : List Value} {ds : List PyData}, EachIs (fun v d => ∃ as, Reads s.heap v d as) vs ds → (∀ d ∈ ds, ∃ xs, d = .tuple xs) → ∃ os : List (Option Value), os.map Option.isSome = ds.map full ∧ ∀ {Q : List (Option Value) → Shared → Prop}, Q os s → wpAny M A (vs.mapM firstOfTuple') Q E s
  | _, _, .nil, _ => ⟨[], rfl, fun h => by rw [List.mapM_nil]; exact wpAny_pure h⟩
  | v :: vs, _, .cons (b := d) ⟨as, r⟩ t, ht => by
    obtain ⟨os, h1, h2⟩ := first_tups t fun d hd => ht d (List.mem_cons_of_mem _ hd)
    obtain ⟨xs, rfl⟩ := ht d List.mem_cons_self
    cases r with
    | @tuple a o zs n _ _ ho hc hd hr =>
      refine ⟨zs[0]? :: os, ?_, fun {Q} hq => ?_⟩
      · rw [List.map_cons, List.map_cons, h1]
        congr 1
        rw [← Array.getElem?_toList]
        cases q : zs.toList with
        | nil => rw [q] at hr; cases hr; rfl
        | cons f fr => rw [q] at hr; cases hr; rfl
      · rw [List.mapM_cons]
        refine wpAny_bind ?_
        rw [kas_first_eq]
        refine wpAny_bind (Looks.here (show Looks M s.heap (typeOf (.ref a)) o.cls from (Looks.ld ho).andThen .now) ?_)
        rw [hc, if_neg (by first | decide | simp)]
        refine wpAny_bind (listItems_at ho hd (wpAny_pure ?_))
        exact wpAny_bind (h2 (wpAny_pure hq))
theorem kind_mixed {vs : List Value} {ds : List PyData} {Q : SortKind → Shared → Prop} (e : EachIs (fun v d => ∃ as, Reads s.heap v d as) vs ds) (ht : ∀ d ∈ ds, ∃ xs, d = .tuple xs) (h2 : 2 ≤ vs.length) (hm : ds.all full = false)
    (h : Q (if (ds.map full)[0]? = some true then general' else oneType') s) : wpAny M A (keyKind' vs.toArray) Q E s := by
  obtain ⟨os, h1, hf⟩ := first_tups (M := M) (A := A) (E := E) e ht
  rw [keyKind'_eq, List.mapM_toArray, map_eq_pure_bind]
  refine wpAny_bind (wpAny_bind (hf (wpAny_pure ?_)))
  have n1 : (os.toArray.all fun x => x.isSome) = false := by
    rw [List.all_toArray]
    have : os.all Option.isSome = (os.map Option.isSome).all id := by rw [List.all_map]; rfl
    rw [show (os.all fun x => x.isSome) = os.all Option.isSome from rfl, this, h1, List.all_map]
    exact hm
  rw [if_neg (by rw [n1]; exact Bool.false_ne_true)]
  have n2 : (os.toArray[0]?.bind id).isSome = decide ((ds.map full)[0]? = some true) := by
    rw [← h1]
    cases os with
    | nil => rfl
    | cons o os => cases o <;> rfl
  rw [n2]
  by_cases hq : (ds.map full)[0]? = some true
  · rw [if_pos (by simpa using hq)]
    rw [if_pos hq] at h
    exact wpAny_pure h
  · rw [if_neg (by simpa using hq)]
    rw [if_neg hq] at h
    obtain ⟨v₁, rest, rfl⟩ : ∃ v₁ rest, vs = v₁ :: rest := by
      cases vs with
      | nil => simp at h2
      | cons v r => exact ⟨v, r, rfl⟩
    rw [oneTypeOnly'_eq, List.mapM_toArray, map_eq_pure_bind]
    refine wpAny_bind (wpAny_bind (wpAny_bind (kas_mapM (r := Value.type "tuple") _ (fun v hv Q' hq => ?_) (wpAny_pure ?_))))
    · obtain ⟨d, hd, as, r⟩ := e.left v hv
      obtain ⟨xs, rfl⟩ := ht d hd
      exact (looks_reads r).here hq
    · have a1 : ((List.map (fun _ => Value.type "tuple") (v₁ :: rest)).toArray.all fun x => x == Value.type "tuple") = true := by
        simp only [List.all_toArray, List.all_map, List.all_eq_true]
        intro _ _
        exact beq_self_eq_true _
      have a0 : (List.map (fun _ => Value.type "tuple") (v₁ :: rest)).toArray[0]? = some (Value.type "tuple") := by simp
      rw [a0]
      simp only [a1, if_true]
      exact wpAny_pure (wpAny_pure h)
end
/-- all are tuples, or none is a tuple or None -/
def SoE (ds : List PyData) : Prop := (∀ d ∈ ds, ∃ xs, d = .tuple xs) ∨ ∀ d ∈ ds, d ≠ .none ∧ ∀ xs, d ≠ .tuple xs
theorem sortsE {prog : Program} {w : World} {A : Around} {s : Shared} {vs : List Value} {ds : List PyData} (e : EachIs (fun v d => ∃ as, Reads s.heap v d as) vs ds) (hal : AllAlike ds) (hk : SoE ds) (hu : ∀ d, d ∈ ds → A.units + d.depth < cLine) : SortsAt prog w A s (dataKind s.heap ds) vs := by
  rcases hk with ht | hn
  · cases hm : ds.all full with
    | true =>
      refine SortsAt.data e hal (.inl fun d hd => ?_) hu
      obtain ⟨xs, rfl⟩ := ht d hd
      have := List.all_eq_true.mp hm _ hd
      cases xs with
      | nil => cases this
      | cons x r => exact ⟨x, r, rfl⟩
    | false =>
      refine ⟨fun v hv => ?_, if (ds.map full)[0]? = some true then general' else oneType', ?_, fun h2 E Q hq => kind_mixed e ht h2 hm hq⟩
      · obtain ⟨d, hd, as, r⟩ := e.left v hv
        exact ⟨_, dataKind_some hal hd r⟩
      · intro E x y a b Q ha hb hq
        obtain ⟨d, as, hd, ra, rfl⟩ := dataKind_inv ha
        obtain ⟨d', as', hd', rb, rfl⟩ := dataKind_inv hb
        have hdd := hal d hd d' hd'
        have room : A.units + min d.depth d'.depth < cLine := Nat.lt_of_le_of_lt (Nat.add_le_add_left (Nat.min_le_left _ _) _) (hu d hd)
        obtain ⟨xs, rfl⟩ := ht d hd
        obtain ⟨ys, rfl⟩ := ht d' hd'
        by_cases h0 : (ds.map full)[0]? = some true
        · rw [if_pos h0]
          show wpAny _ _ (oneLt' false x y) _ _ _
          exact oneLt_alike (fun z => by cases z) ra rb hdd (fun z => by cases z) room hq
        · rw [if_neg h0, keyLt'_oneType]
          exact one_tup ra rb hdd room hq
  · exact SortsAt.data e hal (.inr hn) hu
/-! ### tuples that can be compared up to where they differ -/
def cmpT : List PyData → List PyData → Bool
  | x :: xs, y :: ys => alike x y && (!PyData.eqv x y || cmpT xs ys)
  | _, _ => true
theorem cmpT_cons {x y : PyData} {xs ys : List PyData} (h : cmpT (x :: xs) (y :: ys) = true) : alike x y = true ∧ (PyData.eqv x y = true → cmpT xs ys = true) := by
  unfold cmpT at h
  rw [Bool.and_eq_true] at h
  refine ⟨h.1, fun e => ?_⟩
  have := h.2
  rw [e] at this
  simpa using this
structure Cmp (ds : List PyData) : Prop where
  full : ∀ d ∈ ds, ∃ x r, d = .tuple (x :: r)
  cmp : ∀ xs ys, .tuple xs ∈ ds → .tuple ys ∈ ds → cmpT xs ys = true
theorem eqv_of_unique {h : Heap} {x : PyData} (a : alike x x = true) (t : (PyData.eqv x x = true → keyToks x = keyToks x) ∧ (PyData.eqv x x = false → ∀ l m, PyProof.Rows.lexLt itemOrd (keyToks x ++ l) (keyToks x ++ m) = PyProof.Rows.lexLt itemOrd (keyToks x) (keyToks x))) : PyData.eqv x x = true := by
  cases e : PyData.eqv x x with
  | true => rfl
  | false =>
    have h1 := t.2 e [] [.inl 0]
    rw [lex_pre, lex_irrefl] at h1
    have h2 : PyProof.Rows.lexLt itemOrd [] [Sum.inl 0] = true := rfl
    rw [h2] at h1
    cases h1
theorem cmp_unique {h : Heap} : ∀ (xs ys : List PyData) (vs : List Value) (as bs : List Addr), cmpT xs ys = true → ReadsAll h vs xs as → ReadsAll h vs ys bs → xs = ys
  | [], _, _, _, _, _, r, r' => by cases r; cases r'; rfl
  | x :: xs, ys, _, _, _, c, r, r' => by
    cases r with
    | cons r1 r2 =>
      cases r' with
      | @cons _ _ y ys _ _ q1 q2 =>
        obtain ⟨c1, c2⟩ := cmpT_cons c
        have e := alike_unique x y _ _ _ c1 r1 q1
        subst e
        rw [cmp_unique xs ys _ _ _ (c2 (eqv_of_unique (h := h) c1 (toks_eqv x x c1))) r2 q2]
theorem keyC {h : Heap} {ds : List PyData} (hc : Cmp ds) {v : Value} {d : PyData} {as : List Addr} (hd : d ∈ ds) (r : Reads h v d as) : (dataKind h ds).keyOf v = some (keyToks d) := by
  have q : ∃ d, d ∈ ds ∧ ∃ as, Reads h v d as := ⟨d, hd, as, r⟩
  have e : (dataKind h ds).keyOf v = some (keyToks q.choose) := by
    show (open Classical in if q : ∃ d, d ∈ ds ∧ ∃ as, Reads h v d as then some (keyToks q.choose) else none) = _
    exact dif_pos q
  obtain ⟨h1, as', h2⟩ := q.choose_spec
  rw [e]
  generalize q.choose = d2 at h1 h2 ⊢
  obtain ⟨x, t, rfl⟩ := hc.full d hd
  obtain ⟨x2, t2, rfl⟩ := hc.full d2 h1
  cases r with
  | tuple a1 a2 a3 a4 =>
    cases h2 with
    | tuple b1 b2 b3 b4 =>
      rw [a1] at b1; cases b1
      rw [a3] at b3; cases b3
      rw [cmp_unique _ _ _ _ _ (hc.cmp _ _ h1 hd) b4 a4]
section
variable {prog : Program} {w : World} {A : Around} {E : Value → Shared → Prop} {s : Shared}
theorem lex_cmp {b fin : Bool} {Q : Bool → Shared → Prop} : ∀ (xs ys : List PyData) (i : Nat) (vs ws : List Value) (as bs : List Addr), ReadsAll s.heap vs xs as → ReadsAll s.heap ws ys bs → cmpT xs ys = true →
    A.units + min (PyData.depthAll xs) (PyData.depthAll ys) < cLine → (b = true → i = 0 → ∀ x r t, xs = x :: r → x ≠ .tuple t) → fin = decide (xs.length < ys.length) → Q (PyProof.Rows.lexLt itemOrd (keyToksAll xs) (keyToksAll ys)) s → KatLex prog w A b fin Q (vs.zip ws) i s
  | [], ys, i, _, _, _, _, ra, rb, h, hu, hb, hf, hq => katLex_alike [] ys i _ _ _ _ ra rb (by cases ys <;> rfl) hu hb hf hq
  | x :: xs, [], i, _, _, _, _, ra, rb, h, hu, hb, hf, hq => katLex_alike (x :: xs) [] i _ _ _ _ ra rb rfl hu hb hf hq
  | x :: xs, y :: ys, i, _, _, _, _, .cons r rs, .cons r' rs', h, hu, hb, hf, hq => by
    obtain ⟨h1, h2⟩ := cmpT_cons h
    have hf' : fin = decide (xs.length < ys.length) := by rw [hf]; simp only [List.length_cons, Nat.add_lt_add_iff_right]
    rw [List.zip_cons_cons]
    refine kat_cons (eqAt_alike x y A s _ _ _ _ r r' h1 (room_head hu) prog w _ _ ?_)
    cases hx : PyData.eqv x y with
    | true =>
      rw [dataLt_all_yes h1 hx] at hq
      exact kat_yes (lex_cmp xs ys (i + 1) _ _ _ _ rs rs' (h2 hx) (room_tail hu) (fun _ hi => absurd hi (Nat.succ_ne_zero i)) hf' hq)
    | false =>
      rw [dataLt_all_no h1 hx] at hq
      refine kat_no (oneLt_alike (fun q t => ?_) r r' h1 (ne_none_of h1 hx) (room_head hu) hq)
      rw [Bool.and_eq_true] at q
      exact hb q.1 (by simpa using q.2) x xs t rfl
theorem sortsC {vs : List Value} {ds : List PyData} (e : EachIs (fun v d => ∃ as, Reads s.heap v d as) vs ds) (hc : Cmp ds) (hu : ∀ d, d ∈ ds → A.units + d.depth < cLine) : SortsAt prog w A s (dataKind s.heap ds) vs := by
  refine ⟨fun v hv => ?_, ?_⟩
  · obtain ⟨d, hd, as, r⟩ := e.left v hv
    exact ⟨_, keyC hc hd r⟩
  · cases ds with
    | nil =>
      cases e
      exact ⟨general', fun E x y a b Q ha _ _ => (by obtain ⟨d, _, hd, _⟩ := dataKind_inv ha; cases hd), fun h2 => absurd h2 (by simp)⟩
    | cons d₀ ds₀ =>
      obtain ⟨x₀, r₀, e₀⟩ := hc.full d₀ List.mem_cons_self
      have first : ∀ x r, PyData.tuple (x :: r) ∈ d₀ :: ds₀ → alike x x₀ = true := fun x r hm => (cmpT_cons (hc.cmp _ _ hm (by rw [← e₀]; exact List.mem_cons_self))).1
      refine ⟨tuples' (dataType x₀ != Value.type "tuple"), ?_, fun h2 E Q hq => ?_⟩
      · intro E x y a b Q ha hb hq
        obtain ⟨d, as, hd, ra, rfl⟩ := dataKind_inv ha
        obtain ⟨d', as', hd', rb, rfl⟩ := dataKind_inv hb
        have room : A.units + min d.depth d'.depth < cLine := Nat.lt_of_le_of_lt (Nat.add_le_add_left (Nat.min_le_left _ _) _) (hu d hd)
        obtain ⟨x1, r1, rfl⟩ := hc.full d hd
        obtain ⟨x2, r2, rfl⟩ := hc.full d' hd'
        have hq' : Q (dataLt (.tuple (x1 :: r1)) (.tuple (x2 :: r2))) s := hq
        rw [dataLt_tuple] at hq'
        cases ra with
        | @tuple l o zs n _ _ h1 h2 h3 h4 =>
          cases rb with
          | @tuple l' o' zs' n' _ _ k1 k2 k3 k4 =>
            have n1 : zs.size = (x1 :: r1).length := by simpa using SeqAt.ReadsAll.length _ _ _ h4
            have n2 : zs'.size = (x2 :: r2).length := by simpa using SeqAt.ReadsAll.length _ _ _ k4
            refine kat_lt h1 h3 k1 k3 (lex_cmp (x1 :: r1) (x2 :: r2) 0 _ _ _ _ h4 k4 (hc.cmp _ _ hd hd') (by have q := SeqAt.room_in room; omega) (fun hb _ x r t ex => ?_) (by rw [n1, n2]) hq')
            obtain ⟨rfl, rfl⟩ := List.cons.inj ex
            have q := dataType_alike (first _ _ hd)
            rw [← q] at hb
            exact dataType_tuple hb t
      · obtain ⟨fs, t1, t2, t3⟩ := each_katTups e hc.full
        refine kat_kind (T := dataType x₀) t1 (by omega) (fun f hf => ?_) (beq_self_eq_true _) hq
        obtain ⟨x, r, as, m1, m2⟩ := t3 f hf
        rw [← dataType_alike (first x r m1)]
        exact looks_reads m2
end
/-- they may be sorted -/
def SrtOk (ds : List PyData) : Prop := (AllAlike ds ∧ SoE ds) ∨ Cmp ds
theorem sortsX {prog : Program} {w : World} {A : Around} {s : Shared} {vs : List Value} {ds : List PyData} (e : EachIs (fun v d => ∃ as, Reads s.heap v d as) vs ds) (o : SrtOk ds) (hu : ∀ d, d ∈ ds → A.units + d.depth < cLine) : SortsAt prog w A s (dataKind s.heap ds) vs :=
  o.elim (fun o => sortsE e o.1 o.2 hu) fun o => sortsC e o hu
theorem valsX {β : Type} {h : Heap} {R : Value → β → Prop} {enc : β → PyData} {vs : List Value} {bs : List β} (rev : Bool) (e : EachIs R vs bs) (er : EachIs (fun v b => ∃ as, Reads h v (enc b) as) vs bs) (o : SrtOk (bs.map enc)) : EachIs R (sortVals (dataKind h (bs.map enc)) rev vs vs) (bs.mergeSort (dataLe rev enc)) :=
  o.elim (fun o => sortVals_data rev e er o.1) fun o => sortVals_each (κ := dataKind h (bs.map enc)) (fun b => keyToks (enc b)) e ((each_mem er).mono fun v b ⟨⟨as, r⟩, m⟩ => keyC o (List.mem_map.mpr ⟨b, m, rfl⟩) r)
end KB

/-! KB7: what is collected of a thing; sorted. -/
namespace KB
open PySem PySem.Spec PyProof.Rows SeqAt
open L2 hiding op_eqD op_neD
mutual
def toP : D → PyData
  | .non => .none
  | .bl b => .bool b
  | .int i => .int i
  | .str l => .str ⟨l.toArray⟩
  | .tup ds => .tuple (toPs ds)
  | .ptr _ => .none
  | .ty _ => .none
def toPs : List D → List PyData
  | [] => []
  | d :: ds => toP d :: toPs ds
end
theorem toPs_map : ∀ ds : List D, toPs ds = ds.map toP
  | [] => rfl
  | d :: ds => by unfold toPs; rw [toPs_map ds]; rfl
mutual
theorem depth_toP : ∀ d : D, (toP d).depth = dep d
  | .non => by unfold toP PyData.depth dep; rfl
  | .bl _ => by unfold toP PyData.depth dep; rfl
  | .int _ => by unfold toP PyData.depth dep; rfl
  | .str _ => by unfold toP PyData.depth dep; rfl
  | .ptr _ => by unfold toP PyData.depth dep; rfl
  | .ty _ => by unfold toP PyData.depth dep; rfl
  | .tup ds => by
    unfold toP PyData.depth dep
    rw [depths_toP ds]
theorem depths_toP : ∀ ds : List D, PyData.depthAll (toPs ds) = deps ds
  | [] => by unfold toPs PyData.depthAll deps; rfl
  | d :: ds => by
    unfold toPs PyData.depthAll deps
    rw [depth_toP d, depths_toP ds]
end
section
variable {K : PySem.W.Frag} {H : Hp}
mutual
theorem dp_of : ∀ (d : D) (v : V), npt d = true → Rep K H d v → Dp K H v (toP d)
  | .non, _, _, h => by cases h; unfold toP; exact .non
  | .bl _, _, _, h => by cases h; unfold toP; exact .bl _
  | .int _, _, _, h => by cases h; unfold toP; exact .int _
  | .str _, _, _, h => by cases h; unfold toP; exact .str _
  | .ptr _, _, n, _ => by unfold npt at n; cases n
  | .ty _, _, n, _ => by unfold npt at n; cases n
  | .tup ds, _, n, h => by
    obtain ⟨a, vs, rfl, hq, hr⟩ := h
    unfold toP
    exact .tup hq (dps_of ds vs n hr)
theorem dps_of : ∀ (ds : List D) (vs : List V), npts ds = true → Reps K H ds vs → DpAll K H vs (toPs ds)
  | [], _, _, h => by cases h; unfold toPs; exact .nil
  | d :: ds, _, n, h => by
    obtain ⟨v, r, rfl, a, t⟩ := h
    unfold npts at n
    rw [Bool.and_eq_true] at n
    unfold toPs
    exact .cons (dp_of d v n.1 a) (dps_of ds r n.2 t)
end
end
def leP : D → D → Bool := W.dataLe false toP
theorem repK_keys {α β : Type} {f : α → β} {K : PySem.W.Frag} {H : Hp} {kvs : List (α × D)} {ws : List (β × V)} (q : RepK f K H kvs ws) : (kvs.map fun kv => f kv.1) = ws.map (·.1) := by
  unfold RepK at q
  induction q with
  | nil => rfl
  | cons r t ih => rw [List.map_cons, List.map_cons, r.1, ih]
/-- what iterating gives: of a list, a tuple, a dict its keys -/
def collD (C : Cp) : D → List D → Prop
  | .tup ds, xs => xs = ds
  | .str l, xs => l.length ≤ sizeLine ∧ xs = l.map fun c => .str [c]
  | .ptr p, xs => isL C p xs ∨ (∃ kvs, C p = some (.dk kvs) ∧ xs = kvs.map fun kv => keyD kv.1) ∨ ∃ kvs, C p = some (.dg kvs) ∧ xs = kvs.map fun kv => kv.1
  | _, _ => False
theorem paired_at {α β : Type} {F : α → β → Prop} : ∀ {a : List α} {b : List β}, Paired F a b → ∀ {j : Nat} (h1 : j < a.length) (h2 : j < b.length), F a[j] b[j]
  | _, _, .nil, _, h1, _ => by simp at h1
  | _, _, .cons r t, 0, _, _ => r
  | _, _, .cons r t, j + 1, h1, h2 => paired_at t (by simpa using h1) (by simpa using h2)
/-- values stand for data, by a heap that goes on -/
def Stand (X : Cx) (H : Hp) (ds : List D) (its : List Value) : Prop := ∃ vs, Reps X.K H ds vs ∧ Vals vs its
theorem keyD_rep {K : PySem.W.Frag} {H : Hp} (k : DKey) : Rep K H (keyD k) (kV (keyOf k)) := by
  cases k with
  | inl i => rfl
  | inr l => rfl
theorem keyDs_rep {K : PySem.W.Frag} {H : Hp} : ∀ ks : List DKey, Reps K H (ks.map keyD) ((ks.map keyOf).map kV)
  | [] => rfl
  | k :: ks => ⟨_, _, rfl, keyD_rep k, keyDs_rep ks⟩
theorem reps_of_at {K : PySem.W.Frag} {H : Hp} : ∀ {ds : List D} {us : List Value}, us.length = ds.length → (∀ (j : Nat) (u : Value), us[j]? = some u → ∃ d v, ds[j]? = some d ∧ Rep K H d v ∧ RelV v u) → ∃ vs, Reps K H ds vs ∧ Vals vs us
  | [], [], _, _ => ⟨[], rfl, .nil⟩
  | d :: ds, u :: us, hl, h => by
    obtain ⟨d', v, e1, e2, e3⟩ := h 0 u rfl
    have e1 : d = d' := Option.some.inj e1
    subst e1
    obtain ⟨vs, a1, a2⟩ := reps_of_at (ds := ds) (us := us) (by simpa using hl) fun j w e => h (j + 1) w (by simpa using e)
    exact ⟨v :: vs, ⟨v, vs, rfl, e2, a1⟩, .cons e3 a2⟩
  | [], _ :: _, hl, _ => by simp at hl
  | _ :: _, [], hl, _ => by simp at hl
section
variable {X : Cx} {B : Bs} {pins : List (Addr × Obj)} {σ : L2.St} {H : Hp} {s : Shared}
theorem collect_D {A : Around} {E : Value → Shared → Prop} {R : List Value → Shared → Prop} {C : Cp} {d : D} {x : V} {u : Value} {xs : List D} (hB : B.P = X.prog ∧ B.w = X.w) (hA : A.handled = none) (I : Inv X pins σ H s) (rl : Rl X.K B H C) (r : Rep X.K H d x) (rv : RelV x u) (hc : collD C d xs)
    (h : ∀ its h' tk, xs.length ≤ sizeLine → (∀ b o, s.heap.get? b = some o → h'.get? b = some o) → Stand X H xs its → R its { s with heap := h', toks := tk }) : wpAny (model X.prog X.w) A (collect u) R E s := by
  cases d with
  | tup ds =>
    have hc : xs = ds := hc
    subst hc
    obtain ⟨p, vs, rfl, hq, hr⟩ := r
    cases rv
    obtain ⟨its, rv2, ⟨o, ho, hc, n, hd⟩, hz⟩ := I.tuple hq
    exact wpAny_collect_seq p (T := "tuple") (.inr rfl) ho hc hd (fun h' hk => h its h' s.toks (by rw [hr.length]; exact hz) hk ⟨vs, hr, rv2⟩) (by rw [List.size_toArray, ← rv2.length]; exact hz)
  | ptr p =>
    cases r; cases rv
    rcases hc with hl | ⟨kvs, hl, e⟩ | ⟨kvs, hl, e⟩
    · obtain ⟨vs, hq, hr⟩ := isL.sq rl hl
      obtain ⟨its, rv2, pt, hz⟩ := I.list hq
      obtain ⟨o, ho, hc, n, hd⟩ := pt.isList
      exact wpAny_collect_seq p (T := "list") (.inl rfl) ho hc hd (fun h' hk => h its h' s.toks (by rw [hr.length]; exact hz) hk ⟨vs, hr, rv2⟩) (by rw [List.size_toArray, ← rv2.length]; exact hz)
    · subst e
      obtain ⟨ws, e1, q⟩ := rl.ok _ _ hl
      obtain ⟨z, lo, vs, rel, dd⟩ := dk_of I.hok e1
      obtain ⟨ep, hat⟩ := dd.dictAt
      have l1 : kvs.length = vs.length := (Paired.length q).trans (Paired.length rel)
      have z' : kvs.length ≤ sizeLine := by rw [Paired.length q]; exact z
      refine PySem.W.kdu_collect (A := A) (PySem.W.kdl_dict (knd := mixKind X.prog X.w) (kvs := vs) (ep := ep) lo) hA hat (by rw [← l1]; exact z') fun h' tk acc hk hacc => h acc.toList h' tk (by rw [List.length_map]; exact z') hk ?_
      refine reps_of_at (by rw [Array.length_toList, hacc.1, List.length_map, l1]) fun j u e => ?_
      obtain ⟨k, x, e2, e3⟩ := hacc.2 j u (by rw [← Array.getElem?_toList]; exact e)
      have hj : j < kvs.length := by rw [l1]; exact (List.getElem?_eq_some_iff.mp e2).1
      have ek : keyOf kvs[j].1 = k := by
        have hq1 : (kvs.map fun kv => keyOf kv.1) = ws.map (·.1) := repK_keys q
        have hq2 : (kvs.map fun kv => keyOf kv.1) = vs.map (·.1) := hq1.trans rel.keys
        have := congrArg (fun l => l[j]?) hq2
        simp only [List.getElem?_map, List.getElem?_eq_getElem hj, e2, Option.map_some] at this
        exact Option.some.inj this
      refine ⟨keyD kvs[j].1, kV (keyOf kvs[j].1), by simp [hj], keyD_rep _, ?_⟩
      rw [ek]
      rcases keyIs_shape e3 with ⟨i, t, ek, ev⟩ | ⟨z, t, ek, ev⟩
      · subst ek; exact ⟨t, ev⟩
      · subst ek; exact ⟨t, ev⟩
    · subst e
      obtain ⟨xs, e1, q, kg⟩ := rl.ok _ _ hl
      rw [hB.1, hB.2] at e1
      obtain ⟨o, es, ep, h1, h2, h3, h4, h5, h6, lo⟩ : _ := (I.hok p _ e1).1
      have l0 : kvs.length = xs.length := Paired.length q
      have l2 : es.size = xs.length := by rw [← Array.length_toList, h4, List.length_map]
      refine PySem.W.kdu_collect (A := A) (PySem.KdlSrc.rawDict (es := es) (ep := ep) lo) hA ⟨o, h1, h2, h3⟩ (by rw [l2]; exact h6) fun h' tk acc hk hacc => h acc.toList h' tk (by rw [List.length_map, l0]; exact h6) hk ?_
      refine reps_of_at (by rw [Array.length_toList, hacc.1, List.length_map, l2, l0]) fun j u e => ?_
      obtain ⟨hi, e2⟩ := hacc.2 j u (by rw [← Array.getElem?_toList]; exact e)
      have hj : j < kvs.length := by omega
      have hjx : j < xs.length := by omega
      obtain ⟨r1, r2, r3⟩ := paired_at q hj hjx
      have e4 : es[j].key = .ref xs[j].2.1 := by
        have : es.toList[j]? = some (entryOfKey (nestedKind X.prog X.w) xs[j]) := by rw [h4, List.getElem?_map, List.getElem?_eq_getElem hjx]; rfl
        rw [Array.getElem?_toList, Array.getElem?_eq_getElem hi] at this
        rw [Option.some.inj this]
        rfl
      exact ⟨kvs[j].1, .ref xs[j].2.1, by simp [hj], r2, by rw [e2, e4]; rfl⟩
  | str l =>
    cases r
    obtain ⟨t, rfl⟩ := rv
    obtain ⟨hz, e⟩ := hc
    subst e
    refine wpAny_collect_str hA ⟨l.toArray⟩ t (fun s' acc hk hg hd ho hi => ?_) (by simpa using hz)
    obtain ⟨h', g', d', t', o'⟩ := s'
    simp only at hg hd ho hk
    subst hg hd ho
    refine h acc.toList h' t' (by rw [List.length_map]; exact hz) hk (reps_of_at (by rw [Array.length_toList, hi.1]; simp) fun j u e => ?_)
    obtain ⟨c, t2, hc, hu⟩ := hi.2 j u (by rw [← Array.getElem?_toList]; exact e)
    refine ⟨.str [c], .str ⟨#[c]⟩, ?_, rfl, t2, hu⟩
    have hc : l.toArray[j]? = some c := hc
    simp at hc
    simp [hc]
  | _ => exact False.elim hc
end
section
variable {X : Cx} {B : Bs} {pins : List (Addr × Obj)} {σ : L2.St} {H : Hp} {s : Shared}
theorem eachIs_of : ∀ {ds : List D} {vs : List V} {its : List Value} {R : Value → D → Prop}, Reps X.K H ds vs → Vals vs its → (∀ d v u, d ∈ ds → Rep X.K H d v → RelV v u → R u d) → W.EachIs R its ds
  | [], _, _, _, h, r, _ => by
    cases h
    cases r
    exact .nil
  | d :: ds, _, _, _, h, r, k => by
    obtain ⟨v, vr, rfl, a, t⟩ := h
    cases r with
    | cons r1 r2 => exact .cons (k d v _ (by simp) a r1) (eachIs_of t r2 fun d v u m => k d v u (by simp [m]))
theorem stand_of : ∀ {ds : List D} {its : List Value}, W.EachIs (fun u d => ∃ v, Rep X.K H d v ∧ RelV v u) its ds → Stand X H ds its
  | [], _, h => by cases h; exact ⟨[], rfl, .nil⟩
  | d :: ds, _, h => by
    cases h with
    | cons h1 h2 =>
      obtain ⟨v, a, b⟩ := h1
      obtain ⟨vs, c, e⟩ := stand_of h2
      exact ⟨v :: vs, ⟨v, vs, rfl, a, c⟩, .cons b e⟩
/-- the items may be sorted: alike, no places within -/
structure SortOk (xs : List D) : Prop where
  ok : SrtOk (xs.map toP)
  np : ∀ x ∈ xs, npt x = true ∧ dep x ≤ 60
def sortedR : List D → Cp → DQ → Prop := fun ds C Q => ∃ d xs, ds = [d] ∧ collD C d xs ∧ SortOk xs ∧ ∀ p, C p = none → Q (.ptr p) (up C p (.lst (xs.mergeSort leP)))
theorem call_sortedD (hB : B.P = X.prog ∧ B.w = X.w) (hr : X.A.units + 70 < cLine) (hcalm : X.calm = true) : CallD X B (.builtin "sorted") sortedR := by
  intro pins s σ H ys us Q I rx hh
  obtain ⟨ds, C, Qd, r, rl, ⟨d, xs, e, hc, so, hq⟩, k⟩ := hh
  subst e
  obtain ⟨v, r2, rfl, hv, hn⟩ := r
  cases hn
  obtain ⟨u, rfl, ru⟩ := vals1 rx
  refine Calls.call_function_entry PyProof.Rows.kind_sorted PyProof.Rows.plain_sorted PyProof.Rows.entry_sorted (PyProof.Rows.args_sorted1 _) ?_
  unfold Builtin.«sorted»
  refine wpAny_bind (m := checkCount "sorted" 1 1 _) (wpAny_pure ?_)
  refine wpAny_bind (collect_D (A := X.A.in1) hB (I.ok.hd hcalm) I rl hv ru hc fun its h' tk hz hk st => ?_)
  obtain ⟨vs, hr1, hr2⟩ := st
  have hl : its.length ≤ sizeLine := by rw [← hr2.length, ← hr1.length]; exact hz
  refine wpAny_bind (wpAny_newList ?_ hl)
  have hoL : (h'.push (seqObj "list" its.toArray 0)).get? h'.objs.size = some (seqObj "list" its.toArray 0) := Heap.get?_push_size _ rfl
  have I1 : Inv X pins σ H { s with heap := h', toks := tk } := I.kept hk
  have keep : ∀ b o, h'.get? b = some o → (W.sortingHeap (h'.push (seqObj "list" its.toArray 0)) h'.objs.size its).get? b = some o := fun b o e =>
    W.sortingHeap_old (Nat.ne_of_lt (Heap.lt_size e)) (Heap.get?_push_of_some _ e)
  have er : W.EachIs (fun u d => ∃ as, Reads (W.sortingHeap (h'.push (seqObj "list" its.toArray 0)) h'.objs.size its) u (toP d) as) its xs := eachIs_of hr1 hr2 fun d v u m a b => by
    obtain ⟨as, q⟩ := Dp.reads I1 (toP d) v u (dp_of d v (so.np d m).1 a) b
    exact ⟨as, PyProof.Rows.Reads.keeps keep q⟩
  show wpAny _ _ _ _ _ { s with heap := h'.push (seqObj "list" its.toArray 0), toks := tk }
  have S : W.SortsAt X.prog X.w X.A.in1.in1 { s with heap := W.sortingHeap (h'.push (seqObj "list" its.toArray 0)) h'.objs.size its, toks := tk } (W.dataKind (W.sortingHeap (h'.push (seqObj "list" its.toArray 0)) h'.objs.size its) (xs.map toP)) its :=
    sortsX (s := { s with heap := W.sortingHeap (h'.push (seqObj "list" its.toArray 0)) h'.objs.size its, toks := tk }) (W.each_map (R := fun v d => ∃ as, Reads _ v d as) toP er) so.ok fun d hd => by
      obtain ⟨b, hb, rfl⟩ := List.mem_map.mp hd
      rw [depth_toP]
      have := (so.np b hb).2
      show X.A.units + 1 + 1 + _ < cLine
      omega
  refine wpAny_bind (wpAny_holding (wpAny_call_entry PyProof.Rows.slot_list_sort ⟨_, hoL, rfl⟩ PyProof.Rows.entry_list_sort
    (W.list_sort_vals (s := { s with heap := h'.push (seqObj "list" its.toArray 0), toks := tk }) hoL S hl ⟨_, rfl, ?_⟩) (PyProof.Rows.args_list_sort _)))
  have out : W.EachIs (fun u d => ∃ v, Rep X.K H d v ∧ RelV v u) _ (xs.mergeSort leP) := valsX (R := fun u d => ∃ v, Rep X.K H d v ∧ RelV v u) false (eachIs_of hr1 hr2 fun d v u _ a b => ⟨v, a, b⟩) er so.ok
  obtain ⟨ws, g1, g2⟩ := stand_of (X := X) (H := H) out
  obtain ⟨e', he'⟩ := PyProof.Rows.sortedHeap_at (vs := its) (out := (W.sortVals (W.dataKind (W.sortingHeap (h'.push (seqObj "list" its.toArray 0)) h'.objs.size its) (xs.map toP)) false its its).toArray) hoL
  have hlen : ws.length ≤ sizeLine := by
    rw [← g1.length, List.length_mergeSort]
    exact hz
  have hfr : H h'.objs.size = none := I1.hok.fresh (Nat.le_refl _)
  obtain ⟨a1, a2⟩ := rl.newL (p := h'.objs.size) hfr g1
  refine wpAny_pure ⟨_, rfl, .ref h'.objs.size, upd H h'.objs.size (.lst ws), I1.laid (t' := tk) (fun b u e => ?_) (Nat.le_refl _)
    (show ObjOk X.prog X.w _ _ _ (.lst ws) from ⟨hlen, _, e', g2, he'⟩), rfl, k _ _ _ _ a1 a2 (repP _) (hq _ (rl.fresh hfr))⟩
  have hb : b < h'.objs.size := Heap.lt_size e
  rw [PyProof.Rows.sortedHeap_old (Nat.ne_of_lt hb) (by rw [size_push']; exact Nat.lt_succ_of_lt hb)]
  exact Heap.get?_push_of_some _ e
end
end KB

/-! KL: dicts that are walked: read, and written at keys that are there. -/
namespace KB
open PySem PySem.Spec PyProof.Rows
section
variable {K : Type} [DecidableEq K] {prog : Program} {w : World} {knd : PySem.KeyKind prog w K} {A : Around} {E : Value → Shared → Prop} {s : Shared}
theorem wpAny_dictSet_at {d : Addr} {kvs : List (K × Value)} {k : K} {key v : Value} {ep : Nat} {Q : Unit → Shared → Prop} (hkey : knd.is k key = true) (hm : s.heap.DictAt knd d kvs ep) (hin : k ∈ kvs.map (·.1))
    (hQ : ∀ h', h'.DictAt knd d (stored kvs k v) ep → Heap.SameBut d s.heap h' → Q () { s with heap := h', toks := s.toks + 1 })
    (hsz : kvs.length ≤ sizeLine := by size_fits) :
    wpAny (model prog w) A (dictSet d key v) Q E s := by
  obtain ⟨o, es, ho, hc, hd, hk, hp, hn⟩ := hm
  have hes : es.size ≤ sizeLine := by have e1 := hp.length; have e2 : es.toList.length = es.size := by simp
                                      omega
  unfold dictSet
  try with_reducible refine wpAny_holding ?_
  refine wpAny_bind (knd.pyHash hkey ?_)
  unfold dictSetHashed
  try with_reducible refine wpAny_holding ?_
  refine wpAny_bind (wpAny_dictFind_of (s := { s with toks := s.toks + 1 }) hkey ho hd hk ?_)
  have hidx : (es.findIdx? fun e => knd.is k e.key) = kvs.findIdx? fun kv => decide (kv.1 = k) := by
    rw [← hp.findIdx k]; obtain ⟨l⟩ := es; simp
  cases hi : es.findIdx? fun e => knd.is k e.key with
  | some i =>
    refine wpAny_bind (wpAny_rule (wpAny_bind (wpAny_updateDict (s := { s with toks := s.toks + 1 }) ho hd (wpAny_point (hQ _ ⟨_, _, Heap.get?_update_self _ ho (Obj.isFreed_of_dict (Obj.data_mapDict hd _)),
      hc.mapDict _, Obj.data_mapDict hd _, hk.modify _ _, ?_, ?_⟩ (Heap.SameBut.update ..))))))
    · rw [stored, if_pos (any_of_findIdx_some (hidx ▸ hi))]
      have hl : (es.toList.findIdx? fun e => knd.is k e.key) = some i := by rw [← hi]; obtain ⟨l⟩ := es; simp
      have := hp.modify hn hl v
      obtain ⟨l⟩ := es
      simpa using this
    · rw [stored, if_pos (any_of_findIdx_some (hidx ▸ hi)), keys_map_store]; exact hn
  | none => exact absurd hin (not_mem_of_findIdx_none (hidx ▸ hi))
end
end KB
namespace KB
open PySem PySem.Spec PyProof.Rows
open L2 hiding op_eqD op_neD call_listD
section
variable {X : Cx} {B : Bs} {pins : List (Addr × Obj)} {σ : L2.St} {H : Hp} {s : Shared} {C : Cp} {p : Addr}
theorem relabel {o o' : HO} (I : Inv X pins σ H s) (h : H p = some o) (mu : Mut (some o)) (he : ∃ u, s.heap.get? p = some u) (new : ObjOk X.prog X.w (upd H p o') s.heap p o') : Inv X pins σ (upd H p o') s :=
  I.write (x := p) (e := p) (t' := s.toks) (h' := s.heap) (by rw [h]; exact mu) (.inl rfl) (fun _ _ _ e => e) he new
theorem ext_ok {φ : Heap → Prop} {h : Heap} {P : Program} {w : World} (a : φ h) (b : ∃ o, h.get? p = some o) (c : ∀ h1 h2 : Heap, φ h1 → (∀ o, h1.get? p = some o → h2.get? p = some o) → φ h2) : ObjOk P w H h p (.ext φ) := ⟨a, b, c⟩
theorem lk_ok {P : Program} {w : World} {h : Heap} {ws : List (Key × V)} {ep : Nat} (a : ws.length ≤ sizeLine) (b : (p == sysModules) = false) {vs : List (Key × Value)} (c : KV ws vs) (d : h.DictAt (mixKind P w) p vs ep) : ObjOk P w H h p (LkO P w p ws ep) :=
  ext_ok ⟨a, b, vs, c, d⟩ (let ⟨o, _, e, _⟩ := d; ⟨o, e⟩) fun h1 h2 ⟨a, b, vs, c, o, es, e, r⟩ k => ⟨a, b, vs, c, o, es, k o e, r⟩
theorem lk_read {ws : List (Key × V)} {ep : Nat} (I : Inv X pins σ H s) (h : H p = some (LkO X.prog X.w p ws ep)) : ∃ o, Inv X pins σ (upd H p (.frz o (.dK ws))) s ∧ ∀ s', Inv X pins σ (upd H p (.frz o (.dK ws))) s' → Inv X pins σ H s' := by
  obtain ⟨⟨z, hs, vs, kv, o, es, e, r2⟩, _⟩ := I.hok p _ h
  have J1 : Inv X pins σ (upd H p (.dK ws)) s := relabel I h trivial ⟨o, e⟩ ⟨z, hs, vs, kv, o, es, ep, e, r2⟩
  obtain ⟨od, J2⟩ := J1.lock upd_same trivial
  rw [upd_upd] at J2
  have eo : od = o := by
    have := (J2.hok p _ upd_same).1
    rw [e] at this
    exact (Option.some.inj this).symm
  subst eo
  refine ⟨od, J2, fun s' J => ?_⟩
  have e' : s'.heap.get? p = some od := (J.hok p _ upd_same).1
  have J3 := J.unlock upd_same (I.nofrz h trivial)
  rw [upd_upd] at J3
  have J4 := relabel J3 upd_same trivial ⟨od, e'⟩ (lk_ok (P := X.prog) (w := X.w) (ep := ep) z hs kv ⟨od, es, e', r2⟩)
  rw [upd_upd] at J4
  have : upd H p (LkO X.prog X.w p ws ep) = H := by
    funext b
    by_cases z : b = p
    · subst z; rw [upd_same, h]
    · rw [upd_ne z]
  rw [this] at J4
  exact J4
theorem lk_get {ws : List (Key × V)} {o : Obj} (k : Key) : DGet (upd H p (.frz o (.dK ws))) p (kV k) (valV ws k) := .inl ⟨ws, k, .inr ⟨o, upd_same⟩, rfl, rfl⟩
theorem kv_keys {ws : List (Key × V)} {vs : List (Key × Value)} (kv : KV ws vs) : ws.map (·.1) = vs.map (·.1) := by
  unfold KV at kv
  induction kv with
  | nil => rfl
  | cons r t ih => rw [List.map_cons, List.map_cons, ih, r.1]
theorem lk_set {A : Around} {E : Value → Shared → Prop} {Q : Unit → Shared → Prop} {ws : List (Key × V)} {ep : Nat} {k : Key} {v : V} {u z : Value} (I : Inv X pins σ H s) (h : H p = some (LkO X.prog X.w p ws ep)) (hin : k ∈ ws.map (·.1)) (ry : RelV (kV k) u) (rv : RelV v z)
    (q : ∀ s', Inv X pins σ (upd H p (LkO X.prog X.w p (putK ws k v) ep)) s' → Q () s') : wpAny (model X.prog X.w) A (setItem (.ref p) u z) Q E s := by
  obtain ⟨⟨zl, hs, vs, kv, hd⟩, _⟩ := I.hok p _ h
  have hz : vs.length ≤ sizeLine := by rw [← kv.length]; exact zl
  have hm := hd.dictOf
  have hin2 : k ∈ vs.map (·.1) := by rw [← kv_keys kv]; exact hin
  have hl : (putK ws k v).length ≤ sizeLine := by
    have e : (putK ws k v).length = ws.length := by
      unfold putK
      rw [if_pos (by
        obtain ⟨x, hx, e⟩ := List.mem_map.mp hin
        exact List.any_eq_true.mpr ⟨x, hx, by simpa using e⟩), List.length_map]
    omega
  unfold setItem
  try with_reducible refine wpAny_holding ?_
  refine wpAny_bind (wpAny_sequenceKey hm.typeIs (by decide) ?_)
  refine wpAny_bind (wpAny_callSpecial?_slot (name := Str.ofString "__setitem__") hm.typeIs PySem.F.slot_dict_setitem
    (wpAny_call_entry PySem.F.slot_dict_setitem hm.typeIs PySem.F.entry_dict_setitem ?_ (PySem.args_dict_setitem _ _ _)))
  show wpAny _ _ (Builtin.Dict.notOrdered "__setitem__" ⟨[.ref p, u, z], []⟩ >>= _) _ _ s
  refine wpAny_bind (wpAny_notOrdered_dict hm.typeIs ?_)
  show wpAny _ _ (dictSet p u z >>= _) _ _ s
  refine wpAny_bind (wpAny_dictSet_at (hsz := hz) (kV_is ry) hd hin2 fun h' hm' hs' => wpAny_pure ⟨.none, rfl, wpAny_pure (q _ ?_)⟩)
  have he : ∃ q, h'.get? p = some q := let ⟨q, _, hq, _⟩ := hm'; ⟨q, hq⟩
  exact d_write I (by rw [h]; exact True.intro) hs' he (lk_ok hl hs (kv.put k rv) hm')
end
end KB

/-! KB8: dicts over data. -/
namespace KB
open PySem PySem.Spec PyProof.Rows SeqAt
open L2 hiding op_eqD op_neD
section
variable {κ α : Type} [DecidableEq κ]
def lookA (kvs : List (κ × α)) (k : κ) : Option α := (kvs.find? fun kv => decide (kv.1 = k)).map (·.2)
def putA (kvs : List (κ × α)) (k : κ) (v : α) : List (κ × α) := if (kvs.any fun kv => decide (kv.1 = k)) = true then kvs.map (fun kv => if kv.1 = k then (kv.1, v) else kv) else kvs ++ [(k, v)]
def delA (kvs : List (κ × α)) (k : κ) : List (κ × α) := kvs.filter fun kv => decide (kv.1 ≠ k)
theorem lookA_nil {k : κ} : lookA ([] : List (κ × α)) k = none := rfl
theorem lookA_cons {p : κ × α} {r : List (κ × α)} {k : κ} : lookA (p :: r) k = if p.1 = k then some p.2 else lookA r k := by
  unfold lookA
  rw [List.find?_cons]
  by_cases h : p.1 = k
  · simp [h]
  · simp [h]
theorem lookA_any (k : κ) : ∀ kvs : List (κ × α), (kvs.any fun kv => decide (kv.1 = k)) = (lookA kvs k).isSome
  | [] => rfl
  | p :: r => by
    rw [List.any_cons, lookA_any k r, lookA_cons]
    by_cases h : p.1 = k
    · simp [h]
    · simp [h]
theorem putA_len (kvs : List (κ × α)) (k : κ) (v : α) : (putA kvs k v).length ≤ kvs.length + 1 := by
  unfold putA
  split <;> simp
theorem lookA_map (k j : κ) (y : α) : ∀ kvs : List (κ × α), lookA (kvs.map fun kv => if kv.1 = k then (kv.1, y) else kv) j = (lookA kvs j).map fun x => if j = k then y else x
  | [] => rfl
  | p :: r => by
    rw [List.map_cons, lookA_cons, lookA_cons, lookA_map k j y r]
    by_cases h : p.1 = k
    · subst h
      by_cases h2 : p.1 = j
      · subst h2
        simp
      · simp [h2]
    · by_cases h2 : p.1 = j
      · subst h2
        simp [h]
      · simp [h, h2]
theorem lookA_snoc (k j : κ) (y : α) : ∀ kvs : List (κ × α), lookA (kvs ++ [(k, y)]) j = match lookA kvs j with | some x => some x | none => if k = j then some y else none
  | [] => by rw [List.nil_append, lookA_cons]; rfl
  | p :: r => by
    rw [List.cons_append, lookA_cons, lookA_cons, lookA_snoc k j y r]
    by_cases h : p.1 = j
    · simp [h]
    · simp [h]
theorem lookA_put (kvs : List (κ × α)) (k j : κ) (y : α) : lookA (putA kvs k y) j = if j = k then some y else lookA kvs j := by
  unfold putA
  rw [lookA_any]
  cases e : lookA kvs k with
  | some x =>
    simp only [Option.isSome_some, if_true]
    rw [lookA_map]
    by_cases h : j = k
    · subst h
      rw [e]
      simp
    · cases lookA kvs j <;> simp [h]
  | none =>
    simp only [Option.isSome_none, Bool.false_eq_true, if_false]
    rw [lookA_snoc]
    by_cases h : j = k
    · subst h
      rw [e]
    · have h2 : ¬ k = j := fun z => h z.symm
      simp only [h, h2, if_false]
      cases lookA kvs j <;> rfl
theorem lookA_del (k j : κ) : ∀ kvs : List (κ × α), lookA (delA kvs k) j = if j = k then none else lookA kvs j
  | [] => by
    unfold delA
    rw [List.filter_nil, lookA_nil]
    simp
  | p :: r => by
    have ih := lookA_del k j r
    unfold delA at ih ⊢
    rw [List.filter_cons]
    by_cases h : p.1 = k
    · simp only [h, ne_eq, not_true, decide_false, Bool.false_eq_true, if_false]
      rw [ih, lookA_cons]
      by_cases h2 : j = k
      · simp [h2]
      · have h3 : ¬ k = j := fun z => h2 z.symm
        simp [h2, h, h3]
    · simp only [h, ne_eq, not_false_eq_true, decide_true, if_true]
      rw [lookA_cons, ih, lookA_cons]
      by_cases h2 : p.1 = j
      · subst h2
        simp [h]
      · simp [h2]
end
/-! dicts whose keys are tuples -/
def lookG (kvs : List (D × D)) (k : D) : Option D := (kvs.find? fun kv => decide (nk kv.1 = nk k)).map (·.2)
def putG (kvs : List (D × D)) (k v : D) : List (D × D) := if (lookG kvs k).isSome then kvs.map (fun kv => if nk kv.1 = nk k then (kv.1, v) else kv) else kvs ++ [(k, v)]
def delG (kvs : List (D × D)) (k : D) : List (D × D) := kvs.filter fun kv => decide (nk kv.1 ≠ nk k)
mutual
theorem nk_inj : ∀ (a b : D), flatG a = true → flatG b = true → nk a = nk b → a = b
  | a, .ptr _, _, h, _ => by unfold flatG at h; cases h
  | a, .ty _, _, h, _ => by unfold flatG at h; cases h
  | a, .bl _, _, h, _ => by unfold flatG at h; cases h
  | .ptr _, b, h, _, _ => by unfold flatG at h; cases h
  | .ty _, b, h, _, _ => by unfold flatG at h; cases h
  | .bl _, b, h, _, _ => by unfold flatG at h; cases h
  | .non, .non, _, _, _ => rfl
  | .int i, .int j, _, _, h => by unfold nk at h; injection h with h; rw [h]
  | .str l, .str m, _, _, h => by
    unfold nk at h
    injection h with h
    rw [sOf_inj h]
  | .tup ds, .tup es, h1, h2, h => by
    unfold nk at h
    injection h with h
    rw [nks_inj ds es h1 h2 h]
  | .non, .int _, _, _, h => by unfold nk at h; cases h
  | .non, .str _, _, _, h => by unfold nk at h; cases h
  | .non, .tup _, _, _, h => by unfold nk at h; cases h
  | .int _, .non, _, _, h => by unfold nk at h; cases h
  | .int _, .str _, _, _, h => by unfold nk at h; cases h
  | .int _, .tup _, _, _, h => by unfold nk at h; cases h
  | .str _, .non, _, _, h => by unfold nk at h; cases h
  | .str _, .int _, _, _, h => by unfold nk at h; cases h
  | .str _, .tup _, _, _, h => by unfold nk at h; cases h
  | .tup _, .non, _, _, h => by unfold nk at h; cases h
  | .tup _, .int _, _, _, h => by unfold nk at h; cases h
  | .tup _, .str _, _, _, h => by unfold nk at h; cases h
theorem nks_inj : ∀ (a b : List D), flatGs a = true → flatGs b = true → nks a = nks b → a = b
  | [], [], _, _, _ => rfl
  | [], _ :: _, _, _, h => by unfold nks at h; cases h
  | _ :: _, [], _, _, h => by unfold nks at h; cases h
  | x :: xs, y :: ys, h1, h2, h => by
    unfold flatGs at h1 h2
    rw [Bool.and_eq_true] at h1 h2
    unfold nks at h
    injection h with h3 h4
    rw [nk_inj x y h1.1 h2.1 h3, nks_inj xs ys h1.2 h2.2 h4]
end
mutual
theorem npt_of_flatG : ∀ d : D, flatG d = true → npt d = true
  | .non, _ => rfl
  | .bl _, _ => rfl
  | .int _, _ => rfl
  | .str _, _ => rfl
  | .ptr _, h => by unfold flatG at h; cases h
  | .ty _, h => by unfold flatG at h; cases h
  | .tup ds, h => by
    unfold flatG at h
    unfold npt
    exact npts_of_flatGs ds h
theorem npts_of_flatGs : ∀ ds : List D, flatGs ds = true → npts ds = true
  | [], _ => rfl
  | d :: ds, h => by
    unfold flatGs at h
    rw [Bool.and_eq_true] at h
    unfold npts
    rw [npt_of_flatG d h.1, npts_of_flatGs ds h.2]
    rfl
end
section
variable {X : Cx} {B : Bs} {pins : List (Addr × Obj)} {σ : L2.St} {H : Hp} {s : Shared} {C : Cp}
mutual
theorem nested_of (I : Inv X pins σ H s) : ∀ (d : D) (v : V) (u : Value), npt d = true → Rep X.K H d v → RelV v u → NestedIs s.heap (nk d) u
  | .non, _, _, _, h, r => by cases h; cases r; unfold nk; exact .none
  | .bl b, _, _, _, h, r => by cases h; cases r; unfold nk; exact .bool rfl
  | .int i, _, _, _, h, r => by cases h; obtain ⟨t, rfl⟩ := r; unfold nk; exact .int _ _
  | .str l, _, _, _, h, r => by cases h; obtain ⟨t, rfl⟩ := r; unfold nk; exact .text _ _
  | .ptr _, _, _, n, _, _ => by unfold npt at n; cases n
  | .ty _, _, _, n, _, _ => by unfold npt at n; cases n
  | .tup ds, _, _, n, h, r => by
    obtain ⟨a, vs, rfl, hq, hr⟩ := h
    cases r
    obtain ⟨its, rv, ⟨o, ho, hc, k, hd⟩, _⟩ := I.tuple hq
    unfold nk
    exact .tup ho hc hd (by rw [List.toList_toArray]; exact nesteds_of I ds vs its n hr rv)
theorem nesteds_of (I : Inv X pins σ H s) : ∀ (ds : List D) (vs : List V) (us : List Value), npts ds = true → Reps X.K H ds vs → Vals vs us → NestedAll s.heap (nks ds) us
  | [], _, _, _, h, r => by cases h; cases r; unfold nks; exact .nil
  | d :: ds, _, _, n, h, r => by
    obtain ⟨v, vr, rfl, a, t⟩ := h
    unfold npts at n
    rw [Bool.and_eq_true] at n
    cases r with
    | cons r1 r2 =>
      unfold nks
      exact .cons (nested_of I d v _ n.1 a r1) (nesteds_of I ds vr _ n.2 t r2)
end
theorem key_is (I : Inv X pins σ H s) {d : D} {a : Addr} (hk : keyG d) (r : Rep X.K H d (.ref a)) : (nestedKind X.prog X.w).is s.heap (nk d) a := ⟨nested_of I d (.ref a) (.ref a) (npt_of_flatG d hk.2.2) r rfl, hk.2.1⟩
theorem dg_of (hB : B.P = X.prog ∧ B.w = X.w) (I : Inv X pins σ H s) (rl : Rl X.K B H C) {p : Addr} {kvs : List (D × D)} (h : C p = some (.dg kvs)) :
    ∃ xs, H p = some (DgObj X.prog X.w p xs) ∧ s.heap.DictOfH (nestedKind X.prog X.w) p xs ∧ RepG X.K H kvs xs ∧ (∀ q ∈ kvs, keyG q.1) ∧ xs.length ≤ sizeLine ∧ (p == sysModules) = false := by
  obtain ⟨xs, e1, q, kg⟩ := rl.ok _ _ h
  rw [hB.1, hB.2] at e1
  obtain ⟨o, es, ep, h1, h2, h3, h4, h5, h6, lo⟩ : _ := (I.hok p _ e1).1
  refine ⟨xs, e1, ⟨o, es, ep, h1, h2, h3, h4, fun x hx => ?_, h5⟩, q, kg, h6, lo⟩
  obtain ⟨j, hj, ej⟩ := List.mem_iff_getElem.mp hx
  have hjk : j < kvs.length := by rw [Paired.length q]; exact hj
  obtain ⟨r1, r2, r3⟩ := paired_at q hjk hj
  rw [ej] at r1 r2
  rw [← r1]
  exact key_is I (kg _ (List.getElem_mem hjk)) r2
theorem repG_look {kvs : List (D × D)} {xs : List (NestedKey × Addr × Value)} (q : RepG X.K H kvs xs) (k : D) : match lookG kvs k with
    | some d => ∃ a u v, atKey xs (nk k) = some (a, u) ∧ Rep X.K H d v ∧ RelV v u
    | none => atKey xs (nk k) = none := by
  unfold RepG at q
  induction q with
  | nil => rfl
  | @cons p x ps xs r t ih =>
    unfold lookG atKey at ih ⊢
    rw [List.find?_cons, List.find?_cons]
    by_cases h : nk p.1 = nk k
    · have h2 : x.1 = nk k := by rw [← r.1]; exact h
      simp only [h, h2, decide_true, Option.map_some]
      obtain ⟨v, a, b⟩ := r.2.2
      exact ⟨_, _, v, rfl, a, b⟩
    · have h2 : ¬ x.1 = nk k := by rw [← r.1]; exact h
      simp only [h, h2, decide_false]
      exact ih
theorem repG_put {kvs : List (D × D)} {xs : List (NestedKey × Addr × Value)} (q : RepG X.K H kvs xs) {k d : D} {a : Addr} {v : V} {u : Value} (hk : Rep X.K H k (.ref a)) (r : Rep X.K H d v) (rv : RelV v u) : RepG X.K H (putG kvs k d) (storedH xs (nk k) a u) := by
  have hl := repG_look q k
  have hmap : RepG X.K H (kvs.map fun kv => if nk kv.1 = nk k then (kv.1, d) else kv) (xs.map (putAt (nk k) u)) := by
    unfold RepG at q ⊢
    clear hl
    induction q with
    | nil => exact .nil
    | @cons p x ps xs r1 t ih =>
      refine .cons ?_ ih
      unfold putAt
      by_cases h : nk p.1 = nk k
      · have h2 : x.1 = nk k := by rw [← r1.1]; exact h
        dsimp only
        rw [if_pos h, if_pos h2]
        exact ⟨r1.1, r1.2.1, v, r, rv⟩
      · have h2 : ¬ x.1 = nk k := by rw [← r1.1]; exact h
        dsimp only
        rw [if_neg h, if_neg h2]
        exact r1
  unfold putG storedH
  cases e : lookG kvs k with
  | some d' =>
    rw [e] at hl
    obtain ⟨a', u', v', e2, _⟩ := hl
    rw [e2]
    exact hmap
  | none =>
    rw [e] at hl
    rw [hl]
    exact paired_append q (.cons ⟨rfl, hk, v, r, rv⟩ .nil)
theorem repG_del {kvs : List (D × D)} {xs : List (NestedKey × Addr × Value)} (q : RepG X.K H kvs xs) (k : D) : RepG X.K H (delG kvs k) (withoutH xs (nk k)) := by
  unfold RepG at q ⊢
  unfold delG withoutH
  induction q with
  | nil => exact .nil
  | @cons p x ps xs r1 t ih =>
    rw [List.filter_cons, List.filter_cons]
    by_cases h : nk p.1 = nk k
    · have h2 : x.1 = nk k := by rw [← r1.1]; exact h
      simp only [h, h2, ne_eq, not_true, decide_false, Bool.false_eq_true, if_false]
      exact ih
    · have h2 : ¬ x.1 = nk k := by rw [← r1.1]; exact h
      simp only [h, h2, ne_eq, not_false_eq_true, decide_true, if_true]
      exact .cons r1 ih
theorem repK_look {kvs : List (DKey × D)} {ws : List (Key × V)} (q : RepK keyOf X.K H kvs ws) (k : DKey) : match lookA kvs k with
    | some d => ∃ v, valV ws (keyOf k) = some v ∧ Rep X.K H d v
    | none => valV ws (keyOf k) = none := by
  unfold RepK at q
  induction q with
  | nil => rfl
  | @cons p x ps xs r t ih =>
    rw [lookA_cons]
    by_cases h : p.1 = k
    · rw [if_pos h, valV_pos (by rw [← r.1, h])]
      exact ⟨_, rfl, r.2⟩
    · rw [if_neg h, valV_neg (by rw [← r.1]; exact fun z => h (keyOf_inj z))]
      exact ih
theorem repK_put {kvs : List (DKey × D)} {ws : List (Key × V)} (q : RepK keyOf X.K H kvs ws) (k : DKey) {d : D} {v : V} (r : Rep X.K H d v) : RepK keyOf X.K H (putA kvs k d) (putK ws (keyOf k) v) := by
  have hl := repK_look q k
  have hmap : RepK keyOf X.K H (kvs.map fun kv => if kv.1 = k then (kv.1, d) else kv) (ws.map fun kv => if kv.1 = keyOf k then (kv.1, v) else kv) := by
    unfold RepK at q ⊢
    clear hl
    induction q with
    | nil => exact .nil
    | @cons p x ps xs r1 t ih =>
      refine .cons ?_ ih
      by_cases h : p.1 = k
      · have h2 : x.1 = keyOf k := by rw [← r1.1, h]
        dsimp only
        rw [if_pos h, if_pos h2]
        exact ⟨r1.1, r⟩
      · have h2 : ¬ x.1 = keyOf k := by rw [← r1.1]; exact fun z => h (keyOf_inj z)
        dsimp only
        rw [if_neg h, if_neg h2]
        exact r1
  unfold putA putK
  rw [lookA_any, valV_any]
  cases e : lookA kvs k with
  | some d' =>
    rw [e] at hl
    obtain ⟨v', e2, _⟩ := hl
    rw [e2]
    exact hmap
  | none =>
    rw [e] at hl
    rw [hl]
    exact paired_append q (.cons ⟨rfl, r⟩ .nil)
theorem repK_del {kvs : List (DKey × D)} {ws : List (Key × V)} (q : RepK keyOf X.K H kvs ws) (k : DKey) : RepK keyOf X.K H (delA kvs k) (dropK ws (keyOf k)) := by
  unfold RepK at q ⊢
  unfold delA dropK
  induction q with
  | nil => exact .nil
  | @cons p x ps xs r1 t ih =>
    rw [List.filter_cons, List.filter_cons]
    by_cases h : p.1 = k
    · have h2 : x.1 = keyOf k := by rw [← r1.1, h]
      simp only [h, h2, ne_eq, not_true, decide_false, Bool.false_eq_true, if_false]
      exact ih
    · have h2 : ¬ x.1 = keyOf k := by rw [← r1.1]; exact fun z => h (keyOf_inj z)
      simp only [h, h2, ne_eq, not_false_eq_true, decide_true, if_true]
      exact .cons r1 ih
/-- what the dict at p holds at y -/
def gotD (C : Cp) (p : Addr) (y : D) (r : Option D) : Prop := (∃ kvs k, C p = some (.dk kvs) ∧ y = keyD k ∧ r = lookA kvs k) ∨ (∃ kvs, C p = some (.dg kvs) ∧ keyG y ∧ r = lookG kvs y) ∨ ∃ kvs ep k, C p = some (.lk kvs ep) ∧ y = keyD k ∧ r = lookA kvs k
/-- the dict at p behind p[y] = v -/
def putsD (C : Cp) (p : Addr) (y v : D) (C' : Cp) : Prop := (∃ kvs k, C p = some (.dk kvs) ∧ y = keyD k ∧ kvs.length < sizeLine ∧ C' = up C p (.dk (putA kvs k v))) ∨ (∃ kvs, C p = some (.dg kvs) ∧ keyG y ∧ kvs.length < sizeLine ∧ C' = up C p (.dg (putG kvs y v))) ∨ ∃ kvs ep k, C p = some (.lk kvs ep) ∧ y = keyD k ∧ k ∈ kvs.map (·.1) ∧ C' = up C p (.lk (putA kvs k v) ep)
theorem keyD_val {k : DKey} {x : V} (r : Rep X.K H (keyD k) x) : x = kV (keyOf k) := by
  cases k with
  | inl i => exact r
  | inr l => exact r
theorem getItem_D {A : Around} {E : Value → Shared → Prop} {Q : Value → Shared → Prop} (hB : B.P = X.prog ∧ B.w = X.w) (hu : A.units + 20 < cLine) (I : Inv X pins σ H s) (rl : Rl X.K B H C) {p : Addr} {y d : D} {x : V} {u : Value} (g : gotD C p y (some d)) (r : Rep X.K H y x) (rv : RelV x u)
    (h : ∀ w' v s', Inv X pins σ H s' → Rep X.K H d v → RelV v w' → Q w' s') : wpAny (model X.prog X.w) A (getItem (.ref p) u) Q E s := by
  rcases g with ⟨kvs, k, e, ey, er⟩ | ⟨kvs, e, hk, er⟩ | ⟨kvs, ep, k, e, ey, er⟩
  · subst ey
    obtain ⟨ws, e1, q⟩ := rl.ok _ _ e
    have hl := repK_look q k
    rw [← er] at hl
    obtain ⟨v, e2, hv⟩ := hl
    have hx := keyD_val r
    subst hx
    exact d_getItem (by omega) I (by have := DGet.k (k := keyOf k) e1; rw [e2] at this; exact this) rv fun w' s' I' rw' => h w' v s' I' hv rw'
  · obtain ⟨xs, e1, hm, q, kg, hz, lo⟩ := dg_of hB I rl e
    have hl := repG_look q y
    rw [← er] at hl
    obtain ⟨a, u', v, e2, hv, hr⟩ := hl
    obtain ⟨ds, hds⟩ := hk.1
    have hr' := r
    rw [hds] at r
    obtain ⟨b, vs, rfl, _, _⟩ := r
    cases rv
    exact wpAny_getItem_heap (show A.units + 1 + 8 < cLine by omega) (key_is I hk hr') hm e2 (h u' v _ (I.tok _) hv hr)
  · subst ey
    obtain ⟨ws, e1, q⟩ := rl.ok _ _ e
    rw [hB.1, hB.2] at e1
    have hl := repK_look q k
    rw [← er] at hl
    obtain ⟨v, e2, hv⟩ := hl
    have hx := keyD_val r
    subst hx
    obtain ⟨o, J, back⟩ := lk_read I e1
    exact d_getItem (by omega) J (by have := lk_get (H := H) (p := p) (ws := ws) (o := o) (keyOf k); rw [e2] at this; exact this) rv fun w' s' I' rw' => h w' v s' (back s' I') hv rw'
theorem setItem_D {A : Around} {E : Value → Shared → Prop} {Q : Unit → Shared → Prop} {C' : Cp} (hB : B.P = X.prog ∧ B.w = X.w) (hu : A.units + 20 < cLine) (I : Inv X pins σ H s) (rl : Rl X.K B H C) {p : Addr} {y d : D} {x v : V} {u z : Value} (g : putsD C p y d C') (r : Rep X.K H y x) (rv : RelV x u) (r2 : Rep X.K H d v) (rv2 : RelV v z)
    (h : ∀ H' s', Inv X pins σ H' s' → Stp H C H' C' → Rl X.K B H' C' → Q () s') : wpAny (model X.prog X.w) A (setItem (.ref p) u z) Q E s := by
  rcases g with ⟨kvs, k, e, ey, hl, eC⟩ | ⟨kvs, e, hk, hl, eC⟩ | ⟨kvs, ep, k, e, ey, hi, eC⟩
  · subst ey eC
    obtain ⟨ws, e1, q⟩ := rl.ok _ _ e
    have hx := keyD_val r
    subst hx
    have nf : ¬ Frz (H p) := by rw [e1]; exact id
    have hn : C p ≠ none := by rw [e]; exact fun z => nomatch z
    exact d_setItem (by omega) I (DPut.k (k := keyOf k) e1 (by rw [← Paired.length q]; exact hl)) rv rv2 fun s' I' => h _ s' I' (stp_put nf (.inl hn)) (rl.put nf (.inl hn) ⟨_, upd_same, (repK_put q k r2).mono (tx_upd nf)⟩)
  · subst eC
    obtain ⟨xs, e1, hm, q, kg, hz, lo⟩ := dg_of hB I rl e
    have nf : ¬ Frz (H p) := by rw [e1]; exact id
    have hn : C p ≠ none := by rw [e]; exact fun z => nomatch z
    obtain ⟨ds, hds⟩ := hk.1
    have hr' := r
    rw [hds] at r
    obtain ⟨b, vs, rfl, _, _⟩ := r
    cases rv
    have q2 := repG_put q hr' r2 rv2
    have hz2 : (storedH xs (nk y) b z).length ≤ sizeLine := by
      rw [← Paired.length q2]
      unfold putG
      split
      · rw [List.length_map]; omega
      · rw [List.length_append]; show kvs.length + 1 ≤ _; omega
    refine wpAny_setItem_heap (hsz := hz) (show A.units + 1 + 8 < cLine by omega) (key_is I hk hr') hm fun h' hm' hs => h (upd H p (DgObj X.prog X.w p (storedH xs (nk y) b z))) _ ?_ (stp_put nf (.inl hn)) (rl.put nf (.inl hn) ?_)
    · obtain ⟨o, es, ep, h1, h2, h3, h4, h5, h6⟩ := hm'
      refine d_write I (by rw [e1]; exact True.intro) hs ⟨o, h1⟩ ⟨⟨o, es, ep, h1, h2, h3, h4, h6, hz2, lo⟩, ⟨o, h1⟩, fun ha hb ⟨o, es, ep, a1, a2⟩ k => ⟨o, es, ep, k o a1, a2⟩⟩
    · rw [hB.1, hB.2]
      refine ⟨_, upd_same, q2.mono (tx_upd nf), fun x hx => ?_⟩
      unfold putG at hx
      split at hx
      · obtain ⟨x0, hx0, rfl⟩ := List.mem_map.mp hx
        have : (if nk x0.1 = nk y then (x0.1, d) else x0).1 = x0.1 := by split <;> rfl
        rw [this]
        exact kg _ hx0
      · rcases List.mem_append.mp hx with hx | hx
        · exact kg _ hx
        · have : x = (y, d) := by simpa using hx
          rw [this]
          exact hk
  · subst ey eC
    obtain ⟨ws, e1, q⟩ := rl.ok _ _ e
    rw [hB.1, hB.2] at e1
    have hx := keyD_val r
    subst hx
    have nf : ¬ Frz (H p) := by rw [e1]; exact id
    have hn : C p ≠ none := by rw [e]; exact fun z => nomatch z
    have hin : keyOf k ∈ ws.map (·.1) := by
      rw [← repK_keys q]
      obtain ⟨x, hx, ex⟩ := List.mem_map.mp hi
      exact List.mem_map.mpr ⟨x, hx, by rw [ex]⟩
    refine lk_set I e1 hin rv rv2 fun s' I' => h _ s' I' (stp_put nf (.inl hn)) (rl.put nf (.inl hn) ⟨_, ?_, (repK_put q k r2).mono (tx_upd nf)⟩)
    rw [hB.1, hB.2]; exact upd_same
end
end KB

/-! KB9: in, dict expressions, stores, texts, isinstance. -/
namespace KB
open PySem PySem.Spec PyProof.Rows SeqAt
open L2 hiding op_eqD op_neD
def memD (ds : List D) (x : D) : Bool := ds.any fun d => eqD d x
section
variable {X : Cx} {pins : List (Addr × Obj)} {σ : L2.St} {H : Hp} {s : Shared}
open Classical in
noncomputable def eqBy (K : PySem.W.Frag) (H : Hp) (x : D) (y : Value) : Bool := if h : ∃ d, npt d = true ∧ ∃ v, Rep K H d v ∧ RelV v y then eqD h.choose x else false
theorem eqBy_is (I : Inv X pins σ H s) {d x : D} {v : V} {y : Value} (n : npt d = true) (r : Rep X.K H d v) (rv : RelV v y) : eqBy X.K H x y = eqD d x := by
  have h : ∃ d, npt d = true ∧ ∃ v, Rep X.K H d v ∧ RelV v y := ⟨d, n, v, r, rv⟩
  unfold eqBy
  rw [dif_pos h]
  obtain ⟨n2, v2, r2, rv2⟩ := h.choose_spec
  have : v2 = v := RelV.inj rv2 rv
  subst this
  rw [rep_inj I _ _ _ n2 n r2 r]
theorem any_eqBy (I : Inv X pins σ H s) {x : D} : ∀ {ds : List D} {vs : List V} {us : List Value}, npts ds = true → Reps X.K H ds vs → Vals vs us → us.any (eqBy X.K H x) = memD ds x
  | [], _, _, _, h, r => by cases h; cases r; rfl
  | d :: ds, _, _, n, h, r => by
    obtain ⟨v, vr, rfl, a, t⟩ := h
    unfold npts at n
    rw [Bool.and_eq_true] at n
    cases r with
    | cons r1 r2 =>
      show (_ || _) = (_ || _)
      rw [eqBy_is I n.1 a r1, any_eqBy I n.2 t r2]
      rfl
end
section
variable {X : Cx} {B : Bs}
/-- x in a tuple, a list -/
def inR (neg : Bool) : D → D → Cp → DQ → Prop
  | x, .tup ds, C, Q => npt x = true ∧ okEqs ds ∧ Q (.bl (if neg then !memD ds x else memD ds x)) C
  | x, .ptr p, C, Q => ∃ ds, isL C p ds ∧ npt x = true ∧ okEqs ds ∧ Q (.bl (if neg then !memD ds x else memD ds x)) C
  | _, _, _, _ => False
theorem in_items {pins : List (Addr × Obj)} {s : Shared} {σ : L2.St} {H : Hp} (I : Inv X pins σ H s) {A : Around} {ds : List D} {vs : List V} {its : List Value} {dx : D} {x : V} {v : Value} (hA : A.units + 70 < cLine) (ok : okEqs ds) (nx : npt dx = true) (hr : Reps X.K H ds vs) (rv : Vals vs its) (r1 : Rep X.K H dx x) (rx : RelV x v) :
    ∀ y, y ∈ its.toArray → EqAt A s y v (eqBy X.K H dx y) := by
  intro y hy
  have hy : y ∈ its := by simpa using hy
  obtain ⟨j, hj, e⟩ := List.mem_iff_getElem.mp hy
  obtain ⟨w, a1, a2, a3⟩ := getV_of hr rv hj
  rw [e] at a2
  have n := npts_mem ok.1 a3
  rw [eqBy_is I n a1 a2]
  have := deps_mem a3
  have h6 := ok.2
  exact eqAt_D I 60 _ _ A w x _ _ (by omega) n nx (by omega) a1 r1 a2 rx
theorem op_inD (hu : X.A.units + 80 < cLine) : OpD X B (compareOp .In) (inR false) := by
  intro pins s σ H x y v u Q I rx ry h
  obtain ⟨dx, dy, C, Qd, r1, r2, rl, h, k⟩ := h
  cases dy with
  | tup ds =>
    obtain ⟨h1, h2, h3⟩ := h
    obtain ⟨a, vs, rfl, hq, hr⟩ := r2
    cases ry
    obtain ⟨its, rv, p, _⟩ := I.tuple hq
    refine in_tupleAt (eqBy X.K H dx) p (in_items I (show X.A.units + 1 + 70 < cLine by omega) h2 h1 hr rv r1 rx) ⟨.bl _, H, I, rfl, k _ (.bl _) H C (Stp.refl _ _) rl (repB _) ?_⟩
    have := any_eqBy (x := dx) I h2.1 hr rv
    rw [List.any_toArray, this]
    exact h3
  | ptr q =>
    obtain ⟨ds, hl, h1, h2, h3⟩ := h
    cases r2; cases ry
    obtain ⟨vs, hq, hr⟩ := hl.sq rl
    obtain ⟨its, rv, p, _⟩ := I.list hq
    refine in_listAt (eqBy X.K H dx) p.isList (in_items I (show X.A.units + 1 + 70 < cLine by omega) h2 h1 hr rv r1 rx) ⟨.bl _, H, I, rfl, k _ (.bl _) H C (Stp.refl _ _) rl (repB _) ?_⟩
    have := any_eqBy (x := dx) I h2.1 hr rv
    rw [List.any_toArray, this]
    exact h3
  | _ => exact False.elim h
theorem op_niD (hu : X.A.units + 80 < cLine) : OpD X B (compareOp .NotIn) (inR true) := by
  intro pins s σ H x y v u Q I rx ry h
  obtain ⟨dx, dy, C, Qd, r1, r2, rl, h, k⟩ := h
  cases dy with
  | tup ds =>
    obtain ⟨h1, h2, h3⟩ := h
    obtain ⟨a, vs, rfl, hq, hr⟩ := r2
    cases ry
    obtain ⟨its, rv, p, _⟩ := I.tuple hq
    refine notIn_tupleAt (eqBy X.K H dx) p (in_items I (show X.A.units + 1 + 70 < cLine by omega) h2 h1 hr rv r1 rx) ⟨.bl _, H, I, rfl, k _ (.bl _) H C (Stp.refl _ _) rl (repB _) ?_⟩
    have := any_eqBy (x := dx) I h2.1 hr rv
    rw [List.any_toArray, this]
    exact h3
  | ptr q =>
    obtain ⟨ds, hl, h1, h2, h3⟩ := h
    cases r2; cases ry
    obtain ⟨vs, hq, hr⟩ := hl.sq rl
    obtain ⟨its, rv, p, _⟩ := I.list hq
    refine notIn_listAt (eqBy X.K H dx) p.isList (in_items I (show X.A.units + 1 + 70 < cLine by omega) h2 h1 hr rv r1 rx) ⟨.bl _, H, I, rfl, k _ (.bl _) H C (Stp.refl _ _) rl (repB _) ?_⟩
    have := any_eqBy (x := dx) I h2.1 hr rv
    rw [List.any_toArray, this]
    exact h3
  | _ => exact False.elim h
/-- a sign in a text -/
def inSR (neg : Bool) : D → D → Cp → DQ → Prop := fun x y C Q => ∃ c l, x = .str [c] ∧ y = .str l ∧ Q (.bl (if neg then !decide (c ∈ l) else decide (c ∈ l))) C
theorem op_inSD : OpD X B (compareOp .In) (inSR false) := by
  intro pins s σ H x y v u Q I rx ry h
  obtain ⟨dx, dy, C, Qd, r1, r2, rl, ⟨c, l, e1, e2, h⟩, k⟩ := h
  subst e1 e2
  cases r1; cases r2
  exact op_in_sign pins s σ H _ _ v u Q I rx ry ⟨c, _, rfl, rfl, k _ (.bl (decide (c ∈ l))) H C (Stp.refl _ _) rl rfl h⟩
theorem op_niSD : OpD X B (compareOp .NotIn) (inSR true) := by
  intro pins s σ H x y v u Q I rx ry h
  obtain ⟨dx, dy, C, Qd, r1, r2, rl, ⟨c, l, e1, e2, h⟩, k⟩ := h
  subst e1 e2
  cases r1; cases r2
  exact op_notIn_sign pins s σ H _ _ v u Q I rx ry ⟨c, _, rfl, rfl, k _ (.bl (!decide (c ∈ l))) H C (Stp.refl _ _) rl rfl h⟩
/-- truths, by is -/
def isBR (neg : Bool) : D → D → Cp → DQ → Prop := fun x y C Q => ∃ a b, x = .bl a ∧ y = .bl b ∧ Q (.bl (if neg then !decide (a = b) else decide (a = b))) C
theorem op_isBD : OpD X B (compareOp .Is) (isBR false) := by
  intro pins s σ H x y v u Q I rx ry h
  obtain ⟨dx, dy, C, Qd, r1, r2, rl, ⟨a, b, e1, e2, h⟩, k⟩ := h
  subst e1 e2
  cases r1; cases r2
  exact op_is_bl pins s σ H _ _ v u Q I rx ry ⟨a, b, rfl, rfl, k _ (.bl _) H C (Stp.refl _ _) rl rfl h⟩
theorem op_isnBD : OpD X B (compareOp .IsNot) (isBR true) := by
  intro pins s σ H x y v u Q I rx ry h
  obtain ⟨dx, dy, C, Qd, r1, r2, rl, ⟨a, b, e1, e2, h⟩, k⟩ := h
  subst e1 e2
  cases r1; cases r2
  exact op_isnot_bl pins s σ H _ _ v u Q I rx ry ⟨a, b, rfl, rfl, k _ (.bl _) H C (Stp.refl _ _) rl rfl h⟩
variable {pos apos : Pos} {o i e f value : Expr} {to ti te tf tv : DE}
/-! ### dicts -/
def dGetI (to ti : DE) : DE := fun s C Q => to s C fun x C1 => ti s C1 fun y C2 => ∃ p d, x = .ptr p ∧ gotD C2 p y (some d) ∧ Q d C2
def isDk (C : Cp) (p : Addr) : Prop := (∃ kvs, C p = some (.dk kvs)) ∨ (∃ kvs, C p = some (.dg kvs)) ∨ ∃ kvs ep, C p = some (.lk kvs ep)
theorem gotD.there {C : Cp} {p : Addr} {y : D} {r : Option D} (h : gotD C p y r) : isDk C p := by
  rcases h with ⟨kvs, k, e, _⟩ | ⟨kvs, e, _⟩ | ⟨kvs, ep, k, e, _⟩
  · exact .inl ⟨kvs, e⟩
  · exact .inr (.inl ⟨kvs, e⟩)
  · exact .inr (.inr ⟨kvs, ep, e⟩)
theorem dict_is {pins : List (Addr × Obj)} {σ : L2.St} {H : Hp} {s : Shared} {C : Cp} (hB : B.P = X.prog ∧ B.w = X.w) (I : Inv X pins σ H s) (rl : Rl X.K B H C) {p : Addr} (h : isDk C p) : s.TypeIs (.ref p) "dict" ∧ ∃ ob, s.heap.get? p = some ob ∧ ob.dict = none := by
  rcases h with ⟨kvs, h⟩ | ⟨kvs, h⟩ | ⟨kvs, ep, h⟩
  · obtain ⟨ws, e1, _⟩ := rl.ok _ _ h
    obtain ⟨_, _, vs, _, o, es, ep, ho, ex, _⟩ := dk_of I.hok e1
    exact ⟨⟨o, ho, ex.1⟩, o, ho, ex.2.1⟩
  · obtain ⟨xs, e1, ⟨o, es, ep, ho, ex, _⟩, _⟩ := dg_of hB I rl h
    exact ⟨⟨o, ho, ex.1⟩, o, ho, ex.2.1⟩
  · obtain ⟨ws, e1, _⟩ := rl.ok _ _ h
    rw [hB.1, hB.2] at e1
    obtain ⟨⟨_, _, _, _, o, es, ho, ex, _⟩, _⟩ := I.hok p _ e1
    exact ⟨⟨o, ho, ex.1⟩, o, ho, ex.2.1⟩
theorem j_dget (hB : B.P = X.prog ∧ B.w = X.w) (hu : X.A.units + 20 < cLine) (ho : JE X B o to) (hi : JE X B i ti) (hs : NoSl i := by exact fun _ _ => rfl) : JE X B (.Subscript o i pos) (dGetI to ti) := ⟨fun pins s σ H Q I h => by
  obtain ⟨sl, C, Qd, rs, rl, h, k⟩ := h
  refine subD_of PySem.F.slot_dict_getitem.lookup hs (thn (ho.run pins s σ H (fun x H1 => ∃ dx C1, Stp H C H1 C1 ∧ Rl X.K B H1 C1 ∧ Rep X.K H1 dx x ∧ ti sl C1 fun y C2 => ∃ p d, dx = .ptr p ∧ gotD C2 p y (some d) ∧ Qd d C2) I ⟨sl, C, _, rs, rl, h, fun v d H' C' st rl' r q => ⟨d, C', st, rl', r, q⟩⟩) fun u s1 ⟨x, H1, I1, rx, dx, C1, st1, rl1, r1, q1⟩ => ?_)
  refine thn (hi.run pins s1 σ H1 (fun y H2 => ∃ dy C2, Stp H1 C1 H2 C2 ∧ Rl X.K B H2 C2 ∧ Rep X.K H2 dy y ∧ ∃ p d, dx = .ptr p ∧ gotD C2 p dy (some d) ∧ Qd d C2) I1 ⟨sl, C1, _, rs.mono st1.tx, rl1, q1, fun v d H' C' st rl' r q => ⟨d, C', st, rl', r, q⟩⟩) fun iv s2 ⟨y, H2, I2, ry, dy, C2, st2, rl2, r2, p, d, e, g, q2⟩ => ?_
  subst e
  cases r1
  obtain rfl : u = Value.ref p := rx
  exact ⟨(dict_is hB I2 rl2 g.there).1, getItem_D hB hu I2 rl2 g r2 ry fun w' v s3 I3 rw' rv => ⟨v, H2, I3, rv, k v d H2 C2 (st1.trans st2) rl2 rw' q2⟩⟩⟩
def dPutI (to ti tv : DE) : DS := fun D s C => tv s C fun v C1 => to s C1 fun x C2 => ti s C2 fun y C3 => ∃ p C4, x = .ptr p ∧ putsD C3 p y v C4 ∧ D.nx s C4
theorem js_dput {pos' : Pos} (hB : B.P = X.prog ∧ B.w = X.w) (hu : X.A.units + 20 < cLine) (ho : JE X B o to) (hi : JE X B i ti) (hv : JE X B value tv) (hs : swapsWith value (some (.Subscript o i pos')) pos.line X.env = pure false := by rfl) :
    JS X B (.Assign [.Subscript o i pos'] value pos) (dPutI to ti tv) := ⟨fun pins s σ H D I h => by
  obtain ⟨sl, C, Dd, rs, rl, h, k⟩ := h
  refine wpAny_Assign_Subscript (thn (hv.run pins s σ H (fun x H1 => ∃ dv C1, Stp H C H1 C1 ∧ Rl X.K B H1 C1 ∧ Rep X.K H1 dv x ∧ to sl C1 fun x C2 => ti sl C2 fun y C3 => ∃ p C4, x = .ptr p ∧ putsD C3 p y dv C4 ∧ Dd.nx sl C4) I ⟨sl, C, _, rs, rl, h, fun v d H' C' st rl' r q => ⟨d, C', st, rl', r, q⟩⟩) fun z s1 ⟨v, H1, I1, rv, dv, C1, st1, rl1, r1, q1⟩ => ?_) hs
  refine thn (ho.run pins s1 σ H1 (fun x H2 => ∃ dx C2, Stp H1 C1 H2 C2 ∧ Rl X.K B H2 C2 ∧ Rep X.K H2 dx x ∧ ti sl C2 fun y C3 => ∃ p C4, dx = .ptr p ∧ putsD C3 p y dv C4 ∧ Dd.nx sl C4) I1 ⟨sl, C1, _, rs.mono st1.tx, rl1, q1, fun v d H' C' st rl' r q => ⟨d, C', st, rl', r, q⟩⟩) fun u s2 ⟨x, H2, I2, rx, dx, C2, st2, rl2, r2, q2⟩ => ?_
  refine thn (hi.run pins s2 σ H2 (fun y H3 => ∃ dy C3, Stp H2 C2 H3 C3 ∧ Rl X.K B H3 C3 ∧ Rep X.K H3 dy y ∧ ∃ p C4, dx = .ptr p ∧ putsD C3 p dy dv C4 ∧ Dd.nx sl C4) I2 ⟨sl, C2, _, rs.mono (st1.trans st2).tx, rl2, q2, fun v d H' C' st rl' r q => ⟨d, C', st, rl', r, q⟩⟩) fun iv s3 ⟨y, H3, I3, ry, dy, C3, st3, rl3, r3, p, C4, e, g, q3⟩ => ?_
  subst e
  cases r2
  obtain rfl : u = Value.ref p := rx
  exact setItem_D hB hu I3 rl3 g r3 ry (r1.mono (st2.trans st3).tx) rv fun H4 s4 I4 st4 rl4 => ⟨σ, H4, I4, k.nx _ _ H4 C4 (((st1.trans st2).trans st3).trans st4) rl4 (rs.mono (((st1.trans st2).trans st3).trans st4).tx) q3⟩⟩
end
end KB

/-! KB10: dict methods, join, isinstance, pop. -/
namespace KB
open PySem PySem.Spec PyProof.Rows SeqAt
open L2 hiding op_eqD op_neD
section
variable {X : Cx} {B : Bs} {pos apos : Pos} {o i e f value : Expr} {es : List Expr} {to ti te tf tv : DE} {tr : DA}
def inDR (neg : Bool) : D → D → Cp → DQ → Prop := fun y x C Q => ∃ p r, x = .ptr p ∧ gotD C p y r ∧ Q (.bl (if neg then !r.isSome else r.isSome)) C
theorem op_inKD (hB : B.P = X.prog ∧ B.w = X.w) (hu : X.A.units + 20 < cLine) : OpD X B (compareOp .In) (inDR false) := by
  intro pins s σ H x y v u Q I rx ry h
  obtain ⟨dx, dy, C, Qd, r1, r2, rl, ⟨p, r, e, g, h⟩, k⟩ := h
  subst e
  cases r2; cases ry
  rcases g with ⟨kvs, kk, e, ey, er⟩ | ⟨kvs, e, hk, er⟩ | ⟨kvs, ep, kk, e, ey, er⟩
  · subst ey
    obtain ⟨ws, e1, q⟩ := rl.ok _ _ e
    have hl := repK_look q kk
    have hx := keyD_val r1
    subst hx
    have hs : (valV ws (keyOf kk)).isSome = r.isSome := by
      rw [er]
      cases e2 : lookA kvs kk with
      | none => rw [e2] at hl; rw [hl]; rfl
      | some d => rw [e2] at hl; obtain ⟨v, e3, _⟩ := hl; rw [e3]; rfl
    exact d_in (by omega) I (DGet.k (k := keyOf kk) e1) rx fun s' I' => ⟨.bl _, H, I', rfl, k _ (.bl _) H C (Stp.refl _ _) rl (repB _) (by rw [hs]; exact h)⟩
  · obtain ⟨xs, e1, hm, q, kg, hz, lo⟩ := dg_of hB I rl e
    have hl := repG_look q dx
    obtain ⟨ds, hds⟩ := hk.1
    have hr' := r1
    rw [hds] at r1
    obtain ⟨b, vs, rfl, _, _⟩ := r1
    cases rx
    have hs : (atKey xs (nk dx)).isSome = r.isSome := by
      rw [er]
      cases e2 : lookG kvs dx with
      | none => rw [e2] at hl; rw [hl]; rfl
      | some d => rw [e2] at hl; obtain ⟨a, u, v, e3, _⟩ := hl; rw [e3]; rfl
    exact wpAny_in_heap (show X.A.units + 1 + 8 < cLine by omega) (key_is I hk hr') lo hm ⟨.bl _, H, I.tok _, rfl, k _ (.bl _) H C (Stp.refl _ _) rl (repB _) (by rw [hs]; exact h)⟩
  · subst ey
    obtain ⟨ws, e1, q⟩ := rl.ok _ _ e
    rw [hB.1, hB.2] at e1
    have hl := repK_look q kk
    have hx := keyD_val r1
    subst hx
    have hs : (valV ws (keyOf kk)).isSome = r.isSome := by
      rw [er]
      cases e2 : lookA kvs kk with
      | none => rw [e2] at hl; rw [hl]; rfl
      | some d => rw [e2] at hl; obtain ⟨v, e3, _⟩ := hl; rw [e3]; rfl
    obtain ⟨o, J, back⟩ := lk_read I e1
    exact d_in (by omega) J (lk_get (keyOf kk)) rx fun s' I' => ⟨.bl _, H, back s' I', rfl, k _ (.bl _) H C (Stp.refl _ _) rl (repB _) (by rw [hs]; exact h)⟩
theorem op_niKD (hB : B.P = X.prog ∧ B.w = X.w) (hu : X.A.units + 20 < cLine) : OpD X B (compareOp .NotIn) (inDR true) := by
  intro pins s σ H x y v u Q I rx ry h
  obtain ⟨dx, dy, C, Qd, r1, r2, rl, ⟨p, r, e, g, h⟩, k⟩ := h
  subst e
  cases r2; cases ry
  rcases g with ⟨kvs, kk, e, ey, er⟩ | ⟨kvs, e, hk, er⟩ | ⟨kvs, ep, kk, e, ey, er⟩
  · subst ey
    obtain ⟨ws, e1, q⟩ := rl.ok _ _ e
    have hl := repK_look q kk
    have hx := keyD_val r1
    subst hx
    have hs : (valV ws (keyOf kk)).isSome = r.isSome := by
      rw [er]
      cases e2 : lookA kvs kk with
      | none => rw [e2] at hl; rw [hl]; rfl
      | some d => rw [e2] at hl; obtain ⟨v, e3, _⟩ := hl; rw [e3]; rfl
    exact d_notIn (by omega) I (DGet.k (k := keyOf kk) e1) rx fun s' I' => ⟨.bl _, H, I', rfl, k _ (.bl _) H C (Stp.refl _ _) rl (repB _) (by rw [hs]; exact h)⟩
  · obtain ⟨xs, e1, hm, q, kg, hz, lo⟩ := dg_of hB I rl e
    have hl := repG_look q dx
    obtain ⟨ds, hds⟩ := hk.1
    have hr' := r1
    rw [hds] at r1
    obtain ⟨b, vs, rfl, _, _⟩ := r1
    cases rx
    have hs : (atKey xs (nk dx)).isSome = r.isSome := by
      rw [er]
      cases e2 : lookG kvs dx with
      | none => rw [e2] at hl; rw [hl]; rfl
      | some d => rw [e2] at hl; obtain ⟨a, u, v, e3, _⟩ := hl; rw [e3]; rfl
    show wpAny _ _ (do return Value.bool (!(← contains (.ref p) (.ref b)))) _ _ s
    exact wpAny_bind (wpAny_contains_heap (show X.A.units + 1 + 8 < cLine by omega) (key_is I hk hr') lo hm (wpAny_pure ⟨.bl _, H, I.tok _, rfl, k _ (.bl _) H C (Stp.refl _ _) rl (repB _) (by rw [hs]; exact h)⟩))
  · subst ey
    obtain ⟨ws, e1, q⟩ := rl.ok _ _ e
    rw [hB.1, hB.2] at e1
    have hl := repK_look q kk
    have hx := keyD_val r1
    subst hx
    have hs : (valV ws (keyOf kk)).isSome = r.isSome := by
      rw [er]
      cases e2 : lookA kvs kk with
      | none => rw [e2] at hl; rw [hl]; rfl
      | some d => rw [e2] at hl; obtain ⟨v, e3, _⟩ := hl; rw [e3]; rfl
    obtain ⟨o, J, back⟩ := lk_read I e1
    exact d_notIn (by omega) J (lk_get (keyOf kk)) rx fun s' I' => ⟨.bl _, H, back s' I', rfl, k _ (.bl _) H C (Stp.refl _ _) rl (repB _) (by rw [hs]; exact h)⟩
/-- a dict's method -/
def dBMd (r : D → List D → Cp → DQ → Prop) (to : DE) (t : DA) : DE := fun s C Q => to s C fun d C1 => (∃ p, d = .ptr p ∧ isDk C1 p) ∧ t s C1 fun ds C2 => r d ds C2 Q
theorem j_bmd {name : Str} {id : String} {r : D → List D → Cp → DQ → Prop} (hB : B.P = X.prog ∧ B.w = X.w) (slot : Slot "dict" name id) (hty : typeOf (.builtin id) = pure (.type "method_descriptor")) (hm : MtD X B id r) (ho : JE X B o to) (ha : JA X B (e :: es) tr)
    (hbase : attributeBase o name X.env (eval o X.env) = eval o X.env := by rfl)
    (hfew : ((backTo pos (starEach (e :: es) X.env)).all (fun x => !x.1) && (backToKw pos (keywordEach [] X.env)).all (fun x => x.1.isSome)
      && decide ((e :: es).length + ([] : List Keyword).length + (if ([] : List Keyword).isEmpty then 0 else 1) < 30)) = true := by rfl)
    (hline : (apos.endLine == pos.line) = true := by rfl) (hs : starEach (e :: es) X.env = (false, eval e X.env) :: starEach es X.env := by rfl) (hplain : (backTo pos (starEach es X.env)).any (·.1) = false := by rfl) :
    JE X B (.Call (.Attribute o name apos) (e :: es) [] pos) (dBMd r to tr) := ⟨fun pins s σ H Q I h => by
  obtain ⟨sl, C, Qd, rs, rl, h, k⟩ := h
  refine wpAny_Call_method_late hbase hfew hline rfl (thn (ho.run pins s σ H (fun x H1 => ∃ dx C1, Stp H C H1 C1 ∧ Rl X.K B H1 C1 ∧ Rep X.K H1 dx x ∧ (∃ p, dx = .ptr p ∧ isDk C1 p) ∧ tr sl C1 fun ds C2 => r dx ds C2 Qd) I ⟨sl, C, _, rs, rl, h, fun v d H' C' st rl' r q => ⟨d, C', st, rl', r, q⟩⟩) fun v s1 ⟨x, H1, I1, r1, dx, C1, st1, rl1, rd, ⟨p, ed, hd⟩, q1⟩ => ?_)
  subst ed
  cases rd; cases r1
  obtain ⟨h1, ob, h2, h3⟩ := dict_is hB I1 rl1 hd
  refine ⟨"dict", id, PySem.F.plainAttrs_dict, slot, hty, h1, fun a e => by cases e; exact ⟨ob, h2, h3⟩, ?_⟩
  have hA := ha.run pos pins s1 σ H1 (fun vs H2 => ∃ ds C2, Stp H1 C1 H2 C2 ∧ Rl X.K B H2 C2 ∧ Reps X.K H2 ds vs ∧ r (.ptr p) ds C2 Qd) I1 ⟨sl, C1, _, rs.mono st1.tx, rl1, q1, fun vs ds H' C' st rl' r q => ⟨ds, C', st, rl', r, q⟩⟩
  rw [hs] at hA ⊢
  refine Calls.callWith_builtin (by show (false || (backTo pos (starEach es X.env)).any (·.1)) = false; rw [hplain] <;> rfl) (Calls.evalArgs_plain ?_)
  exact thn hA fun us s2 ⟨vs, H2, I2, r2, ds, C2, st2, rl2, rds, q2⟩ => hm pins s2 σ H2 (.ref p) vs _ us Q I2 rfl r2 ⟨.ptr p, ds, C2, Qd, repP p, rds, rl2, q2, fun v e H' C' st => k v e H' C' ((st1.trans st2).trans st)⟩⟩
def getR : D → List D → Cp → DQ → Prop := fun d ds C Q => ∃ p y z r, d = .ptr p ∧ (ds = [y, z] ∨ ds = [y] ∧ z = .non) ∧ gotD C p y r ∧ Q (r.getD z) C
theorem mt_getD (hB : B.P = X.prog ∧ B.w = X.w) (hu : X.A.units + 20 < cLine) : MtD X B "dict.get" getR := by
  intro pins s σ H x xs v us Q I rx rs h
  obtain ⟨d, ds, C, Qd, r1, r2, rl, ⟨p, y, z, r, ed, eds, g, h⟩, k⟩ := h
  subst ed
  cases r1; cases rx
  have key : ∃ yv uy zv uz, Rep X.K H y yv ∧ RelV yv uy ∧ Rep X.K H z zv ∧ RelV zv uz ∧ (us = [uy, uz] ∨ us = [uy] ∧ z = .non ∧ uz = .none) := by
    rcases eds with e | ⟨e, ez⟩
    · subst e
      obtain ⟨yv, r3, rfl, a1, zv, r4, rfl, a2, hn⟩ := r2
      cases hn
      obtain ⟨uy, uz, rfl, b1, b2⟩ := vals2 rs
      exact ⟨yv, uy, zv, uz, a1, b1, a2, b2, .inl rfl⟩
    · subst e ez
      obtain ⟨yv, r3, rfl, a1, hn⟩ := r2
      cases hn
      obtain ⟨uy, rfl, b1⟩ := vals1 rs
      exact ⟨yv, uy, .non, .none, a1, b1, rfl, rfl, .inr ⟨rfl, rfl, rfl⟩⟩
  obtain ⟨yv, uy, zv, uz, a1, b1, a2, b2, hus⟩ := key
  rcases g with ⟨kvs, kk, e, ey, er⟩ | ⟨kvs, e, hk, er⟩ | ⟨kvs, ep, kk, e, ey, er⟩
  · subst ey
    obtain ⟨ws, e1, q⟩ := rl.ok _ _ e
    have hl := repK_look q kk
    have hx := keyD_val a1
    subst hx
    have fin : ∀ w' s', Inv X pins σ H s' → RelV ((valV ws (keyOf kk)).getD zv) w' → EP X pins σ Q w' s' := fun w' s' I' rw' => by
      refine ⟨_, H, I', rw', k _ (r.getD z) H C (Stp.refl _ _) rl ?_ h⟩
      rw [er]
      cases e2 : lookA kvs kk with
      | none => rw [e2] at hl; rw [hl]; exact a2
      | some d => rw [e2] at hl; obtain ⟨v, e3, hv⟩ := hl; rw [e3]; exact hv
    rcases hus with e | ⟨e, ez, eu⟩
    · subst e
      exact d_get2 (by omega) I (DGet.k (k := keyOf kk) e1) b1 b2 fin
    · subst e ez eu
      cases a2
      exact d_get1 (by omega) I (DGet.k (k := keyOf kk) e1) b1 fin
  · obtain ⟨xs, e1, hm, q, kg, hz, lo⟩ := dg_of hB I rl e
    have hl := repG_look q y
    obtain ⟨dd, hds⟩ := hk.1
    have hr' := a1
    rw [hds] at a1
    obtain ⟨b, vs, rfl, _, _⟩ := a1
    cases b1
    have fin : ∀ s', Inv X pins σ H s' → EP X pins σ Q (((atKey xs (nk y)).map (·.2)).getD uz) s' := fun s' I' => by
      cases e2 : lookG kvs y with
      | none =>
        rw [e2] at hl er
        rw [hl]
        subst er
        exact ⟨zv, H, I', b2, k _ z H C (Stp.refl _ _) rl a2 h⟩
      | some d =>
        rw [e2] at hl er
        obtain ⟨a, u, v, e3, hv, hr⟩ := hl
        rw [e3]
        subst er
        exact ⟨v, H, I', hr, k _ d H C (Stp.refl _ _) rl hv h⟩
    rcases hus with e | ⟨e, ez, eu⟩
    · subst e
      exact call_meetsIn PySem.F.slot_dict_get hm.typeIs PySem.F.entry_dict_get (PySem.F.args_dict_get_3 _ _ _) (meetsH_dict_get_default (nestedKind X.prog X.w) p b lo uz) ⟨(show X.A.units + 1 + 8 < cLine by omega), nk y, xs, key_is I hk hr', hm, fin _ (I.tok _)⟩
    · subst e ez eu
      exact call_meetsIn PySem.F.slot_dict_get hm.typeIs PySem.F.entry_dict_get (PySem.F.args_dict_get_2 _ _) (meetsH_dict_get (nestedKind X.prog X.w) p b lo) ⟨(show X.A.units + 1 + 8 < cLine by omega), nk y, xs, key_is I hk hr', hm, fin _ (I.tok _)⟩
  · subst ey
    obtain ⟨ws, e1, q⟩ := rl.ok _ _ e
    rw [hB.1, hB.2] at e1
    have hl := repK_look q kk
    have hx := keyD_val a1
    subst hx
    obtain ⟨o, J, back⟩ := lk_read I e1
    have fin : ∀ w' s', Inv X pins σ (upd H p (.frz o (.dK ws))) s' → RelV ((valV ws (keyOf kk)).getD zv) w' → EP X pins σ Q w' s' := fun w' s' I' rw' => by
      refine ⟨_, H, back s' I', rw', k _ (r.getD z) H C (Stp.refl _ _) rl ?_ h⟩
      rw [er]
      cases e2 : lookA kvs kk with
      | none => rw [e2] at hl; rw [hl]; exact a2
      | some d => rw [e2] at hl; obtain ⟨v, e3, hv⟩ := hl; rw [e3]; exact hv
    rcases hus with e | ⟨e, ez, eu⟩
    · subst e
      exact d_get2 (by omega) J (lk_get (keyOf kk)) b1 b2 fin
    · subst e ez eu
      cases a2
      exact d_get1 (by omega) J (lk_get (keyOf kk)) b1 fin
/-- a new dict for keys that are tuples -/
def dEmpG : DE := fun _ C Q => ∀ p, C p = none → Q (.ptr p) (up C p (.dg []))
theorem j_empG (hB : B.P = X.prog ∧ B.w = X.w) : JE X B (.Dict [] [] pos) dEmpG := ⟨fun pins s σ H Q I h => by
  obtain ⟨sl, C, Qd, rs, rl, h, k⟩ := h
  have hn := I.hok.fresh (Nat.le_refl s.heap.objs.size)
  have cn : C s.heap.objs.size = none := rl.fresh hn
  refine wpAny_Dict_empty ⟨.ref s.heap.objs.size, _, I.laid (a := s.heap.objs.size) (o := DgObj X.prog X.w s.heap.objs.size []) (t' := s.toks) (fun _ _ q => Heap.get?_push_of_some _ q) (Nat.le_refl _) ?_, rfl, ?_⟩
  · exact ⟨⟨_, #[], 0, Heap.get?_push_size _ rfl, ⟨rfl, rfl, rfl⟩, rfl, rfl, List.nodup_nil, Nat.zero_le _, beq_eq_false_iff_ne.mpr (Ne.symm (Nat.ne_of_lt I.big))⟩, ⟨_, Heap.get?_push_size _ rfl⟩, fun ha hb ⟨o, es, ep, a1, a2⟩ k => ⟨o, es, ep, k o a1, a2⟩⟩
  · refine k _ (.ptr s.heap.objs.size) _ (up C s.heap.objs.size (.dg [])) (stp_put (by rw [hn]; exact id) (.inr hn)) (rl.putNew hn ?_) rfl (h _ cn)
    rw [hB.1, hB.2]
    exact ⟨[], upd_same, .nil, fun q hq => nomatch hq⟩⟩
/-! ### join -/
def joinD (sep : List Nat) : List (List Nat) → List Nat := TL.joinL sep
def joinR : D → List D → Cp → DQ → Prop := fun d ds C Q => ∃ (a : List Nat) (x : D) (ys : List (List Nat)), d = .str a ∧ ds = [x] ∧ itemsD C x (ys.map D.str) ∧ (ys.map List.length).sum + ys.length * a.length ≤ 16777216 ∧ Q (.str (joinD a ys)) C
theorem mt_joinD : MtD X B "str.join" joinR := by
  intro pins s σ H x xs v us Q I rx rs h
  obtain ⟨d, ds, C, Qd, r1, r2, rl, ⟨a, x1, ys, ed, eds, hi, hz, h⟩, k⟩ := h
  subst ed eds
  cases r1
  obtain ⟨w, r3, rfl, hw, hn⟩ := r2
  cases hn
  have fin : Q (.str (Txt.join ⟨a.toArray⟩ (ys.map sOf))) H := by
    refine k _ (.str (joinD a ys)) H C (Stp.refl _ _) rl ?_ h
    show V.str _ = V.str _
    congr 1
    rw [TL.join_eq]
    refine TL.ext_tl ?_
    rw [TL.tl_join]
    show TL.joinL a ((ys.map sOf).map TL.tl) = joinD a ys
    rw [List.map_map]
    have : (TL.tl ∘ sOf) = id := by funext l; rfl
    rw [this, List.map_id]
    rfl
  have hz2 : ((ys.map sOf).map (·.length)).sum + (ys.map sOf).length * (⟨a.toArray⟩ : Str).length ≤ 16777216 := by
    rw [List.map_map, List.length_map]
    have : ((fun x : Str => x.length) ∘ sOf) = List.length := by funext l; simp [Str.length]
    rw [this]
    simpa [Str.length] using hz
  cases x1 with
  | tup es =>
    have hi : ys.map D.str = es := hi
    subst hi
    obtain ⟨p, vs, rfl, hq, hr⟩ := hw
    rw [hr.strs] at hq
    exact mt_join pins s σ H _ _ v us Q I rx rs ⟨_, p, ys.map sOf, rfl, rfl, .inr hq, hz2, fin⟩
  | ptr p =>
    cases hw
    obtain ⟨vs, hq, hr⟩ := isL.sq rl hi
    rw [hr.strs] at hq
    exact mt_join pins s σ H _ _ v us Q I rx rs ⟨_, p, ys.map sOf, rfl, rfl, .inl hq, hz2, fin⟩
  | _ => exact False.elim hi
/-! ### pop -/
theorem mt_popAtD : MtD X B "list.pop" popAtR := by
  intro pins s σ H x xs v us Q I rx rs h
  obtain ⟨d, ds, C, Qd, r1, r2, rl, ⟨p, ys, i, kk, y, e1, e2, hc, h1, h2, h3, h4, h⟩, k⟩ := h
  subst e1 e2
  cases r1
  obtain ⟨w, r3, rfl, hw, hn⟩ := r2
  cases hn; cases hw
  obtain ⟨vs, hp, hr⟩ := rl.cells hc
  obtain ⟨a1, a2⟩ := rl.setL hc hp (reps_eraseIdx kk hr)
  obtain ⟨yv, b1, b2⟩ := hr.get h4
  exact mt_popAt pins s σ H _ _ v us Q I rx rs ⟨p, vs, i, kk, yv, rfl, rfl, hp, h1, h2, by rw [← hr.length]; exact h3, b1, k _ _ _ _ a1 a2 (b2.mono a1.tx) h⟩
/-- pop() -/
def popR : D → List D → Cp → DQ → Prop := fun d ds C Q => ∃ p xs y, d = .ptr p ∧ ds = [] ∧ C p = some (.lst xs) ∧ xs[xs.length - 1]? = some y ∧ Q y (up C p (.lst xs.dropLast))
theorem reps_dropLast {K : PySem.W.Frag} {H : Hp} {ds : List D} {vs : List V} (h : Reps K H ds vs) : Reps K H ds.dropLast vs.dropLast := by
  rw [List.dropLast_eq_take, List.dropLast_eq_take, h.length]
  exact h.take _
theorem mt_popD : MtD X B "list.pop" popR := by
  intro pins s σ H x xs v us Q I rx rs h
  obtain ⟨d, ds, C, Qd, r1, r2, rl, ⟨p, ys, y, e1, e2, hc, h4, h⟩, k⟩ := h
  subst e1 e2
  cases r1; cases r2
  obtain ⟨vs, hp, hr⟩ := rl.cells hc
  obtain ⟨a1, a2⟩ := rl.setL hc hp (reps_dropLast hr)
  obtain ⟨yv, b1, b2⟩ := hr.get h4
  exact mt_pop pins s σ H _ _ v us Q I rx rs ⟨p, vs, yv, rfl, rfl, hp, by rw [← hr.length]; exact b1, k _ _ _ _ a1 a2 (b2.mono a1.tx) h⟩
/-! ### isinstance of built-in classes -/
def nameD (C : Cp) : D → String → Prop
  | .non, n => n = "NoneType"
  | .bl _, n => n = "bool"
  | .int _, n => n = "int"
  | .str _, n => n = "str"
  | .tup _, n => n = "tuple"
  | .ptr p, n => (n = "list" ∧ ∃ ds, isL C p ds) ∨ (n = "dict" ∧ ∃ kvs, C p = some (.dk kvs))
  | .ty _, _ => False
theorem nameD_ok {H : Hp} {C : Cp} (rl : Rl X.K B H C) {d : D} {x : V} {n : String} (r : Rep X.K H d x) (h : nameD C d n) : TyX X.K H x (.type n) := by
  cases d with
  | non => cases r; cases (show n = "NoneType" from h); exact .base .non
  | bl b => cases r; cases (show n = "bool" from h); exact .base (.bl _)
  | int b => cases r; cases (show n = "int" from h); exact .base (.int _)
  | str b => cases r; cases (show n = "str" from h); exact .base (.str _)
  | tup ds =>
    cases (show n = "tuple" from h)
    obtain ⟨a, vs, rfl, hq, _⟩ := r
    rcases hq with (hq | ⟨o, hq⟩) | ⟨o, its, k, hq, hc, _⟩
    · exact .base (.tup hq)
    · exact .fTuple hq
    · exact .kTuple hq hc
  | ptr p =>
    cases r
    rcases h with ⟨e, ds, h | h⟩ | ⟨e, kvs, h⟩
    · subst e
      obtain ⟨vs, q, _⟩ := rl.ok _ _ h
      exact .base (.lst q)
    · subst e
      obtain ⟨o, vs, q, _⟩ := rl.ok _ _ h
      exact .base (.frz q)
    · subst e
      obtain ⟨vs, q, _⟩ := rl.ok _ _ h
      exact .base (.dK q)
  | ty _ => exact h.elim
def isiR : List D → Cp → DQ → Prop := fun ds C Q => ∃ d tb n b, ds = [d, .ty tb] ∧ nameD C d n ∧ kitB n tb = some b ∧ Q (.bl b) C
theorem call_isiD : CallD X B (.builtin "isinstance") isiR := by
  intro pins s σ H xs us Q I rx h
  obtain ⟨ds, C, Qd, r, rl, ⟨d, tb, n, b, e, hn, hk, h⟩, k⟩ := h
  subst e
  obtain ⟨x, r2, rfl, hx, y, r3, rfl, hy, hnil⟩ := r
  cases hnil; cases hy
  exact call_isi pins s σ H _ us Q I rx ⟨x, .ty tb, .type n, .type tb, b, rfl, .ty tb, nameD_ok rl hx hn, kit_ty hk, k _ (.bl b) H C (Stp.refl _ _) rl rfl h⟩
theorem j_tyName {x : Str} (n : String) (hm : X.mg x = none) (hv : bootBuiltins x = some (.type n)) (hg : Gl X x := by rfl) (hn : x ≠ "__name__" := by decide) (hdb : (x == ("__debug__" : Str)) = false := by decide) : JE X B (.Name x pos) (dC (.ty n)) := j_const (.ty n) (pe_bltn (v := .ty n) hg hm hv rfl hn hdb) fun _ _ => rfl
end
end KB

/-! KB11: stores into lists and dicts, parallel assignments, displays of dicts, op=. -/
namespace KB
open PySem PySem.Spec PyProof.Rows SeqAt
open L2 hiding op_eqD op_neD
section
variable {X : Cx} {B : Bs} {pos apos tpos : Pos} {o i e f value a b c : Expr} {es : List Expr} {to ti te tf tv ta tb : DE} {tr : DA}
/-! ### o[i] = v -/
def setsD (C : Cp) (p : Addr) (y v : D) (C' : Cp) : Prop := (∃ xs k j, C p = some (.lst xs) ∧ y = .int k ∧ ixN xs.length k = some j ∧ C' = up C p (.lst (xs.set j v))) ∨ putsD C p y v C'
def setR : D → D → D → Cp → (Cp → Prop) → Prop := fun x y v C Q => ∃ p C', x = .ptr p ∧ setsD C p y v C' ∧ Q C'
def lSet (K : PySem.W.Frag) (B : Bs) (r : D → D → D → Cp → (Cp → Prop) → Prop) : TSet := fun x y v H Q => ∃ dx dy dv C Qd, Rep K H dx x ∧ Rep K H dy y ∧ Rep K H dv v ∧ Rl K B H C ∧ r dx dy dv C Qd ∧ ∀ H' C', Stp H C H' C' → Rl K B H' C' → Qd C' → Q H'
theorem set_D (hB : B.P = X.prog ∧ B.w = X.w) (hu : X.A.units + 20 < cLine) : PSet X (lSet X.K B setR) := by
  intro pins s σ H x y v xv yv u Q I rx ry rv h
  obtain ⟨dx, dy, dv, C, Qd, r1, r2, r3, rl, ⟨p, C', ex, g, q⟩, k⟩ := h
  subst ex
  cases r1
  rcases g with ⟨xs, kk, j, hc, ey, hj, eC⟩ | g
  · subst ey eC
    cases r2
    obtain ⟨vs, hp, hr⟩ := rl.cells hc
    obtain ⟨a1, a2⟩ := rl.setL hc hp (hr.set r3 j)
    exact set_list pins s σ H _ _ v _ _ u Q I rx ry rv ⟨p, vs, kk, j, rfl, rfl, hp, by rw [← hr.length]; exact hj, k _ _ a1 a2 q⟩
  · obtain rfl : xv = Value.ref p := rx
    exact setItem_D hB hu I rl g r2 ry r3 rv fun H4 s4 I4 st4 rl4 => ⟨H4, I4, k H4 C' st4 rl4 q⟩
def dSetI (to ti tv : DE) : DS := fun D s C => tv s C fun v C1 => to s C1 fun x C2 => ti s C2 fun y C3 => setR x y v C3 fun C4 => D.nx s C4
theorem js_sset {pos' : Pos} (hB : B.P = X.prog ∧ B.w = X.w) (hu : X.A.units + 20 < cLine) (ho : JE X B o to) (hi : JE X B i ti) (hv : JE X B value tv) (hs : swapsWith value (some (.Subscript o i pos')) pos.line X.env = pure false := by rfl) :
    JS X B (.Assign [.Subscript o i pos'] value pos) (dSetI to ti tv) := ⟨fun pins s σ H D I h => by
  obtain ⟨sl, C, Dd, rs, rl, h, k⟩ := h
  refine wpAny_Assign_Subscript (thn (hv.run pins s σ H (fun x H1 => ∃ dv C1, Stp H C H1 C1 ∧ Rl X.K B H1 C1 ∧ Rep X.K H1 dv x ∧ to sl C1 fun x C2 => ti sl C2 fun y C3 => setR x y dv C3 fun C4 => Dd.nx sl C4) I ⟨sl, C, _, rs, rl, h, fun v d H' C' st rl' r q => ⟨d, C', st, rl', r, q⟩⟩) fun z s1 ⟨v, H1, I1, rv, dv, C1, st1, rl1, r1, q1⟩ => ?_) hs
  refine thn (ho.run pins s1 σ H1 (fun x H2 => ∃ dx C2, Stp H1 C1 H2 C2 ∧ Rl X.K B H2 C2 ∧ Rep X.K H2 dx x ∧ ti sl C2 fun y C3 => setR dx y dv C3 fun C4 => Dd.nx sl C4) I1 ⟨sl, C1, _, rs.mono st1.tx, rl1, q1, fun v d H' C' st rl' r q => ⟨d, C', st, rl', r, q⟩⟩) fun u s2 ⟨x, H2, I2, rx, dx, C2, st2, rl2, r2, q2⟩ => ?_
  refine thn (hi.run pins s2 σ H2 (fun y H3 => ∃ dy C3, Stp H2 C2 H3 C3 ∧ Rl X.K B H3 C3 ∧ Rep X.K H3 dy y ∧ setR dx dy dv C3 fun C4 => Dd.nx sl C4) I2 ⟨sl, C2, _, rs.mono (st1.trans st2).tx, rl2, q2, fun v d H' C' st rl' r q => ⟨d, C', st, rl', r, q⟩⟩) fun iv s3 ⟨y, H3, I3, ry, dy, C3, st3, rl3, r3, q3⟩ => ?_
  refine thn (set_D hB hu pins s3 σ H3 x y v u iv z (fun H4 => ∃ C4, Stp H3 C3 H4 C4 ∧ Rl X.K B H4 C4 ∧ Dd.nx sl C4) I3 rx ry rv ⟨dx, dy, dv, C3, _, r2.mono st3.tx, r3, r1.mono (st2.trans st3).tx, rl3, q3, fun H' C' st rl' q => ⟨C', st, rl', q⟩⟩) fun _ s4 ⟨H4, I4, C4, st4, rl4, q4⟩ => ?_
  exact ⟨σ, H4, I4, k.nx _ _ H4 C4 (((st1.trans st2).trans st3).trans st4) rl4 (rs.mono (((st1.trans st2).trans st3).trans st4).tx) q4⟩⟩
def gSubD (to ti : DE) : DG := fun d s C Q => to s C fun x C1 => ti s C1 fun y C2 => setR x y d C2 fun C3 => Q s C3
theorem jg_sub (hB : B.P = X.prog ∧ B.w = X.w) (hu : X.A.units + 20 < cLine) (ho : JE X B o to) (hi : JE X B i ti)
    (ha : ∀ v, assign (.Subscript o i pos) X.env v = (do let ov ← holding [v] (eval o X.env); let iv ← holding [v, ov] (eval i X.env); standAt pos; holding [v, ov, iv] (setItem ov iv v); release [v, ov, iv] []) := by intro _; rfl) :
    JG X B (.Subscript o i pos) (gSubD to ti) := ⟨fun pins s σ H v u Q I r h => by
  obtain ⟨d, sl, C, Qd, rd, rs, rl, h, k⟩ := h
  rw [ha]
  refine wpAny_bind (wpAny_holding (thn (ho.run pins s σ H (fun x H2 => ∃ dx C2, Stp H C H2 C2 ∧ Rl X.K B H2 C2 ∧ Rep X.K H2 dx x ∧ ti sl C2 fun y C3 => setR dx y d C3 fun C4 => Qd sl C4) I ⟨sl, C, _, rs, rl, h, fun v d H' C' st rl' r q => ⟨d, C', st, rl', r, q⟩⟩) fun ov s1 ⟨x, H1, I1, rx, dx, C1, st1, rl1, r1, q1⟩ => ?_))
  refine wpAny_bind (wpAny_holding (thn (hi.run pins s1 σ H1 (fun y H3 => ∃ dy C3, Stp H1 C1 H3 C3 ∧ Rl X.K B H3 C3 ∧ Rep X.K H3 dy y ∧ setR dx dy d C3 fun C4 => Qd sl C4) I1 ⟨sl, C1, _, rs.mono st1.tx, rl1, q1, fun v d H' C' st rl' r q => ⟨d, C', st, rl', r, q⟩⟩) fun iv s2 ⟨y, H2, I2, ry, dy, C2, st2, rl2, r2, q2⟩ => ?_))
  refine wpAny_bind (wpAny_standAt (wpAny_bind (wpAny_holding (thn (set_D hB hu pins s2 σ H2 x y v ov iv u (fun H4 => ∃ C4, Stp H2 C2 H4 C4 ∧ Rl X.K B H4 C4 ∧ Qd sl C4) I2 rx ry r ⟨dx, dy, d, C2, _, r1.mono st2.tx, r2, rd.mono (st1.trans st2).tx, rl2, q2, fun H' C' st rl' q => ⟨C', st, rl', q⟩⟩) fun _ s4 ⟨H4, I4, C4, st4, rl4, q4⟩ => ?_))))
  exact wpAny_release ⟨σ, H4, I4, k _ _ H4 C4 ((st1.trans st2).trans st4) rl4 (rs.mono ((st1.trans st2).trans st4).tx) q4⟩⟩
/-! ### a, b = x, y -/
theorem js_par {i j : Nat} {x y : Str} {px py pt : Pos} {kt k2 pt2} (hc : X.calm = true) (hN : X.N.Nodup) (ha : JA X B [a, b] tr) (hi : X.N[i]? = some x := by rfl) (hj : X.N[j]? = some y := by rfl) (hij : i ≠ j := by decide)
    (hx : X.env.scope.names.lookup x = some .local := by rfl) (hy : X.env.scope.names.lookup y = some .local := by rfl)
    (hw : swappedStores [.Tuple [.Name x px, .Name y py] kt pt] (.Tuple [a, b] k2 pt2) X.env = pure (some [x, y]) := by rfl)
    (hs : swapsWithSole [.Tuple [.Name x px, .Name y py] kt pt] (.Tuple [a, b] k2 pt2) pos.line X.env = pure false := by rfl) :
    JS X B (.Assign [.Tuple [.Name x px, .Name y py] kt pt] (.Tuple [a, b] k2 pt2) pos) (dPar i j tr) := PS.imp (ps_par hc hN hi hj hij hx hy ha hw hs) fun D σ H h => by
  obtain ⟨sl, C, Dd, rs, rl, h, k⟩ := h
  refine ⟨sl, C, _, rs, rl, h, fun vs ds H1 C1 st1 rl1 r ⟨d1, d2, e, q⟩ => ?_⟩
  subst e
  obtain ⟨v, r', rfl, h1, w, r'', rfl, h2, hn⟩ := r
  cases hn
  exact ⟨v, w, rfl, k.nx _ _ H1 C1 st1 rl1 (((rs.mono st1.tx).setD h1 i).setD h2 j) q⟩
def dPar3 (i j l : Nat) (ta : DA) : DS := fun D s C => ta s C fun ds C1 => ∃ u v w, ds = [u, v, w] ∧ D.nx (((s.set i (some u)).set j (some v)).set l (some w)) C1
theorem js_par3 {i j l : Nat} {x y z : Str} {px py pz pt : Pos} {kt k2 pt2} (hc : X.calm = true) (hN : X.N.Nodup) (ha : JA X B [a, b, c] tr) (hi : X.N[i]? = some x := by rfl) (hj : X.N[j]? = some y := by rfl) (hl : X.N[l]? = some z := by rfl) (hij : i ≠ j := by decide) (hil : i ≠ l := by decide) (hjl : j ≠ l := by decide)
    (hx : X.env.scope.names.lookup x = some .local := by rfl) (hy : X.env.scope.names.lookup y = some .local := by rfl) (hz : X.env.scope.names.lookup z = some .local := by rfl)
    (hw : swappedStores [.Tuple [.Name x px, .Name y py, .Name z pz] kt pt] (.Tuple [a, b, c] k2 pt2) X.env = pure (some [x, y, z]) := by rfl)
    (hs : swapsWithSole [.Tuple [.Name x px, .Name y py, .Name z pz] kt pt] (.Tuple [a, b, c] k2 pt2) pos.line X.env = pure false := by rfl) :
    JS X B (.Assign [.Tuple [.Name x px, .Name y py, .Name z pz] kt pt] (.Tuple [a, b, c] k2 pt2) pos) (dPar3 i j l tr) := PS.imp (ps_par3 hc hN hi hj hl hij hil hjl hx hy hz ha hw hs) fun D σ H h => by
  obtain ⟨sl, C, Dd, rs, rl, h, k⟩ := h
  refine ⟨sl, C, _, rs, rl, h, fun vs ds H1 C1 st1 rl1 r ⟨d1, d2, d3, e, q⟩ => ?_⟩
  subst e
  obtain ⟨v, r', rfl, h1, w, r'', rfl, h2, u, r3, rfl, h3, hn⟩ := r
  cases hn
  exact ⟨v, w, u, rfl, k.nx _ _ H1 C1 st1 rl1 ((((rs.mono st1.tx).setD h1 i).setD h2 j).setD h3 l) q⟩
/-! ### name += e -/
abbrev IpD (X : Cx) (B : Bs) (op : Operator) (r : D → D → Cp → DQ → Prop) : Prop := PIp X op (lR X.K B r)
def addI : D → D → Cp → DQ → Prop := fun x y C Q => ∃ i j, x = .int i ∧ y = .int j ∧ Q (.int (i + j)) C
theorem ip_addD : IpD X B .Add addI := by
  intro pins s σ H x y v u Q I rx ry h
  obtain ⟨dx, dy, C, Qd, r1, r2, rl, ⟨a, b, ex, ey, h⟩, k⟩ := h
  subst ex ey
  cases r1; cases r2
  exact ip_add pins s σ H _ _ v u Q I rx ry ⟨a, b, rfl, rfl, k _ (.int (a + b)) H C (Stp.refl _ _) rl rfl h⟩
def dAug (i : Nat) (te : DE) (r : D → D → Cp → DQ → Prop) : DS := fun D s C => ∃ x, s[i]? = some (some x) ∧ te s C fun y C1 => r x y C1 fun z C2 => D.nx (s.set i (some z)) C2
theorem js_aug {i : Nat} {x : Str} {op : Operator} {r : D → D → Cp → DQ → Prop} {pos' : Pos} (hN : X.N.Nodup) (ho : IpD X B op r) (he : JE X B e te) (hi : X.N[i]? = some x := by rfl) (hx : Loc X.env.scope x := by first | exact .inl rfl | exact .inr rfl) (hf : X.fn x = true ∨ X.env.scope.names.lookup x = some .local := by first | exact .inl rfl | exact .inr rfl | assumption) :
    JS X B (.AugAssign (.Name x pos') op e pos) (dAug i te r) := PS.imp (ps_aug hN hi hx he ho hf) fun D σ H h => by
  obtain ⟨sl, C, Dd, rs, rl, ⟨d, e1, h⟩, k⟩ := h
  obtain ⟨v, e2, rv⟩ := rs.get e1
  refine ⟨v, e2, sl, C, _, rs, rl, h, fun w dw H1 C1 st1 rl1 r1 q => ?_⟩
  exact ⟨d, dw, C1, _, rv.mono st1.tx, r1, rl1, q, fun z dz H2 C2 st2 rl2 r2 q2 => k.nx _ _ H2 C2 (st1.trans st2) rl2 ((rs.mono (st1.trans st2).tx).setD r2 i) q2⟩
/-! ### {k: v, ..} -/
def dPairs : List (DE × DE) → Sl → Cp → (List (D × D) → Cp → Prop) → Prop
  | [], _, C, Q => Q [] C
  | (tk, tv) :: r, s, C, Q => tk s C fun x C1 => tv s C1 fun y C2 => dPairs r s C2 fun ps C3 => Q ((x, y) :: ps) C3
def RepP (K : PySem.W.Frag) (H : Hp) : List (D × D) → List (V × V) → Prop := Paired fun p q => Rep K H p.1 q.1 ∧ Rep K H p.2 q.2
structure JPs (X : Cx) (B : Bs) (pos : Pos) (keys : List (Option Expr)) (values : List Expr) (trs : List (DE × DE)) : Prop where
  run : ∀ (pins : List (Addr × Obj)) (s : Shared) (σ : L2.St) (H : Hp) (sl : Sl) (C : Cp) (Qd : List (D × D) → Cp → Prop), L2.Inv X pins σ H s → RepS X.K H sl σ → Rl X.K B H C → dPairs trs sl C Qd →
    wpAny (model X.prog X.w) X.A (evalPairs (pairTrees keys values X.env pos)) (fun vs s' => ∃ ps ds H' C', L2.Inv X pins σ H' s' ∧ VV ps vs ∧ RepP X.K H' ds ps ∧ Stp H C H' C' ∧ Rl X.K B H' C' ∧ Qd ds C') X.xe s
theorem jps_nil : JPs X B pos [] [] [] := ⟨fun pins s σ H sl C Qd I rs rl h => pairTrees_nil_walk ⟨[], [], H, C, I, .nil, .nil, Stp.refl _ _, rl, h⟩⟩
theorem jps_cons {k v : Expr} {ks : List (Option Expr)} {vs : List Expr} {tk tv : DE} {trs : List (DE × DE)} (hk : JE X B k tk) (hv : JE X B v tv) (hr : JPs X B pos ks vs trs) : JPs X B pos (some k :: ks) (v :: vs) ((tk, tv) :: trs) := ⟨fun pins s σ H sl C Qd I rs rl h =>
  pairTrees_cons_walk (thn (hk.run pins s σ H (fun x H1 => ∃ d C1, Stp H C H1 C1 ∧ Rl X.K B H1 C1 ∧ Rep X.K H1 d x ∧ tv sl C1 fun y C2 => dPairs trs sl C2 fun ps C3 => Qd ((d, y) :: ps) C3) I ⟨sl, C, _, rs, rl, h, fun v d H' C' st rl' r q => ⟨d, C', st, rl', r, q⟩⟩) fun u s1 ⟨x, H1, I1, rx, dx, C1, st1, rl1, r1, q1⟩ =>
    thn (hv.run pins s1 σ H1 (fun y H2 => ∃ d C2, Stp H1 C1 H2 C2 ∧ Rl X.K B H2 C2 ∧ Rep X.K H2 d y ∧ dPairs trs sl C2 fun ps C3 => Qd ((dx, d) :: ps) C3) I1 ⟨sl, C1, _, rs.mono st1.tx, rl1, q1, fun v d H' C' st rl' r q => ⟨d, C', st, rl', r, q⟩⟩) fun w s2 ⟨y, H2, I2, ry, dy, C2, st2, rl2, r2, q2⟩ =>
      thn (hr.run pins s2 σ H2 sl C2 _ I2 (rs.mono (st1.trans st2).tx) rl2 q2) fun ws s3 ⟨ps, ds, H3, C3, I3, rel, rp, st3, rl3, q3⟩ =>
        ⟨(x, y) :: ps, (dx, dy) :: ds, H3, C3, I3, .cons ⟨rx, ry⟩ rel, .cons ⟨r1.mono (st2.trans st3).tx, r2.mono st3.tx⟩ rp, (st1.trans st2).trans st3, rl3, q3⟩)⟩
def mergeA (acc more : List (DKey × D)) : List (DKey × D) := more.foldl (fun acc kv => putA acc kv.1 kv.2) acc
theorem repK_merge {H : Hp} : ∀ {more : List (DKey × D)} {ws : List (Key × V)} {acc : List (DKey × D)} {aw : List (Key × V)}, RepK keyOf X.K H more ws → RepK keyOf X.K H acc aw → RepK keyOf X.K H (mergeA acc more) (mergeK aw ws) := by
  intro more ws acc aw q
  unfold RepK at q
  induction q generalizing acc aw with
  | nil => intro r; exact r
  | @cons p x ps xs r t ih =>
    intro r0
    have e := repK_put r0 p.1 r.2
    rw [r.1] at e
    exact ih e
theorem repP_keys {H : Hp} : ∀ {kvs : List (DKey × D)} {ps : List (V × V)}, RepP X.K H (kvs.map fun kv => (keyD kv.1, kv.2)) ps → ∃ ws : List (Key × V), ps = ws.map (fun kv => (kV kv.1, kv.2)) ∧ RepK keyOf X.K H kvs ws
  | [], _, h => by cases h; exact ⟨[], rfl, .nil⟩
  | (k, d) :: kvs, _, h => by
    cases h with
    | @cons _ q _ qs h t =>
      obtain ⟨ws, e, r⟩ := repP_keys t
      obtain ⟨q1, q2⟩ := q
      obtain ⟨h1, h2⟩ := h
      have := keyD_val h1
      dsimp only at this
      subst this
      exact ⟨(keyOf k, q2) :: ws, by rw [e]; rfl, .cons ⟨rfl, h2⟩ r⟩
def dDisp (trs : List (DE × DE)) : DE := fun s C Q => dPairs trs s C fun ps C2 => ∃ kvs : List (DKey × D), ps = kvs.map (fun kv => (keyD kv.1, kv.2)) ∧ kvs.length ≤ 15 ∧ ∀ p, C2 p = none → Q (.ptr p) (up C2 p (.dk (mergeA [] kvs)))
theorem j_disp {keys : List (Option Expr)} {values : List Expr} {trs : List (DE × DE)} (h : JPs X B pos keys values trs) (hall : keys.all (·.isSome) = true := by rfl) (hl : keys.length = values.length := by rfl) (h0 : keys ≠ [] := by exact List.cons_ne_nil _ _)
    (h15 : keys.length ≤ 15 := by decide) : JE X B (.Dict keys values pos) (dDisp trs) := by
  refine ⟨fun pins s σ H Q I q => ?_⟩
  obtain ⟨sl, C, Qd, rs, rl, q, k⟩ := q
  have hn := I.hok.fresh (Nat.le_refl s.heap.objs.size)
  have cn : C s.heap.objs.size = none := rl.fresh hn
  have I1 := I.laid (a := s.heap.objs.size) (o := .dK []) (h' := s.heap.push { cls := .type "dict", data := .dict #[] }) (t' := s.toks) (fun _ _ q => Heap.get?_push_of_some _ q) (Nat.le_refl _) (dk_empty s.heap I.big)
  have s0 : Stp H C (upd H s.heap.objs.size (.dK [])) C := stp_more hn
  refine wpAny_Dict_walk (knd := mixKind X.prog X.w) hall hl h0 h15 (thn (h.run pins _ σ _ sl C _ I1 (rs.mono s0.tx) (rl.more hn) q) fun ws s2 ⟨ps, ds, H2, C2, I2, rel, rp, st2, rl2, kvs, ed, hk15, q2⟩ => ?_)
  subst ed
  obtain ⟨e, n2⟩ := st2.hid _ _ upd_same cn
  obtain ⟨kws, ep, rk0⟩ := repP_keys rp
  subst ep
  obtain ⟨rs2, c, rk⟩ := carries_of (P := X.prog) (w := X.w) rel
  obtain ⟨z, hd, vs0, r0, dd⟩ := dk_of I2.hok e
  cases r0
  refine ⟨rs2, c, dd, fun h' dd' hs => ?_⟩
  have hz : (mergeK [] kws).length ≤ sizeLine := by
    have h1 := length_mergeK kws []
    have h2 := Paired.length rk0
    rw [List.length_nil] at h1
    rw [sizeLine_eq]; omega
  have he : ∃ q, h'.get? s.heap.objs.size = some q := let ⟨q, _, _, hq, _⟩ := dd'; ⟨q, hq⟩
  have nf : ¬ Frz (H2 s.heap.objs.size) := by rw [e]; exact id
  have s1 : Stp H C (upd H2 s.heap.objs.size (.dK (mergeK [] kws))) (up C2 s.heap.objs.size (.dk (mergeA [] kvs))) := by
    have a := stp_hid (o := .dK (mergeK [] kws)) (Stp.refl H C) hn (s0.trans st2) nf
    refine ⟨a.tx, fun p u e n => ?_⟩
    obtain ⟨a1, a2⟩ := a.hid p u e n
    exact ⟨a1, by rw [up_ne (ne_of_none e hn)]; exact a2⟩
  refine ⟨.ref s.heap.objs.size, _, d_write I2 (by rw [e]; exact True.intro) hs he (dk_new hz hd (rk.merge .nil) dd'), rfl, k _ (.ptr s.heap.objs.size) _ (up C2 s.heap.objs.size (.dk (mergeA [] kvs))) s1 ⟨rl.st.trans s1, fun p c e2 => ?_, ti_upd rl2.ti⟩ rfl (q2 _ n2)⟩
  by_cases hp : p = s.heap.objs.size
  · subst hp
    rw [up_same] at e2
    cases e2
    exact ⟨_, upd_same, (repK_merge rk0 (.nil)).mono (tx_upd nf)⟩
  · rw [up_ne hp] at e2
    exact (rl2.ok p c e2).keep (tx_upd nf) (upd_ne hp)
end
end KB

/-! KB12: choices of readings; list(..) of texts and dicts. -/
namespace KB
open PySem PySem.Spec PyProof.Rows SeqAt
open L2 hiding op_eqD op_neD
section
variable {X : Cx} {B : Bs} {pos apos tpos : Pos} {tg o i e f value a b c : Expr} {es : List Expr} {to ti te tf tv ta tb : DE} {tr : DA} {sa sb : DI} {st : Stmt} {tS uS : DS}
/-- one of two readings -/
def dAlt (t u : DE) : DE := fun s C Q => t s C Q ∨ u s C Q
theorem j_alt (h1 : JE X B e ta) (h2 : JE X B e tb) : JE X B e (dAlt ta tb) := ⟨fun pins s σ H Q I h => by
  obtain ⟨sl, C, Qd, rs, rl, h | h, k⟩ := h
  · exact h1.run pins s σ H Q I ⟨sl, C, Qd, rs, rl, h, k⟩
  · exact h2.run pins s σ H Q I ⟨sl, C, Qd, rs, rl, h, k⟩⟩
def dAltI (t u : DI) : DI := fun s C Q => t s C Q ∨ u s C Q
theorem ji_alt (h1 : JI X B tg e sa) (h2 : JI X B tg e sb) : JI X B tg e (dAltI sa sb) := ⟨fun pins s σ H Q I h => by
  obtain ⟨sl, C, Qd, rs, rl, h | h, k⟩ := h
  · exact h1.run pins s σ H Q I ⟨sl, C, Qd, rs, rl, h, k⟩
  · exact h2.run pins s σ H Q I ⟨sl, C, Qd, rs, rl, h, k⟩⟩
def dAltS (t u : DS) : DS := fun D s C => t D s C ∨ u D s C
theorem js_alt (h1 : JS X B st tS) (h2 : JS X B st uS) : JS X B st (dAltS tS uS) := ⟨fun pins s σ H D I h => by
  obtain ⟨sl, C, Qd, rs, rl, h | h, k⟩ := h
  · exact h1.run pins s σ H D I ⟨sl, C, Qd, rs, rl, h, k⟩
  · exact h2.run pins s σ H D I ⟨sl, C, Qd, rs, rl, h, k⟩⟩
def altR (r r' : List D → Cp → DQ → Prop) : List D → Cp → DQ → Prop := fun ds C Q => r ds C Q ∨ r' ds C Q
theorem call_alt {f : Value} {r r' : List D → Cp → DQ → Prop} (h1 : CallD X B f r) (h2 : CallD X B f r') : CallD X B f (altR r r') := by
  intro pins s σ H xs us Q I rx h
  obtain ⟨ds, C, Qd, rr, rl, h | h, k⟩ := h
  · exact h1 pins s σ H xs us Q I rx ⟨ds, C, Qd, rr, rl, h, k⟩
  · exact h2 pins s σ H xs us Q I rx ⟨ds, C, Qd, rr, rl, h, k⟩
def alt2R (r r' : D → D → Cp → DQ → Prop) : D → D → Cp → DQ → Prop := fun x y C Q => r x y C Q ∨ r' x y C Q
theorem op_alt {f : Value → Value → Sem Value} {r r' : D → D → Cp → DQ → Prop} (h1 : OpD X B f r) (h2 : OpD X B f r') : OpD X B f (alt2R r r') := by
  intro pins s σ H x y v u Q I rx ry h
  obtain ⟨dx, dy, C, Qd, a, b, rl, h | h, k⟩ := h
  · exact h1 pins s σ H x y v u Q I rx ry ⟨dx, dy, C, Qd, a, b, rl, h, k⟩
  · exact h2 pins s σ H x y v u Q I rx ry ⟨dx, dy, C, Qd, a, b, rl, h, k⟩
def listSR : List D → Cp → DQ → Prop := fun ds C Q => ∃ l, ds = [.str l] ∧ l.length ≤ sizeLine ∧ ∀ p, C p = none → Q (.ptr p) (up C p (.lst (l.map fun c => .str [c])))
def listKR : List D → Cp → DQ → Prop := fun ds C Q => ∃ p kvs, ds = [.ptr p] ∧ C p = some (.dk kvs) ∧ ∀ q, C q = none → Q (.ptr q) (up C q (.lst (kvs.map fun kv => keyD kv.1)))
theorem call_listKD (hc : X.calm = true) : CallD X B (.type "list") listKR := by
  intro pins s σ H xs us Q I rx h
  obtain ⟨ds, C, Qd, r, rl, ⟨p, kvs, e, hl, h⟩, k⟩ := h
  subst e
  obtain ⟨v, r2, rfl, hv, hn⟩ := r
  cases hn; cases hv
  obtain ⟨ws, e1, q⟩ := rl.ok _ _ hl
  refine L2.call_listD hc pins s σ H _ us Q I rx ⟨p, ws, rfl, .inl e1, fun l hn => ?_⟩
  have e2 := repK_keys q
  have hr : Reps X.K H (kvs.map fun kv => keyD kv.1) (ws.map fun kv => kV kv.1) := by
    have := keyDs_rep (K := X.K) (H := H) (kvs.map (·.1))
    rw [List.map_map, List.map_map] at this
    have e3 := congrArg (List.map kV) e2
    rw [List.map_map, List.map_map] at e3
    have e4 : (ws.map fun kv => kV kv.1) = (kvs.map (·.1)).map (kV ∘ keyOf) := by rw [List.map_map]; exact e3.symm
    rw [e4]
    exact this
  obtain ⟨a1, a2⟩ := rl.newL hn hr
  exact k _ _ _ _ a1 a2 (repP l) (h l (rl.fresh hn))
theorem call_listSD (hc : X.calm = true) : CallD X B (.type "list") listSR := by
  intro pins s σ H xs us Q I rx h
  obtain ⟨ds, C, Qd, r, rl, ⟨l, e, hl, h⟩, k⟩ := h
  subst e
  obtain ⟨v, r2, rfl, hv, hn⟩ := r
  cases hn; cases hv
  obtain ⟨u, rfl, ru⟩ := vals1 rx
  obtain ⟨t, rfl⟩ := ru
  refine call_list_str (I.ok.hd hc) ⟨l.toArray⟩ t (fun h' tk acc c' hk hS hi => ?_) (by simpa using hl)
  have hf : H s.heap.objs.size = none := I.hok.fresh (Nat.le_refl _)
  obtain ⟨vs, g1, g2⟩ := reps_of_at (K := X.K) (H := H) (ds := l.map fun c => D.str [c]) (us := acc.toList) (by rw [Array.length_toList, hi.1]; simp) fun j u e => by
    obtain ⟨c, t2, hc, hu⟩ := hi.2 j u (by rw [← Array.getElem?_toList]; exact e)
    refine ⟨.str [c], .str ⟨#[c]⟩, ?_, rfl, t2, hu⟩
    have hc : l.toArray[j]? = some c := hc
    simp at hc
    simp [hc]
  have hlen : vs.length ≤ sizeLine := by
    rw [← g1.length, List.length_map]
    exact hl
  obtain ⟨a1, a2⟩ := rl.newL hf g1
  exact ⟨.ref s.heap.objs.size, _, I.laid (a := s.heap.objs.size) (o := .lst vs) (t' := tk) hk (Nat.le_refl _) (show ObjOk X.prog X.w _ _ _ (.lst vs) from ⟨hlen, acc.toList, c', g2, by rw [Array.toArray_toList]; exact hS⟩), rfl, k _ _ _ _ a1 a2 (repP _) (h _ (rl.fresh hf))⟩
end
end KB

/-! KB13: room, the law's start, len of a dict. -/
namespace KB
open PySem PySem.Spec PyProof.Rows SeqAt
open L2 hiding op_eqD op_neD
theorem room20 {k : Nat} {A : Around} (r : RoomG k A) : A.units + 20 < cLine := by have := r.un; omega
theorem room70 {k : Nat} {A : Around} (r : RoomG k A) : A.units + 70 < cLine := by have := r.un; omega
theorem room80 {k : Nat} {A : Around} (r : RoomG k A) : A.units + 80 < cLine := by have := r.un; omega
def noLists (K : PySem.W.Frag) : Bool := K.all fun p => match p.2.cls with | .type n => n != "list" | _ => true
theorem lookup_mem {K : List (Addr × Obj)} {a : Addr} {o : Obj} (h : K.lookup a = some o) : (a, o) ∈ K := by
  induction K with
  | nil => cases h
  | cons p r ih =>
    obtain ⟨b, q⟩ := p
    rw [List.lookup_cons] at h
    split at h
    · rename_i e
      have e1 : a = b := by simpa using e
      cases h
      rw [e1]
      exact List.mem_cons_self
    · exact List.mem_cons_of_mem _ (ih h)
theorem reps_ints {K : PySem.W.Frag} {H : Hp} : ∀ ns : List Int, Reps K H (ns.map D.int) (ns.map V.int)
  | [] => rfl
  | _ :: r => .cons rfl (reps_ints r)
theorem only_ti {H : Hp} (h : Only H) : ∀ p o, H p = some o → TFo o := fun p o e => by
  rcases h p with z | ⟨ob, xs, z⟩
  · rw [z] at e; cases e
  · rw [z] at e; cases e; trivial
theorem law_start {P : Program} {w : World} {K : PySem.W.Frag} {F : DSp} {H : Hp} {a : Addr} {ns : List Int} {n : Nat} (h : ∀ (a : Addr) (ns : List Int) (c : Cell), ns.length ≤ n → (c = .lst (ns.map D.int) ∨ c = .fz (ns.map D.int)) → F [.ptr a] (up (fun _ => none) a c) (fun d _ => d = .bl true) fun _ _ => False)
    (hK : noLists K = true) (hO : Only H) (hl : ns.length ≤ n) (hS : SqL K H a (ns.map V.int)) : lSp P w K 1 F [.ref a] H (fun v _ => v = .bl true) fun _ _ _ => False := by
  have fin : ∀ c : Cell, (c = .lst (ns.map D.int) ∨ c = .fz (ns.map D.int)) → CellOk P w K H a c → lSp P w K 1 F [.ref a] H (fun v _ => v = .bl true) fun _ _ _ => False := fun c hc ok => by
    refine ⟨rfl, [.ptr a], up (fun _ => none) a c, _, .cons rfl .nil, ⟨fun p c' e => ?_, only_ti hO⟩, h a ns c hl hc, fun v d H' C' _ _ r q => ?_⟩
    · by_cases hp : p = a
      · subst hp
        rw [up_same] at e
        cases e
        exact ok
      · rw [up_ne hp] at e
        cases e
    · have q : d = .bl true := q
      subst q
      exact r
  rcases hS with (e | ⟨o, e⟩) | ⟨o, its, k, e, hc, _⟩
  · exact fin _ (.inl rfl) ⟨_, e, reps_ints ns⟩
  · exact fin _ (.inr rfl) ⟨_, _, e, reps_ints ns⟩
  · have := List.all_eq_true.mp hK _ (lookup_mem e)
    simp only [hc] at this
    exact absurd this (by decide)
theorem bt_range : bootBuiltins "range" = some (.type "range") := by decide +kernel
theorem bt_list : bootBuiltins "list" = some (.type "list") := by decide +kernel
theorem bt_tuple : bootBuiltins "tuple" = some (.type "tuple") := by decide +kernel
theorem bt_int : bootBuiltins "int" = some (.type "int") := by decide +kernel
theorem bt_dict : bootBuiltins "dict" = some (.type "dict") := by decide +kernel
theorem bt_set : bootBuiltins "set" = some (.type "set") := by decide +kernel
theorem bt_str : bootBuiltins "str" = some (.type "str") := by decide +kernel
theorem bt_bool : bootBuiltins "bool" = some (.type "bool") := by decide +kernel
theorem bt_abs : bootBuiltins "abs" = some (.builtin "abs") := by decide +kernel
theorem bt_sorted : bootBuiltins "sorted" = some (.builtin "sorted") := by decide +kernel
theorem bt_isinstance : bootBuiltins "isinstance" = some (.builtin "isinstance") := by decide +kernel
theorem bt_max : bootBuiltins "max" = some (.builtin "max") := by decide +kernel
theorem bt_min : bootBuiltins "min" = some (.builtin "min") := by decide +kernel
theorem bt_any : bootBuiltins "any" = some (.builtin "any") := by decide +kernel
theorem bt_all : bootBuiltins "all" = some (.builtin "all") := by decide +kernel
theorem bt_len : bootBuiltins "len" = some (.builtin "len") := by decide +kernel
theorem bt_repr : bootBuiltins "repr" = some (.builtin "repr") := by decide +kernel
theorem bt_sum : bootBuiltins "sum" = some (.builtin "sum") := by decide +kernel
end KB

/-! KB14: readings run by hand: one step a lemma. -/
namespace KB
open PySem PySem.Spec PyProof.Rows
open L2 hiding op_eqD op_neD call_listD
section
variable {C : Cp} {Q : DQ} {p q : Addr} {i : Int} {d v y : D} {xs ys : List D}
theorem eqR_ii {n : Bool} {a b : Int} : eqR n (.int a) (.int b) C Q = Q (.bl (if n then !(a == b) else a == b)) C := by
  unfold eqR okEq npt dep eqD
  simp
theorem eqR_ss {n : Bool} {a b : List Nat} : eqR n (.str a) (.str b) C Q = Q (.bl (if n then !(a == b) else a == b)) C := by
  unfold eqR okEq npt dep eqD
  simp
theorem eqR_tt {n : Bool} {a b : List D} : eqR n (.tup a) (.tup b) C Q = (okEq (.tup a) ∧ npt (.tup b) = true ∧ Q (.bl (if n then !(eqD (.tup a) (.tup b)) else eqD (.tup a) (.tup b))) C) := rfl
theorem eqR_bb {n a b : Bool} : eqR n (.bl a) (.bl b) C Q = Q (.bl (if n then !(a == b) else a == b)) C := by
  unfold eqR okEq npt dep eqD
  simp
theorem eqR_ns {n : Bool} {b : List Nat} : eqR n .non (.str b) C Q = Q (.bl n) C := by
  unfold eqR okEq npt dep eqD
  cases n <;> simp
theorem eqR_pp {n : Bool} (h1 : isL C p xs) (h2 : isL C q ys) (ok : okEqs xs) (ok2 : npts ys = true) (k : Q (.bl (if n then !eqDs xs ys else eqDs xs ys)) C) : eqR n (.ptr p) (.ptr q) C Q := ⟨xs, ys, h1, h2, ok, ok2, k⟩
theorem ix_l (h : isL C p xs) (e : atI xs i = some d) (k : Q d C) : ixD (.ptr p) (.int i) C Q := ⟨xs, d, h, e, k⟩
theorem ix_n {j : Nat} (h : isL C p xs) (e : xs[j]? = some d) (k : Q d C) : ixD (.ptr p) (.int j) C Q := ⟨xs, d, h, atI_nat e, k⟩
theorem ix_tn {j : Nat} (e : xs[j]? = some d) (k : Q d C) : ixD (.tup xs) (.int j) C Q := ⟨d, atI_nat e, k⟩
theorem ix_sn {j : Nat} {l : List Nat} {c : Nat} (z : l.length ≤ sizeLine) (e : l[j]? = some c) (k : Q (.str [c]) C) : ixD (.str l) (.int j) C Q := ⟨z, c, atI_nat e, k⟩
theorem set_l {j : Nat} {R : Cp → Prop} (h : C p = some (.lst xs)) (e : ixN xs.length i = some j) (k : R (up C p (.lst (xs.set j v)))) : setR (.ptr p) (.int i) v C R := ⟨p, _, rfl, .inl ⟨xs, i, j, h, rfl, e, rfl⟩, k⟩
theorem len_l (h : isL C p xs) (k : Q (.int (xs.length : Int)) C) : lenR [.ptr p] C Q := ⟨.ptr p, xs.length, rfl, ⟨xs, h, rfl⟩, k⟩
theorem len_t (k : Q (.int (xs.length : Int)) C) : lenR [.tup xs] C Q := ⟨.tup xs, xs.length, rfl, rfl, k⟩
theorem len_s {l : List Nat} (z : l.length ≤ sizeLine) (k : Q (.int (l.length : Int)) C) : lenR [.str l] C Q := ⟨.str l, l.length, rfl, ⟨z, rfl⟩, k⟩
theorem abs_ii {a : Int} : absR [.int a] C Q = Q (.int (if a < 0 then -a else a)) C := by
  unfold absR
  simp
theorem max_ii {a b : Int} : max2R [.int a, .int b] C Q = Q (.int (if b > a then b else a)) C := by
  unfold max2R
  refine propext ⟨?_, fun h => ⟨a, b, rfl, h⟩⟩
  rintro ⟨i, j, e, h⟩
  cases e
  exact h
theorem min_ii {a b : Int} : min2R [.int a, .int b] C Q = Q (.int (if b < a then b else a)) C := by
  unfold min2R
  refine propext ⟨?_, fun h => ⟨a, b, rfl, h⟩⟩
  rintro ⟨i, j, e, h⟩
  cases e
  exact h
theorem app_l (h : C p = some (.lst xs)) (z : xs.length < sizeLine) (k : Q .non (up C p (.lst (xs ++ [y])))) : appendR (.ptr p) [y] C Q := ⟨p, xs, y, rfl, rfl, h, z, k⟩
theorem popAt_n {j : Nat} (h : C p = some (.lst xs)) (e : xs[j]? = some d) (z : xs.length ≤ sizeLine) (k : Q d (up C p (.lst (xs.eraseIdx j)))) : popAtR (.ptr p) [.int j] C Q := by
  have hj : j < xs.length := (List.getElem?_eq_some_iff.mp e).1
  have := line63
  refine ⟨p, xs, j, j, d, rfl, rfl, h, by omega, by omega, ?_, e, k⟩
  exact (ixN_seq (show ixN xs.length (j : Int) = some j by
    unfold ixN
    rw [if_pos (by omega), if_pos (by omega)]; simp)).1
theorem tyL (h : isL C p xs) : tyD C "list" (.ptr p) := .inl ⟨rfl, xs, h⟩
theorem list_l (h : itemsD C d xs) (k : ∀ p, C p = none → Q (.ptr p) (up C p (.lst xs))) : listR [d] C Q := ⟨d, xs, rfl, h, k⟩
theorem tuple_l (h : itemsD C d xs) (k : Q (.tup xs) C) : tupleR [d] C Q := ⟨d, xs, rfl, h, k⟩
theorem sorted_l (h : collD C d xs) (o : SortOk xs) (k : ∀ p, C p = none → Q (.ptr p) (up C p (.lst (xs.mergeSort leP)))) : sortedR [d] C Q := ⟨d, xs, rfl, h, o, k⟩
theorem ex2 {α β : Type} {a : α} {b : β} {R : α → β → Prop} : (∃ v w, (a = v ∧ b = w) ∧ R v w) = R a b := propext ⟨fun ⟨_, _, ⟨e, f⟩, h⟩ => by subst e f; exact h, fun h => ⟨a, b, ⟨rfl, rfl⟩, h⟩⟩
theorem ex3 {α β γ : Type} {a : α} {b : β} {c : γ} {R : α → β → γ → Prop} : (∃ u v w, (a = u ∧ b = v ∧ c = w) ∧ R u v w) = R a b c := propext ⟨fun ⟨_, _, _, ⟨e, f, g⟩, h⟩ => by subst e f g; exact h, fun h => ⟨a, b, c, ⟨rfl, rfl, rfl⟩, h⟩⟩
theorem addD_ii {a b : Int} : addD (.int a) (.int b) C Q = Q (.int (a + b)) C := rfl
theorem addD_ss {a b : List Nat} : addD (.str a) (.str b) C Q = (a.length + b.length ≤ sizeLine ∧ Q (.str (a ++ b)) C) := rfl
theorem addD_tt {a b : List D} : addD (.tup a) (.tup b) C Q = (a.length + b.length ≤ sizeLine ∧ Q (.tup (a ++ b)) C) := rfl
theorem subD_ii {a b : Int} : subD (.int a) (.int b) C Q = Q (.int (a - b)) C := rfl
theorem mulD_ii {a b : Int} : mulD (.int a) (.int b) C Q = (CMulW a b ∧ Q (.int (a * b)) C) := rfl
theorem modD_ii {a b : Int} : modD (.int a) (.int b) C Q = (0 < b ∧ Q (.int (a % b)) C) := rfl
theorem fdivD_ii {a b : Int} : fdivD (.int a) (.int b) C Q = (CDivW a b ∧ Q (.int (a / b)) C) := rfl
theorem powD_ii {a b : Int} : powD (.int a) (.int b) C Q = (CPow a b ∧ Q (.int (a ^ b.toNat)) C) := rfl
theorem ltD_ii {a b : Int} : ltD (.int a) (.int b) C Q = Q (.bl (decide (a < b))) C := rfl
theorem leD_ii {a b : Int} : leD (.int a) (.int b) C Q = Q (.bl (decide (a ≤ b))) C := rfl
theorem gtD_ii {a b : Int} : gtD (.int a) (.int b) C Q = Q (.bl (decide (b < a))) C := rfl
theorem geD_ii {a b : Int} : geD (.int a) (.int b) C Q = Q (.bl (decide (b ≤ a))) C := rfl
theorem ltD_ss {a b : List Nat} : ltD (.str a) (.str b) C Q = Q (.bl (decide (a < b))) C := rfl
theorem leD_ss {a b : List Nat} : leD (.str a) (.str b) C Q = Q (.bl (!decide (b < a))) C := rfl
theorem truD_b {a k : Bool} : truD C (.bl a) k = (k = a) := rfl
theorem slD_t {lo hi : Option Int} : slD (.tup xs) lo hi C Q = Q (.tup (cutL xs lo hi)) C := rfl
theorem slD_s {l : List Nat} {lo hi : Option Int} : slD (.str l) lo hi C Q = (l.length ≤ sizeLine ∧ Q (.str (cutL l lo hi)) C) := rfl
theorem sl_l {lo hi : Option Int} (h : isL C p xs) (k : ∀ q, C q = none → Q (.ptr q) (up C q (.lst (cutL xs lo hi)))) : slD (.ptr p) lo hi C Q := ⟨xs, h, k⟩
theorem pop_l (h : C p = some (.lst xs)) (e : xs[xs.length - 1]? = some d) (k : Q d (up C p (.lst xs.dropLast))) : popR (.ptr p) [] C Q := ⟨p, xs, d, rfl, rfl, h, e, k⟩
theorem inR_l {n : Bool} (h : isL C p xs) (a : npt d = true) (b : okEqs xs) (k : Q (.bl (if n then !memD xs d else memD xs d)) C) : inR n d (.ptr p) C Q := ⟨xs, h, a, b, k⟩
theorem inR_t {n : Bool} : inR n d (.tup xs) C Q = (npt d = true ∧ okEqs xs ∧ Q (.bl (if n then !memD xs d else memD xs d)) C) := by
  cases d <;> rfl
theorem listS_l {l : List Nat} (z : l.length ≤ sizeLine) (k : ∀ p, C p = none → Q (.ptr p) (up C p (.lst (l.map fun c => .str [c])))) : listSR [.str l] C Q := ⟨l, rfl, z, k⟩
theorem isL_same {c : Cell} (h : c = .lst xs ∨ c = .fz xs) : isL (up C p c) p xs := by
  rcases h with h | h
  · subst h; exact .inl up_same
  · subst h; exact .inr up_same
/-- all but some places as it was -/
def Fr (S : Addr → Prop) (C C' : Cp) : Prop := ∀ r, ¬ S r → C' r = C r
theorem Fr.refl {S : Addr → Prop} (C : Cp) : Fr S C C := fun _ _ => rfl
theorem Fr.trans {S : Addr → Prop} {C C1 C2 : Cp} (a : Fr S C C1) (b : Fr S C1 C2) : Fr S C C2 := fun r h => (b r h).trans (a r h)
theorem Fr.up {S : Addr → Prop} {C C1 : Cp} {c : Cell} (a : Fr S C C1) (h : S p) : Fr S C (up C1 p c) := fun r hr => by
  rw [up_ne (fun e : r = p => hr (by rw [e]; exact h))]
  exact a r hr
theorem Fr.mono {S T : Addr → Prop} {C C1 : Cp} (a : Fr S C C1) (h : ∀ r, S r → T r) : Fr T C C1 := fun r hr => a r fun s => hr (h r s)
theorem sub_up {c : Cell} (h : C p = none) : Sub C (up C p c) := fun r c' e => by
  rw [up_ne (fun z => by subst z; rw [h] at e; cases e)]
  exact e
theorem sub_up2 {C C1 : Cp} {c : Cell} (s : Sub C C1) (h : C1 p = none) : Sub C (up C1 p c) := s.trans (sub_up h)
/-- what a store keeps when a new place is left out of it -/
theorem sub_both {C C1 : Cp} {c : Cell} (s : Sub C C1) : Sub (up C p c) (up C1 p c) := fun r c' e => by
  by_cases h : r = p
  · subst h
    rw [up_same] at e ⊢
    exact e
  · rw [up_ne h] at e ⊢
    exact s r c' e
end
end KB
namespace KB
open PySem PySem.Spec PyProof.Rows
open L2 hiding op_eqD op_neD call_listD
section
variable {C C1 C2 : Cp} {Q : DQ} {p q r : Addr} {i : Int} {d v y : D} {xs ys : List D} {S T : Addr → Prop} {c : Cell}
/-- x[y] of a dict -/
def getX (x y : D) (C : Cp) (Q : DQ) : Prop := ∃ p d, x = .ptr p ∧ gotD C p y (some d) ∧ Q d C
theorem dGetI_eq {to ti : DE} {s : Sl} : dGetI to ti s C Q = to s C fun x C1 => ti s C1 fun y C2 => getX x y C2 Q := rfl
theorem got_k {kvs : List (DKey × D)} {a : Addr} {k : DKey} {d : D} (h : C a = some (.dk kvs)) (e : lookA kvs k = some d) (z : Q d C) : getX (.ptr a) (keyD k) C Q := ⟨a, d, rfl, .inl ⟨kvs, k, h, rfl, e.symm⟩, z⟩
theorem got_g {kvs : List (D × D)} {a : Addr} {k d : D} (h : C a = some (.dg kvs)) (g : keyG k) (e : lookG kvs k = some d) (z : Q d C) : getX (.ptr a) k C Q := ⟨a, d, rfl, .inr (.inl ⟨kvs, h, g, e.symm⟩), z⟩
/-- all there is stays, but for some places; new things may stand beside -/
def Kp (S : Addr → Prop) (C C' : Cp) : Prop := ∀ r c, ¬ S r → C r = some c → C' r = some c
theorem Kp.refl (C : Cp) : Kp S C C := fun _ _ _ h => h
theorem Kp.trans (a : Kp S C C1) (b : Kp S C1 C2) : Kp S C C2 := fun r c h e => b r c h (a r c h e)
theorem Kp.new (a : Kp S C C1) (h : C1 p = none) : Kp S C (up C1 p c) := fun r c' hr e => by
  have e1 := a r c' hr e
  rw [up_ne (fun z : r = p => by subst z; rw [h] at e1; cases e1)]
  exact e1
theorem Kp.put (a : Kp S C C1) (h : S p) : Kp S C (up C1 p c) := fun r c' hr e => by
  rw [up_ne (fun z : r = p => hr (by rw [z]; exact h))]
  exact a r c' hr e
theorem Kp.mono (a : Kp S C C1) (h : ∀ r, S r → T r) : Kp T C C1 := fun r c hr e => a r c (fun s => hr (h r s)) e
theorem Kp.isL (a : Kp S C C1) (h : ¬ S p) (e : isL C p xs) : isL C1 p xs := e.elim (fun e => .inl (a _ _ h e)) fun e => .inr (a _ _ h e)
theorem Kp.ne (a : Kp S C C1) (h : C p = some c) (n : ¬ S p) (z : C1 q = none) : q ≠ p := fun e => by
  subst e
  rw [a _ _ n h] at z
  cases z
theorem ne_fresh (h : C p = some c) (z : C q = none) : q ≠ p := fun e => by
  subst e
  rw [h] at z
  cases z
theorem Fr.kp (a : Fr S C C1) : Kp S C C1 := fun r c h e => (a r h).trans e
theorem isL_up_ne (h : isL C p xs) (n : p ≠ r) : isL (up C r c) p xs := h.elim (fun e => .inl (by rw [up_ne n]; exact e)) fun e => .inr (by rw [up_ne n]; exact e)
theorem at_ne (h : C p = some c) {c' : Cell} (n : p ≠ r) : up C r c' p = some c := by rw [up_ne n]; exact h
theorem inKD {n : Bool} {kvs : List (DKey × D)} (h : C p = some (.dk kvs)) {k : DKey} (e : Q (.bl (if n then !(lookA kvs k).isSome else (lookA kvs k).isSome)) C) : inDR n (keyD k) (.ptr p) C Q := ⟨p, lookA kvs k, rfl, .inl ⟨kvs, k, h, rfl, rfl⟩, e⟩
theorem put_k {kvs : List (DKey × D)} {R : Cp → Prop} (h : C p = some (.dk kvs)) (k : DKey) (z : kvs.length < sizeLine) (e : R (up C p (.dk (putA kvs k v)))) : setR (.ptr p) (keyD k) v C R := ⟨p, _, rfl, .inr (.inl ⟨kvs, k, h, rfl, z, rfl⟩), e⟩
theorem put_g {kvs : List (D × D)} {R : Cp → Prop} (h : C p = some (.dg kvs)) (k : keyG y) (z : kvs.length < sizeLine) (e : R (up C p (.dg (putG kvs y v)))) : setR (.ptr p) y v C R := ⟨p, _, rfl, .inr (.inr (.inl ⟨kvs, h, k, z, rfl⟩)), e⟩
theorem rng_at {n i : Nat} {x : D} (e : (rngD 0 n)[i]? = some x) : i < n ∧ x = .int (i : Int) := by
  have hl : i < n := by
    have := (List.getElem?_eq_some_iff.mp e).1
    rw [rngD_len] at this
    exact this
  rw [rngD_get hl] at e
  have e := Option.some.inj e
  rw [Int.zero_add] at e
  exact ⟨hl, e.symm⟩
end
end KB

/-! KB15: facts of sorting; lists of texts. -/
namespace KB
open PySem PySem.Spec PyProof.Rows
open L2 hiding op_eqD op_neD call_listD
theorem leP_total : W.TotalLe leP := W.sortLe_total _ false _
theorem leP_anti {a b : D} (h1 : leP a b = true) (h2 : leP b a = true) : W.keyToks (toP a) = W.keyToks (toP b) := by
  have h1 : (!(PyProof.Rows.listOrd PyProof.Rows.itemOrd).blt (W.keyToks (toP b)) (W.keyToks (toP a))) = true := h1
  have h2 : (!(PyProof.Rows.listOrd PyProof.Rows.itemOrd).blt (W.keyToks (toP a)) (W.keyToks (toP b))) = true := h2
  rw [Bool.not_eq_true'] at h1 h2
  exact (PyProof.Rows.listOrd PyProof.Rows.itemOrd).total _ _ h2 h1
theorem sort_eq {xs ys : List D} (hp : xs.Perm ys) (inj : ∀ a ∈ xs, ∀ b ∈ xs, W.keyToks (toP a) = W.keyToks (toP b) → a = b) : xs.mergeSort leP = ys.mergeSort leP := by
  have tr : ∀ a b c, leP a b = true → leP b c = true → leP a c = true := leP_total.trans
  have to : ∀ a b, (leP a b || leP b a) = true := fun a b => by
    rcases leP_total.total a b with h | h <;> simp [h]
  refine List.Perm.eq_of_pairwise (le := fun a b => leP a b = true) (fun a b ha hb h1 h2 => ?_) (List.pairwise_mergeSort tr to xs) (List.pairwise_mergeSort tr to ys) ((List.mergeSort_perm xs leP).trans (hp.trans (List.mergeSort_perm ys leP).symm))
  exact inj a ((List.mergeSort_perm xs leP).mem_iff.mp ha) b (hp.mem_iff.mpr ((List.mergeSort_perm ys leP).mem_iff.mp hb)) (leP_anti h1 h2)
theorem perm_of {α : Type} : ∀ {xs ys : List α}, xs.Nodup → ys.Nodup → (∀ a, a ∈ xs ↔ a ∈ ys) → xs.Perm ys := by
  intro xs
  induction xs with
  | nil =>
    intro ys _ _ h
    cases ys with
    | nil => exact .nil
    | cons y r => exact absurd ((h y).mpr List.mem_cons_self) (by simp)
  | cons x r ih =>
    intro ys h1 h2 h
    obtain ⟨s, t, rfl⟩ := List.append_of_mem ((h x).mp List.mem_cons_self)
    have hn := List.nodup_cons.mp h1
    have h3 : (s ++ t).Nodup ∧ x ∉ s ++ t := by
      have := (List.perm_middle (a := x) (l₁ := s) (l₂ := t)).nodup_iff.mp h2
      exact ⟨(List.nodup_cons.mp this).2, (List.nodup_cons.mp this).1⟩
    refine .trans (.cons x (ih hn.2 h3.1 fun a => ?_)) List.perm_middle.symm
    constructor
    · intro ha
      have := (h a).mp (List.mem_cons_of_mem _ ha)
      rcases List.mem_append.mp this with q | q
      · exact List.mem_append_left _ q
      · rcases List.mem_cons.mp q with q | q
        · subst q; exact absurd ha hn.1
        · exact List.mem_append_right _ q
    · intro ha
      have : a ∈ x :: r := (h a).mpr (by
        rcases List.mem_append.mp ha with q | q
        · exact List.mem_append_left _ q
        · exact List.mem_append_right _ (List.mem_cons_of_mem _ q))
      rcases List.mem_cons.mp this with q | q
      · subst q; exact absurd ha h3.2
      · exact q
theorem strs_inj {xs : List (List Nat)} : ∀ a ∈ xs.map D.str, ∀ b ∈ xs.map D.str, W.keyToks (toP a) = W.keyToks (toP b) → a = b := by
  intro a ha b hb h
  obtain ⟨x, _, rfl⟩ := List.mem_map.mp ha
  obtain ⟨y, _, rfl⟩ := List.mem_map.mp hb
  simp only [toP, W.keyToks, List.cons.injEq, Sum.inr.injEq, and_true] at h
  rw [show x = y from h]
theorem nodup_len {α : Type} [DecidableEq α] : ∀ {xs ys : List α}, xs.Nodup → (∀ a ∈ xs, a ∈ ys) → xs.length ≤ ys.length := by
  intro xs
  induction xs with
  | nil => intro ys _ _; exact Nat.zero_le _
  | cons x r ih =>
    intro ys h1 h
    have hn := List.nodup_cons.mp h1
    have := ih (ys := ys.erase x) hn.2 fun a ha => (List.mem_erase_of_ne (fun e => hn.1 (by subst e; exact ha))).mpr (h a (List.mem_cons_of_mem _ ha))
    have h2 := List.length_erase_of_mem (h x List.mem_cons_self)
    have h3 : 0 < ys.length := List.length_pos_of_mem (h x List.mem_cons_self)
    rw [List.length_cons]
    omega
theorem sortOk_strs (xs : List (List Nat)) : SortOk (xs.map D.str) := by
  refine ⟨.inl ⟨fun a ha b hb => ?_, .inr fun d hd => ?_⟩, fun x hx => ?_⟩
  · obtain ⟨c, hc, rfl⟩ := List.mem_map.mp ha
    obtain ⟨e, he, rfl⟩ := List.mem_map.mp hb
    obtain ⟨x, _, rfl⟩ := List.mem_map.mp hc
    obtain ⟨y, _, rfl⟩ := List.mem_map.mp he
    rfl
  · obtain ⟨c, hc, rfl⟩ := List.mem_map.mp hd
    obtain ⟨x, _, rfl⟩ := List.mem_map.mp hc
    exact ⟨by simp [toP], fun xs => by simp [toP]⟩
  · obtain ⟨c, hc, rfl⟩ := List.mem_map.mp hx
    exact ⟨rfl, by unfold dep; omega⟩
theorem strs_img {xs : List D} {P : List Nat → Prop} (h : ∀ d ∈ xs, ∃ l, d = .str l ∧ P l) : ∃ ls : List (List Nat), xs = ls.map D.str ∧ ∀ l ∈ ls, P l := by
  induction xs with
  | nil => exact ⟨[], rfl, fun l h => by cases h⟩
  | cons x r ih =>
    obtain ⟨l, rfl, p⟩ := h x List.mem_cons_self
    obtain ⟨ls, rfl, q⟩ := ih fun d hd => h d (List.mem_cons_of_mem _ hd)
    refine ⟨l :: ls, rfl, fun z hz => ?_⟩
    rcases List.mem_cons.mp hz with e | e
    · subst e; exact p
    · exact q z e
theorem npts_strs (xs : List (List Nat)) : okEqs (xs.map D.str) := by
  induction xs with
  | nil => exact ⟨rfl, by decide⟩
  | cons x r ih =>
    obtain ⟨a, b⟩ := ih
    refine ⟨by rw [List.map_cons]; unfold npts npt; rw [a]; rfl, ?_⟩
    rw [List.map_cons]
    unfold deps dep
    omega
theorem memD_strs (xs : List (List Nat)) (x : List Nat) : memD (xs.map D.str) (.str x) = decide (x ∈ xs) := by
  unfold memD
  induction xs with
  | nil => simp
  | cons y r ih =>
    rw [List.map_cons, List.any_cons, ih]
    unfold eqD
    by_cases h : x = y
    · subst h; simp
    · have : (y == x) = false := by simpa using fun e : y = x => h e.symm
      rw [this]
      simp [h]
theorem any_map {α β : Type} (f : α → β) {xs : List β} {P : β → Prop} (hx : ∀ b ∈ xs, ∃ a, b = f a) : ∃ as : List α, xs = as.map f := by
  induction xs with
  | nil => exact ⟨[], rfl⟩
  | cons x r ih =>
    obtain ⟨a, rfl⟩ := hx x List.mem_cons_self
    obtain ⟨as, rfl⟩ := ih fun b hb => hx b (List.mem_cons_of_mem _ hb)
    exact ⟨a :: as, rfl⟩
/-! ### pairs of texts -/
abbrev Ed := List Nat × List Nat
def edD (e : Ed) : D := .tup [.str e.1, .str e.2]
theorem sortOk_eds (xs : List Ed) : SortOk (xs.map edD) := by
  refine ⟨.inl ⟨fun a ha b hb => ?_, .inl fun d hd => ?_⟩, fun x hx => ?_⟩
  · obtain ⟨c, hc, rfl⟩ := List.mem_map.mp ha
    obtain ⟨e, he, rfl⟩ := List.mem_map.mp hb
    obtain ⟨x, _, rfl⟩ := List.mem_map.mp hc
    obtain ⟨y, _, rfl⟩ := List.mem_map.mp he
    rfl
  · obtain ⟨c, hc, rfl⟩ := List.mem_map.mp hd
    obtain ⟨x, _, rfl⟩ := List.mem_map.mp hc
    exact ⟨_, rfl⟩
  · obtain ⟨c, hc, rfl⟩ := List.mem_map.mp hx
    exact ⟨rfl, by simp [edD, dep, deps]⟩
theorem keyG_ed (e : Ed) : keyG (edD e) := ⟨⟨_, rfl⟩, by simp [edD, nk, nks, NestedKey.depth, NestedKey.depthAll], rfl⟩
end KB

/-! KB16: from the def of the law to the head. -/
namespace KB
open PySem PySem.Spec PyProof.Rows
open L2 hiding op_eqD op_neD call_listD
theorem walk_kb {l : PySem.W.OpenLaw} {n k : Nat} {q : Program} {loose : List Str} {XP : (Str → Option Value) → Heap → Prop} {YP : World → Heap → Prop} {d : DefRec} {K : Params → PySem.W.Frag} {x : Str} {Fd : DSp}
    (hT : ∀ (a : Addr) (ns : List Int) (c : Cell), ns.length ≤ n → (c = .lst (ns.map D.int) ∨ c = .fz (ns.map D.int)) → Fd [.ptr a] (up (fun _ => none) a c) (fun d _ => d = .bl true) fun _ _ => False)
    (hn : l.most = some n) (hn2 : n ≤ sizeLine) (hdf : d.params.defaults = []) (hr : Room k callerA) (hY : ∀ (w : World) (h : Heap), YP w h → (K w.params).In h) (hK : ∀ w : World, noLists (K w.params) = true)
    (F : ∀ (w : World) (mg : Str → Option Value) (fa : Addr) (h : Heap), (K w.params).In h → h.Ns mainGlobals mg → mg d.name = some (.ref fa) →
      ∃ fd : FuncData, (∀ (s : Shared) (u : Value), BindsTo s fd ⟨[u], []⟩ [(x, u)]) ∧ ∀ base : Heap, (K w.params).In base → base.Ns mainGlobals mg → FnG l.prog w (K w.params) mg base CX0 k fa fd [x] (lSp l.prog w (K w.params) 1 Fd)) :
    PySem.W.WalkO q loose XP YP l.row.toRowW d [] (fun f vs => PySem.call f vs) :=
  walkG (X0 := fun _ => CX0) (sp := fun w => lSp l.prog w (K w.params) 1 Fd) hn hn2 hdf hr hY F (fun w H a ns hl hO hS => law_start hT (hK w) hO hl hS) fun _ _ _ _ _ z => z
end KB

/-! KB17: texts many times; strip; ranges as values. -/
namespace KB
open PySem PySem.Spec PyProof.Rows
open L2 hiding op_eqD op_neD call_listD
section
variable {X : Cx} {B : Bs} {pos : Pos}
def mulSD : D → D → Cp → DQ → Prop := fun x y C Q => ∃ (l : List Nat) (k : Int), x = .str l ∧ y = .int k ∧ -(2 ^ 62) ≤ k ∧ k < 2 ^ 62 ∧ l.length * k.toNat ≤ sizeLine ∧ Q (.str (List.replicate k.toNat l).flatten) C
theorem foldl_tl (x : Array Nat) : ∀ (n : Nat) (a : Array Nat), (List.foldl (· ++ ·) a (List.replicate n x)).toList = a.toList ++ (List.replicate n x.toList).flatten
  | 0, a => by simp
  | n + 1, a => by
    rw [List.replicate_succ, List.foldl_cons, foldl_tl x n, List.replicate_succ, List.flatten_cons, Array.toList_append, List.append_assoc]
theorem op_mulSD : OpD X B (binaryOp .Mult) mulSD := by
  intro pins s σ H x y v u Q I rx ry h
  obtain ⟨dx, dy, C, Qd, r1, r2, rl, ⟨l, k, ex, ey, h1, h2, h3, h⟩, kk⟩ := h
  subst ex ey
  cases r1; cases r2
  obtain ⟨t, rfl⟩ := rx
  obtain ⟨t', rfl⟩ := ry
  have fin : ∀ (z : Str) (tk : Tok) (n : Nat), z.cps.toList = (List.replicate k.toNat l).flatten → EP X pins σ Q (.str z tk) { s with toks := n } := fun z tk n e => by
    refine ⟨.str z, H, I.tok _, ⟨_, rfl⟩, kk _ (.str (List.replicate k.toNat l).flatten) H C (Stp.refl _ _) rl ?_ h⟩
    show V.str z = V.str _
    rw [← e]
  have hlen : (⟨l.toArray⟩ : Str).length = l.length := by simp [Str.length]
  refine P.mul_str (by rw [decide_eq_false (by omega), decide_eq_false (by omega)]; rfl) (fun a b => ?_) (fun a b => ?_) ?_
  · rw [hlen]
    have h4 : (l.length : Int) * k ≤ 2 ^ 63 - 1 := by
      have e1 : (k.toNat : Int) = k := Int.toNat_of_nonneg (by omega)
      have e2 : ((l.length * k.toNat : Nat) : Int) = (l.length : Int) * k := by rw [Int.natCast_mul, e1]
      rw [← e2]
      have := line63
      omega
    have := (Int.le_ediv_iff_mul_le (a := (l.length : Int)) (b := 2 ^ 63 - 1) (c := k) (by omega)).mpr h4
    omega
  · rw [hlen]
    unfold Builtin.Str.tooLong
    exact decide_eq_false (by omega)
  · by_cases a : k < 1
    · rw [if_pos a]
      refine ⟨by decide, fin _ _ _ ?_⟩
      have : k.toNat = 0 := by omega
      rw [this]; rfl
    · rw [if_neg a]
      by_cases b : (k == 1 || (⟨l.toArray⟩ : Str).length == 0) = true
      · rw [if_pos b]
        refine fin _ _ s.toks ?_
        rw [Bool.or_eq_true, beq_iff_eq, beq_iff_eq, hlen] at b
        rcases b with b | b
        · subst b
          simp
        · have : l = [] := List.length_eq_zero_iff.mp b
          subst this
          simp
      · rw [if_neg b]
        refine ⟨?_, fin _ _ _ (by rw [foldl_tl]; simp)⟩
        show (List.foldl (· ++ ·) #[] (List.replicate k.toNat l.toArray)).size ≤ sizeLine
        rw [← Array.length_toList, foldl_tl]
        simp
        rw [Nat.mul_comm]
        exact h3
/-! ### strip(z) -/
def stripL (l z : List Nat) : List Nat := TL.tl (Txt.stripChars ⟨l.toArray⟩ ⟨z.toArray⟩)
def stripR : D → List D → Cp → DQ → Prop := fun d ds C Q => ∃ l z, d = .str l ∧ ds = [.str z] ∧ l.length ≤ sizeLine ∧ Q (.str (stripL l z)) C
theorem mt_stripD : MtD X B "str.strip" stripR := by
  intro pins s σ H x xs v us Q I rx rs h
  obtain ⟨d, ds, C, Qd, r1, r2, rl, ⟨l, z, ed, eds, hz, h⟩, k⟩ := h
  subst ed eds
  cases r1
  obtain ⟨w, r3, rfl, hw, hn⟩ := r2
  cases hn; cases hw
  refine mt_stripChars pins s σ H _ _ v us Q I rx rs ⟨_, _, rfl, rfl, by simpa [Str.length] using hz, k _ (.str (stripL l z)) H C (Stp.refl _ _) rl ?_ h⟩
  show V.str _ = V.str _
  congr 1
/-! ### range(a, b), k in it -/
def RngO (p : Addr) (a b : Int) : HO := .ext fun h => ∃ t u v, IsRange h p a b 1 t u v
def rangeR : List D → Cp → DQ → Prop := fun ds C Q => ∃ i j, ds = [.int i, .int j] ∧ ∀ p, C p = none → Q (.ptr p) (up C p (.raw (RngO p i j)))
theorem call_rangeD : CallD X B (.type "range") rangeR := by
  intro pins s σ H xs us Q I rx h
  obtain ⟨ds, C, Qd, r, rl, ⟨i, j, e, h⟩, k⟩ := h
  subst e
  obtain ⟨v, r2, rfl, hv, w, r3, rfl, hw, hn⟩ := r
  cases hn; cases hv; cases hw
  obtain ⟨u1, u2, rfl, b1, b2⟩ := vals2 rx
  obtain ⟨t, rfl⟩ := b1
  obtain ⟨t', rfl⟩ := b2
  have hf : H s.heap.objs.size = none := I.hok.fresh (Nat.le_refl _)
  refine call_range_2 ⟨.ref s.heap.objs.size, _, I.laid (a := s.heap.objs.size) (o := RngO s.heap.objs.size i j) (t' := s.toks + 1) (fun _ _ q => Heap.get?_push_of_some _ q) (Nat.le_refl _) ?_, rfl, ?_⟩
  · exact ⟨⟨t, t', s.toks, Heap.get?_push_size _ rfl⟩, ⟨_, Heap.get?_push_size _ rfl⟩, fun ha hb ⟨t, u, v, q⟩ k => ⟨t, u, v, k _ q⟩⟩
  · exact k _ (.ptr s.heap.objs.size) _ (up C s.heap.objs.size (.raw (RngO s.heap.objs.size i j))) (stp_put (by rw [hf]; exact id) (.inr hf)) (rl.putNew hf ⟨upd_same, trivial⟩) rfl (h _ (rl.fresh hf))
theorem range_has (r : Addr) (a b i : Int) (t u v z : Tok) :
    Meets (Builtin.«range.__contains__» ⟨[.ref r, .int i z], []⟩) (fun _ R s => IsRange s.heap r a b 1 t u v ∧ R (.ok (.ret (.bool (Builtin.Range.rangePlace? a b 1 i).isSome))) s) :=
  .of_wp fun prog w A R s h => by obtain ⟨hp, g, d, tk, os⟩ := s; obtain ⟨hl, h⟩ := h; wp_walk; exact ⟨_, rfl, h⟩
theorem place_is (a b i : Int) : (Builtin.Range.rangePlace? a b 1 i).isSome = decide (a ≤ i ∧ i < b) := by
  unfold Builtin.Range.rangePlace?
  simp
  by_cases h : a ≤ i ∧ i < b
  · simp [h]
  · rw [if_neg h]; simp; omega
def rngInR (neg : Bool) : D → D → Cp → DQ → Prop := fun x y C Q => ∃ i p a b, x = .int i ∧ y = .ptr p ∧ C p = some (.raw (RngO p a b)) ∧ Q (.bl (if neg then !decide (a ≤ i ∧ i < b) else decide (a ≤ i ∧ i < b))) C
theorem op_inRngD : OpD X B (compareOp .In) (rngInR false) := by
  intro pins s σ H x y v u Q I rx ry h
  obtain ⟨dx, dy, C, Qd, r1, r2, rl, ⟨i, p, a, b, ex, ey, hc, h⟩, k⟩ := h
  subst ex ey
  cases r1; cases r2; cases ry
  obtain ⟨t, rfl⟩ := rx
  obtain ⟨t1, t2, t3, hr⟩ : ∃ t u v, IsRange s.heap p a b 1 t u v := (I.hok p _ (rl.ok _ _ hc).1).1
  show wpAny _ _ (do return Value.bool (← contains (.ref p) (.int i t))) _ _ s
  refine wpAny_bind (wpAny_contains_slot ⟨_, hr, rfl⟩ PySem.F.slot_range_contains (call_meets PySem.F.slot_range_contains ⟨_, hr, rfl⟩ PySem.F.entry_range_contains (PySem.F.args_range_contains_2 _ _) (range_has p a b i t1 t2 t3 t) ⟨hr, ?_⟩))
  refine wpAny_pure (wpAny_pure ⟨.bl _, H, I, rfl, k _ (.bl _) H C (Stp.refl _ _) rl (repB _) ?_⟩)
  rw [place_is]
  exact h
theorem op_niRngD : OpD X B (compareOp .NotIn) (rngInR true) := by
  intro pins s σ H x y v u Q I rx ry h
  obtain ⟨dx, dy, C, Qd, r1, r2, rl, ⟨i, p, a, b, ex, ey, hc, h⟩, k⟩ := h
  subst ex ey
  cases r1; cases r2; cases ry
  obtain ⟨t, rfl⟩ := rx
  obtain ⟨t1, t2, t3, hr⟩ : ∃ t u v, IsRange s.heap p a b 1 t u v := (I.hok p _ (rl.ok _ _ hc).1).1
  show wpAny _ _ (do return Value.bool !(← contains (.ref p) (.int i t))) _ _ s
  refine wpAny_bind (wpAny_contains_slot ⟨_, hr, rfl⟩ PySem.F.slot_range_contains (call_meets PySem.F.slot_range_contains ⟨_, hr, rfl⟩ PySem.F.entry_range_contains (PySem.F.args_range_contains_2 _ _) (range_has p a b i t1 t2 t3 t) ⟨hr, ?_⟩))
  refine wpAny_pure (wpAny_pure ⟨.bl _, H, I, rfl, k _ (.bl _) H C (Stp.refl _ _) rl (repB _) ?_⟩)
  rw [place_is]
  exact h
end
end KB

/-! KB18: dict(list of pairs), dict(dict), len of a dict. -/
namespace KB
open PySem PySem.Spec PyProof.Rows
open L2 hiding op_eqD op_neD call_listD
section
variable {X : Cx} {B : Bs} {pos : Pos}
def prD (kv : DKey × D) : D := .tup [keyD kv.1, kv.2]
theorem prs_of {K : PySem.W.Frag} {H : Hp} : ∀ {kvs : List (DKey × D)} {vs : List V}, Reps K H (kvs.map prD) vs → ∃ (ps : List Addr) (ws : List (Key × V)), vs = ps.map V.ref ∧ Paired (fun p kv => SqT K H p [kV kv.1, kv.2]) ps ws ∧ RepK keyOf K H kvs ws
  | [], _, h => by cases h; exact ⟨[], [], rfl, .nil, .nil⟩
  | (k, d) :: r, _, h => by
    obtain ⟨v, vr, rfl, h1, t⟩ := h
    obtain ⟨a, us, rfl, hq, hr⟩ := h1
    obtain ⟨x, r2, rfl, hx, y, r3, rfl, hy, hn⟩ := hr
    cases hn
    obtain ⟨ps, ws, rfl, hp, hk⟩ := prs_of t
    have hx : x = kV (keyOf k) := by
      cases k with
      | inl i => exact hx
      | inr l => exact hx
    subst hx
    exact ⟨a :: ps, (keyOf k, y) :: ws, rfl, .cons hq hp, .cons ⟨rfl, hy⟩ hk⟩
def dictPR : List D → Cp → DQ → Prop := fun ds C Q => ∃ p kvs, ds = [.ptr p] ∧ isL C p (kvs.map prD) ∧ ∀ q, C q = none → Q (.ptr q) (up C q (.dk (mergeA [] kvs)))
theorem call_dictPD (hc : X.calm = true) : CallD X B (.type "dict") dictPR := by
  intro pins s σ H xs us Q I rx h
  obtain ⟨ds, C, Qd, r, rl, ⟨p, kvs, e, hl, h⟩, k⟩ := h
  subst e
  obtain ⟨v, r2, rfl, hv, hn⟩ := r
  cases hn; cases hv
  obtain ⟨vs, hq, hr⟩ := isL.sq rl hl
  obtain ⟨ps, ws, rfl, hp, hk⟩ := prs_of hr
  refine call_dictP hc pins s σ H _ us Q I rx ⟨p, ps, ws, rfl, hq, hp, fun l hn => ?_⟩
  have nf : ¬ Frz (H l) := by rw [hn]; exact id
  exact k _ _ _ (up C l (.dk (mergeA [] kvs))) (stp_put nf (.inr hn)) (rl.putNew hn ⟨_, upd_same, (repK_merge hk .nil).mono (tx_upd nf)⟩) (repP l) (h l (rl.fresh hn))
def dictDR : List D → Cp → DQ → Prop := fun ds C Q => ∃ p kvs, ds = [.ptr p] ∧ C p = some (.dk kvs) ∧ ∀ q, C q = none → Q (.ptr q) (up C q (.dk kvs))
theorem call_dictDD : CallD X B (.type "dict") dictDR := by
  intro pins s σ H xs us Q I rx h
  obtain ⟨ds, C, Qd, r, rl, ⟨p, kvs, e, hl, h⟩, k⟩ := h
  subst e
  obtain ⟨v, r2, rfl, hv, hn⟩ := r
  cases hn; cases hv
  obtain ⟨ws, e1, q⟩ := rl.ok _ _ hl
  refine call_dictD pins s σ H _ us Q I rx ⟨p, ws, rfl, .inl e1, fun l hn => ?_⟩
  have nf : ¬ Frz (H l) := by rw [hn]; exact id
  exact k _ _ _ (up C l (.dk kvs)) (stp_put nf (.inr hn)) (rl.putNew hn ⟨_, upd_same, q.mono (tx_upd nf)⟩) (repP l) (h l (rl.fresh hn))
/-! len of a dict with int or text keys -/
theorem call_lenKD : CallD X B (.builtin "len") lenKR := by
  intro pins s σ H xs us Q I rx h
  obtain ⟨ds, C, Qd, r, rl, ⟨p, kvs, e, hl, h⟩, k⟩ := h
  subst e
  obtain ⟨v, r2, rfl, hv, hn⟩ := r
  cases hn; cases hv
  obtain ⟨ws, e1, q⟩ := rl.ok _ _ hl
  exact L2.call_lenD pins s σ H _ us Q I rx ⟨p, ws, rfl, e1, k _ (.int (ws.length : Int)) H C (Stp.refl _ _) rl (repI _) (by rw [← Paired.length q]; exact h)⟩
end
end KB
namespace KB
open PySem PySem.Spec PyProof.Rows
open L2 hiding op_eqD op_neD call_listD
section
variable {X : Cx} {B : Bs} {pos : Pos}
theorem reps_int_vs {K : PySem.W.Frag} {H : Hp} : ∀ {ns : List Int} {vs : List V}, Reps K H (ns.map D.int) vs → vs = ns.map V.int
  | [], _, h => by cases h; rfl
  | n :: r, _, h => by
    obtain ⟨v, vr, rfl, h1, t⟩ := h
    cases h1
    rw [reps_int_vs t]
    rfl
theorem ints_are : ∀ {ns : List Int} {us : List Value}, Vals (ns.map V.int) us → IntsAre us ns
  | [], _, h => by cases h; exact .nil
  | n :: r, us, h => by
    rw [List.map_cons] at h
    cases h with
    | cons h t =>
      obtain ⟨t', rfl⟩ := h
      exact .cons n t' (ints_are t)
def maxLR : List D → Cp → DQ → Prop := fun ds C Q => ∃ (p : Addr) (ns : List Int), ds = [.ptr p] ∧ isL C p (ns.map D.int) ∧ 0 < ns.length ∧ ∀ M, M ∈ ns → (∀ a ∈ ns, a ≤ M) → Q (.int M) C
theorem call_maxLD (hc : X.calm = true) : CallD X B (.builtin "max") maxLR := by
  intro pins s σ H xs us Q I rx h
  obtain ⟨ds, C, Qd, r, rl, ⟨p, ns, e, hl, h0, h⟩, k⟩ := h
  subst e
  obtain ⟨v, r2, rfl, hv, hn⟩ := r
  cases hn; cases hv
  obtain ⟨vs, hq, hr⟩ := isL.sq rl hl
  rw [reps_int_vs hr] at hq
  obtain ⟨its, rv, hL, _⟩ := I.list hq
  rw [Vals.ref1 rx]
  have hi := ints_are rv
  have hall : AllInts its.toArray := hi.allInts
  have hnum : numsOf its.toArray.toList = ns := by rw [List.toList_toArray]; exact hi.numsOf
  obtain ⟨xs, hxs⟩ := hall.items
  have hsz0 : its.toArray.size = ns.length := by rw [List.size_toArray]; exact hi.length
  rw [hxs] at hnum hsz0
  rw [nums_intItems] at hnum
  have hL' : s.heap.IsList p (intItems xs) := by rw [← hxs]; exact hL.isList
  have hsz : 0 < xs.size := by simp [intItems] at hsz0; omega
  refine max_intList (I.ok.hd hc) hL' hsz fun v h' tk hv hk => ?_
  obtain ⟨t, rfl⟩ := intItems_at hv
  obtain ⟨h1, h2⟩ := argBest_gt (numAt xs) (xs.size - 1)
  refine ⟨.int (numAt xs (argBest (fun i j => decide (numAt xs i > numAt xs j)) (xs.size - 1))), H, I.kept (t' := tk) hk, ⟨t, rfl⟩, k _ (.int _) H C (Stp.refl _ _) rl (repI _) (h _ ?_ fun a ha => ?_)⟩
  · rw [← hnum, numAt_eq]; exact getD_mem (by rw [List.length_map, Array.length_toList]; omega)
  · rw [← hnum] at ha
    obtain ⟨j, hj, rfl⟩ := mem_getD ha
    rw [List.length_map, Array.length_toList] at hj
    rw [← numAt_eq]; exact h2 j (by omega)
end
end KB

/-! KB19: list(d.items()). -/
namespace KB
open PySem PySem.Spec PyProof.Rows
open L2 hiding op_eqD op_neD call_listD
section
variable {X : Cx} {B : Bs} {pos apos cpos p : Pos} {e : Expr} {te : DE}
theorem items_reps {K : PySem.W.Frag} {H H' : Hp} (tx : Tx H H') : ∀ {ts : List Addr} {ws : List (Key × V)} {kvs : List (DKey × D)}, Paired (fun (t : Addr) (q : Key × V) => H' t = some (.tup [kV q.1, q.2])) ts ws → RepK keyOf K H kvs ws → Reps K H' (kvs.map prD) (ts.map V.ref)
  | _, _, _, .nil, h => by cases h; rfl
  | _, _, _, .cons (a := t) (b := w) h r, q => by
    cases q with
    | @cons kv _ kvs _ q1 q2 =>
      obtain ⟨a1, a2⟩ := q1
      refine .cons ⟨t, _, rfl, .inl (.inl h), ?_⟩ (items_reps tx r q2)
      have := (keyD_rep (K := K) (H := H') kv.1)
      rw [a1] at this
      exact .cons this (.cons (a2.mono tx) .nil)
def dListItems (t : DE) : DE := fun s C Q => t s C fun x C1 => ∃ d kvs, x = .ptr d ∧ C1 d = some (.dk kvs) ∧ ∀ q, C1 q = none → Q (.ptr q) (up C1 q (.lst (kvs.map prD)))
theorem vals_snd {H : Hp} {K : PySem.W.Frag} : ∀ {kvs : List (DKey × D)} {ws : List (Key × V)}, RepK keyOf K H kvs ws → Reps K H (kvs.map (·.2)) (ws.map (·.2))
  | [], _, h => by cases h; rfl
  | _ :: _, _, h => by
    cases h with
    | cons q1 q2 => exact .cons q1.2 (vals_snd q2)
def dListValues (t : DE) : DE := fun s C Q => t s C fun x C1 => ∃ d kvs, x = .ptr d ∧ C1 d = some (.dk kvs) ∧ ∀ q, C1 q = none → Q (.ptr q) (up C1 q (.lst (kvs.map (·.2))))
theorem j_listValues (hc : X.calm = true) (hm : X.mg "list" = none) (he : JE X B e te) (hg : Gl X "list" := by rfl) (hbase : attributeBase e "values" X.env (eval e X.env) = eval e X.env := by rfl) (hline : (apos.endLine == cpos.line) = true := by rfl)
    (hs : starEach [.Call (.Attribute e "values" apos) [] [] cpos] X.env = (false, eval (.Call (.Attribute e "values" apos) [] [] cpos) X.env) :: starEach [] X.env := by rfl) :
    JE X B (.Call (.Name "list" p) [.Call (.Attribute e "values" apos) [] [] cpos] [] pos) (dListValues te) := ⟨fun pins s σ H Q I h => by
  obtain ⟨sl, C, Qd, rs, rl, h, k⟩ := h
  refine wpAny_Call_Name_kw (ld_blt I hg hm bt_list ?_)
  refine PyProof.Rows.callWith_type1 ?_ hs rfl
  rw [hs]
  show wpAny _ _ (spliced ((false, eval (.Call (.Attribute e "values" apos) [] [] cpos) X.env) :: backTo pos (starEach [] X.env))) _ _ s
  refine Calls.spliced_cons ?_
  refine wpAny_Call_method (T := "dict") (id := "dict.values") hbase rfl hline PySem.F.plainAttrs_dict PySem.F.slot_dict_values PySem.F.type_dict_values (thn (he.run pins s σ H (fun x H1 => ∃ dx C1, Stp H C H1 C1 ∧ Rl X.K B H1 C1 ∧ Rep X.K H1 dx x ∧ ∃ d kvs, dx = .ptr d ∧ C1 d = some (.dk kvs) ∧ ∀ q, C1 q = none → Qd (.ptr q) (up C1 q (.lst (kvs.map (·.2))))) I ⟨sl, C, _, rs, rl, h, fun v d H' C' st rl' r q => ⟨d, C', st, rl', r, q⟩⟩) fun u s1 ⟨x, H1, I1, rx, dx, C1, st1, rl1, rd, d, kvs, ed, hd, q⟩ => ?_)
  subst ed
  cases rd
  obtain rfl : u = Value.ref d := rx
  obtain ⟨ws, e1, qk⟩ := rl1.ok _ _ hd
  obtain ⟨hz, hs0, vs, kv, hdo⟩ := I1.hok d _ e1
  obtain ⟨ep, hat⟩ := hdo.dictAt
  have lk : ws.length = vs.length := Paired.length kv
  have I2 : Inv X pins σ H1 { s1 with heap := s1.heap.push { cls := .type "dict_values", data := .fields #[.ref d] } } := I1.kept (t' := s1.toks) fun b ob q => Heap.get?_push_of_some _ q
  refine ⟨hdo.typeIs, hdo.mapOf.noDict, ?_⟩
  show wpAny _ _ (callWith cpos (.builtin "dict.values") [.ref d] [] []) _ X.xe s1
  refine method_meetsIn PySem.F.slot_dict_values PySem.F.entry_dict_values rfl (PySem.evalArgs_none ⟨rfl, hdo.typeIs, PySem.F.args_dict_values_1 _, _, meets_dict_values (mixKind X.prog X.w) d hs0, ⟨vs, hdo⟩, ?_⟩)
  refine Calls.spliced_nil ?_
  refine PySem.W.kdl_call (PySem.W.kdl_values (knd := mixKind X.prog X.w) (kvs := vs) (ep := ep)) (I1.ok.hd hc) ⟨⟨_, Heap.get?_push_size _ rfl, rfl, rfl⟩, hat.push _⟩ (by omega) fun h' tk acc c hk hS hacc => ?_
  have ev := PySem.W.kdl_vals_eq (kvs := vs) acc.toList (by rw [Array.length_toList]; exact hacc.1) fun j v e => hacc.2 j v (by rw [← Array.getElem?_toList]; exact e)
  have rv : Vals (ws.map (·.2)) acc.toList := by
    rw [ev]
    clear ev hacc hat hdo lk e1 qk hz
    induction kv with
    | nil => exact .nil
    | cons h t ih => exact .cons h.2 ih
  have hf := I2.hok.fresh (Nat.le_refl _)
  have hr := vals_snd qk
  obtain ⟨a1, a2⟩ := rl1.newL hf hr
  exact ⟨.ref _, _, I2.laid (a := (s1.heap.push { cls := .type "dict_values", data := .fields #[.ref d] }).objs.size) (o := .lst (ws.map (·.2))) (t' := tk) hk (Nat.le_refl _) (show ObjOk X.prog X.w _ _ _ (.lst _) from ⟨by rw [List.length_map]; exact hz, acc.toList, c, rv, by rw [Array.toArray_toList]; exact hS⟩), rfl, k _ _ _ _ (st1.trans a1) a2 (repP _) (q _ (rl1.fresh hf))⟩⟩
end
end KB

/-! KB20: more methods of texts. -/
namespace KB
open PySem PySem.Spec PyProof.Rows
open L2 hiding op_eqD op_neD call_listD
section
variable {X : Cx} {B : Bs} {pos : Pos}
def lowerL (l : List Nat) : List Nat := TL.tl (Txt.lower ⟨l.toArray⟩)
def upperL (l : List Nat) : List Nat := TL.tl (Txt.upper ⟨l.toArray⟩)
def startsL (l z : List Nat) : Bool := Txt.startswith ⟨l.toArray⟩ ⟨z.toArray⟩
def countL (l z : List Nat) : Int := Txt.count ⟨l.toArray⟩ ⟨z.toArray⟩
def splitL (l z : List Nat) : List (List Nat) := (Txt.split ⟨l.toArray⟩ ⟨z.toArray⟩).map TL.tl
theorem tl_back (y : Str) : (⟨(TL.tl y).toArray⟩ : Str) = y := by
  show (⟨y.cps.toList.toArray⟩ : Str) = y
  rw [Array.toArray_toList]
def lowerR : D → List D → Cp → DQ → Prop := fun d ds C Q => ∃ l, d = .str l ∧ ds = [] ∧ l.length ≤ 5592405 ∧ Q (.str (lowerL l)) C
theorem mt_lowerD : MtD X B "str.lower" lowerR := by
  intro pins s σ H x xs v us Q I rx rs h
  obtain ⟨d, ds, C, Qd, r1, r2, rl, ⟨l, ed, eds, hz, h⟩, k⟩ := h
  subst ed eds
  cases r1; cases r2
  exact mt_lower pins s σ H _ _ v us Q I rx rs ⟨_, rfl, rfl, by simpa [Str.length] using hz, k _ (.str (lowerL l)) H C (Stp.refl _ _) rl (by show V.str _ = V.str _; unfold lowerL; rw [tl_back]) h⟩
def upperR : D → List D → Cp → DQ → Prop := fun d ds C Q => ∃ l, d = .str l ∧ ds = [] ∧ l.length ≤ 5592405 ∧ Q (.str (upperL l)) C
theorem mt_upperD : MtD X B "str.upper" upperR := by
  intro pins s σ H x xs v us Q I rx rs h
  obtain ⟨d, ds, C, Qd, r1, r2, rl, ⟨l, ed, eds, hz, h⟩, k⟩ := h
  subst ed eds
  cases r1; cases r2
  exact mt_upper pins s σ H _ _ v us Q I rx rs ⟨_, rfl, rfl, by simpa [Str.length] using hz, k _ (.str (upperL l)) H C (Stp.refl _ _) rl (by show V.str _ = V.str _; unfold upperL; rw [tl_back]) h⟩
def startsR : D → List D → Cp → DQ → Prop := fun d ds C Q => ∃ l z, d = .str l ∧ ds = [.str z] ∧ Q (.bl (startsL l z)) C
theorem mt_startsD : MtD X B "str.startswith" startsR := by
  intro pins s σ H x xs v us Q I rx rs h
  obtain ⟨d, ds, C, Qd, r1, r2, rl, ⟨l, z, ed, eds, h⟩, k⟩ := h
  subst ed eds
  cases r1
  obtain ⟨w, r3, rfl, hw, hn⟩ := r2
  cases hn; cases hw
  exact mt_startswith pins s σ H _ _ v us Q I rx rs ⟨_, _, rfl, rfl, k _ (.bl (startsL l z)) H C (Stp.refl _ _) rl rfl h⟩
def countR : D → List D → Cp → DQ → Prop := fun d ds C Q => ∃ l z, d = .str l ∧ ds = [.str z] ∧ Q (.int (countL l z)) C
theorem mt_countD : MtD X B "str.count" countR := by
  intro pins s σ H x xs v us Q I rx rs h
  obtain ⟨d, ds, C, Qd, r1, r2, rl, ⟨l, z, ed, eds, h⟩, k⟩ := h
  subst ed eds
  cases r1
  obtain ⟨w, r3, rfl, hw, hn⟩ := r2
  cases hn; cases hw
  exact mt_count pins s σ H _ _ v us Q I rx rs ⟨_, _, rfl, rfl, k _ (.int (countL l z)) H C (Stp.refl _ _) rl rfl h⟩
theorem reps_strs {K : PySem.W.Frag} {H : Hp} : ∀ ys : List Str, Reps K H ((ys.map TL.tl).map D.str) (ys.map V.str)
  | [] => rfl
  | y :: r => .cons (by show V.str y = V.str _; rw [tl_back]) (reps_strs r)
def splitR : D → List D → Cp → DQ → Prop := fun d ds C Q => ∃ l z, d = .str l ∧ ds = [.str z] ∧ z ≠ [] ∧ l.length + 2 ≤ sizeLine ∧ ∀ p, C p = none → Q (.ptr p) (up C p (.lst ((splitL l z).map D.str)))
theorem mt_splitD : MtD X B "str.split" splitR := by
  intro pins s σ H x xs v us Q I rx rs h
  obtain ⟨d, ds, C, Qd, r1, r2, rl, ⟨l, z, ed, eds, hz, hl, h⟩, k⟩ := h
  subst ed eds
  cases r1
  obtain ⟨w, r3, rfl, hw, hn⟩ := r2
  cases hn; cases hw
  refine mt_split pins s σ H _ _ v us Q I rx rs ⟨_, _, rfl, rfl, ?_, by simpa [Str.length] using hl, ?_⟩
  · simp [Str.length]; exact hz
  · intro p hp
    obtain ⟨a1, a2⟩ := rl.newL hp (reps_strs (K := X.K) (H := H) (Txt.split ⟨l.toArray⟩ ⟨z.toArray⟩))
    exact k _ _ _ _ a1 a2 (repP p) (h p (rl.fresh hp))
theorem reps_rev {K : PySem.W.Frag} {H : Hp} : ∀ {ds : List D} {vs : List V}, Reps K H ds vs → Reps K H ds.reverse vs.reverse
  | [], _, h => by cases h; rfl
  | d :: ds, _, h => by
    obtain ⟨v, r, rfl, a, t⟩ := h
    rw [List.reverse_cons, List.reverse_cons]
    exact (reps_rev t).append (.cons a .nil)
def revR : D → List D → Cp → DQ → Prop := fun d ds C Q => ∃ p xs, d = .ptr p ∧ ds = [] ∧ C p = some (.lst xs) ∧ Q .non (up C p (.lst xs.reverse))
theorem mt_revD : MtD X B "list.reverse" revR := by
  intro pins s σ H x xs v us Q I rx rs h
  obtain ⟨d, ds, C, Qd, r1, r2, rl, ⟨p, ys, e1, e2, hc, h⟩, k⟩ := h
  subst e1 e2
  cases r1; cases r2
  obtain ⟨vs, hp, hr⟩ := rl.cells hc
  obtain ⟨a1, a2⟩ := rl.setL hc hp (reps_rev hr)
  exact mt_reverse pins s σ H _ _ v us Q I rx rs ⟨p, vs, rfl, rfl, hp, k _ _ _ _ a1 a2 repN h⟩
end
end KB

/-! KB21: set(xs) of texts, of ints, of tuples of any depth: what is gathered. -/
namespace KB
open PySem PySem.Spec PyProof.Rows
open L2 hiding op_eqD op_neD call_listD
section
theorem perm_lift {α β : Type} {f : α → β} {m l' : List β} (h : m.Perm l') : ∀ {L : List α}, m = L.map f → ∃ L', L.Perm L' ∧ l' = L'.map f := by
  induction h with
  | nil => intro L e; exact ⟨L, .refl _, e⟩
  | cons x _ ih =>
    intro L e
    cases L with
    | nil => cases e
    | cons a L =>
      rw [List.map_cons] at e
      injection e with e1 e2
      obtain ⟨L', p, q⟩ := ih e2
      exact ⟨a :: L', p.cons a, by rw [List.map_cons, e1, q]⟩
  | swap x y l =>
    intro L e
    match L, e with
    | a :: b :: L, e =>
      rw [List.map_cons, List.map_cons] at e
      injection e with e1 e2
      injection e2 with e2 e3
      exact ⟨b :: a :: L, .swap .., by rw [List.map_cons, List.map_cons, e1, e2, e3]⟩
  | trans _ _ ih1 ih2 =>
    intro L e
    obtain ⟨L1, p1, q1⟩ := ih1 e
    obtain ⟨L2, p2, q2⟩ := ih2 q1
    exact ⟨L2, p1.trans p2, q2⟩
end
/-- what is so of the set behind some of the keys -/
structure GotX (ks : List NestedKey) (i : Nat) (L : List Rw) (src : List Rw) : Prop where
  sub : ∀ p ∈ L, p ∈ src.take i
  all : ∀ p ∈ src.take i, p.2 ∈ L.map (·.2)
  len : L.length ≤ i
theorem GotX.zero {ks : List NestedKey} {src : List Rw} : GotX ks 0 [] src := ⟨fun p h => (by cases h), fun p h => (by simp at h), Nat.le_refl _⟩
theorem takeS {α : Type} {l : List α} {i : Nat} {x : α} (h : l[i]? = some x) : l.take (i + 1) = l.take i ++ [x] := by
  rw [List.take_add_one, h]; rfl
theorem GotX.same {ks : List NestedKey} {src L : List Rw} {i : Nat} {x : Rw} (g : GotX ks i L src) (h : src[i]? = some x) (hm : x.2 ∈ L.map (·.2)) : GotX ks (i + 1) L src := by
  refine ⟨fun p hp => ?_, fun p hp => ?_, Nat.le_succ_of_le g.len⟩
  · rw [takeS h]; exact List.mem_append_left _ (g.sub p hp)
  · rw [takeS h] at hp
    rcases List.mem_append.mp hp with z | z
    · exact g.all p z
    · rw [List.mem_singleton.mp z]; exact hm
theorem GotX.more {ks : List NestedKey} {src L L' : List Rw} {i : Nat} {x : Rw} (g : GotX ks i L src) (h : src[i]? = some x) (pm : L'.Perm (x :: L)) : GotX ks (i + 1) L' src := by
  refine ⟨fun p hp => ?_, fun p hp => ?_, ?_⟩
  · rw [takeS h]
    rcases List.mem_cons.mp (pm.mem_iff.mp hp) with e | z
    · rw [e]; exact List.mem_append_right _ (List.mem_singleton.mpr rfl)
    · exact List.mem_append_left _ (g.sub p z)
  · rw [(pm.map (·.2)).mem_iff, List.map_cons]
    rw [takeS h] at hp
    rcases List.mem_append.mp hp with z | z
    · exact List.mem_cons_of_mem _ (g.all p z)
    · rw [List.mem_singleton.mp z]; exact List.mem_cons_self
  · rw [pm.length_eq, List.length_cons]
    exact Nat.succ_le_succ g.len
section
variable {P : Program} {w : World} {A : Around} {E : Value → Shared → Prop} {s : Shared}
/-- adding one item to the set at S: J what is so of the heap, the set, its rows -/
structure AddX (P : Program) (w : World) (S : Addr) (h0 : Heap) (src : List Rw) (J : Heap → List Rw → Prop) : Prop where
  keep : ∀ h h' L, J h L → (∀ o, h.get? S = some o → h'.get? S = some o) → J h' L
  add : ∀ (A : Around) (s : Shared) (x : Rw) (L : List Rw) (Q : Bool → Shared → Prop) (E : Value → Shared → Prop), A.units + 20 < cLine → x ∈ src → (∀ p ∈ L, p ∈ src) → L.length < src.length → (∀ b o, h0.get? b = some o → s.heap.get? b = some o) → J s.heap L →
    (∀ r h' L' tk, s.toks ≤ tk → Heap.SameBut S s.heap h' → J h' L' → (x.2 ∈ L.map (·.2) → L' = L) → (x.2 ∉ L.map (·.2) → L'.Perm (x :: L)) → Q r { s with heap := h', toks := tk }) →
    wpAny (model P w) A (setAdd S x.1) Q E s
theorem loopX {I : Addr} {fp wr : List Addr} {G : Array GenState → Array GenState → Prop} {n : Nat} {Pv : Nat → Value → Prop} {St : Nat → Shared → Prop} {R : Result → Shared → Prop}
    (W : WalksS P w A.in1 I fp wr G n Pv St) (S : Addr) (hSf : S ∉ fp) (src : List Rw) (hn : n = src.length) (hval : ∀ i v, Pv i v → ∃ p, src[i]? = some p ∧ v = p.1)
    (h0 : Heap) (hS0 : h0.get? S = none) (hw0 : ∀ b ∈ wr, h0.get? b = none) (hu : A.in1.units + 20 < cLine) {J : Heap → List Rw → Prop} (T : AddX P w S h0 src J) :
    ∀ (k i : Nat) (s : Shared), n - i = k → i ≤ n → St i s → (∀ b o, h0.get? b = some o → s.heap.get? b = some o) → (∃ L, J s.heap L ∧ GotX (src.map (·.2)) i L src) →
      (∀ s' L, Moved (S :: wr) G s s' → J s'.heap L → GotX (src.map (·.2)) n L src → (∀ b o, h0.get? b = some o → s'.heap.get? b = some o) → R (.ok (.ret .none)) s') →
      codeAny (model P w) A (.builtin "set.update.loop" ⟨[.ref S, .ref I], []⟩) R s := by
  have hSw : S ∉ wr := fun h => hSf (W.sub _ h)
  have keepM : ∀ {s s' : Shared}, Moved wr G s s' → (∀ b o, h0.get? b = some o → s.heap.get? b = some o) → ∀ b o, h0.get? b = some o → s'.heap.get? b = some o := fun hm hkp b o e =>
    hm.heap b o (fun hb => by rw [hw0 b hb] at e; cases e) (hkp b o e)
  intro k
  induction k with
  | zero =>
    intro i s hk' hi hst hkp ⟨L, hJ, g⟩ hR
    obtain rfl : i = n := by omega
    refine codeAny_builtin F.entry_set_update_loop ?_
    rw [Around.under_plainId F.plain_set_update_loop _]
    show wpAny _ A.in1 (pyNext (.ref I) >>= _) _ _ s
    refine wpAny_bind (W.done s _ _ hst fun s' hm => ?_)
    exact wpAny_pure (hR s' L (hm.mono fun b hb => List.mem_cons_of_mem _ hb) (T.keep _ _ _ hJ fun o e => hm.heap S o hSw e) g (keepM hm hkp))
  | succ k ih =>
    intro i s hk' hi hst hkp ⟨L, hJ, g⟩ hR
    have hlt : i < n := by omega
    refine codeAny_builtin F.entry_set_update_loop ?_
    rw [Around.under_plainId F.plain_set_update_loop _]
    show wpAny _ A.in1 (pyNext (.ref I) >>= _) _ _ s
    refine wpAny_bind (W.item i s _ _ hlt hst fun v s' hP hst' hm => ?_)
    obtain ⟨p, hp, rfl⟩ := hval i v hP
    have hkp' := keepM hm hkp
    show wpAny _ A.in1 (holding [p.1] (setAdd S p.1) >>= _) _ _ s'
    refine wpAny_bind (wpAny_holding ?_)
    refine T.add A.in1 s' p L _ _ hu (List.mem_of_getElem? hp) (fun q hq => List.mem_of_mem_take (g.sub q hq)) (by have := g.len; omega) hkp' (T.keep _ _ _ hJ fun o e => hm.heap S o hSw e) fun b h' L' tk htk hsb hJ' c1 c2 => ?_
    have g' : GotX (src.map (·.2)) (i + 1) L' src := by
      rcases Classical.em (p.2 ∈ L.map (·.2)) with c | c
      · rw [c1 c]; exact g.same hp c
      · exact g.more hp (c2 c)
    have hkp2 : ∀ b o, h0.get? b = some o → h'.get? b = some o := fun b o e => (hsb.2 b (fun z => by rw [z, hS0] at e; cases e)).trans (hkp' b o e)
    refine wpAny_pure ⟨plainId_quiet F.plain_set_update_loop _, ih (i + 1) _ (by omega) hlt (W.frame _ s' _ _ hst' htk fun b hb o e => ?_) hkp2 ⟨L', hJ', g'⟩ fun s'' L2 hm'' hJ'' g'' hkp'' => ?_⟩
    · rw [hsb.2 b (fun h : b = S => hSf (by rw [← h]; exact hb))]; exact e
    · refine hR s'' L2 (Moved.trans W.gtrans ((hm.mono fun b hb => List.mem_cons_of_mem _ hb).then_heap htk fun b o hb e => ?_) hm'') hJ'' g'' hkp''
      rw [hsb.2 b (fun h : b = S => hb (by rw [h]; exact List.mem_cons_self))]; exact e
end
end KB

/-! KB22: set(xs) called. -/
namespace KB
open PySem PySem.Spec PyProof.Rows
open L2 hiding op_eqD op_neD call_listD
section
variable {P : Program} {w : World} {A : Around} {E : Value → Shared → Prop} {s : Shared}
def freshX (w : World) : Obj := { cls := .type "set", dict := none, data := .set #[] 0 (.fresh 0 0 (!w.params.followText "set-order")) }

set_option maxRecDepth 100000 in
set_option maxHeartbeats 4000000 in
/-- set(xs), xs a list -/
theorem call_setL {l : Addr} {items : Array Value} (src : List Rw) {Q : Value → Shared → Prop} (hh : A.handled = none) (hl : s.heap.IsList l items) (hit : items.toList = src.map (·.1)) (hu : A.units + 30 < cLine)
    {J : Heap → List Rw → Prop} (Tx : AddX P w s.heap.objs.size s.heap src J) (j0 : ∀ h : Heap, h.get? s.heap.objs.size = some (freshX w) → J h [])
    (h : ∀ (h' : Heap) (tk : Nat) L, J h' L → GotX (src.map (·.2)) src.length L src → (∀ b o, s.heap.get? b = some o → h'.get? b = some o) → Q (.ref s.heap.objs.size) { s with heap := h', toks := tk }) :
    wpAny (model P w) A (call (.type "set") [.ref l]) Q E s := by
  have hisz : items.size = src.length := by
    have q := congrArg List.length hit
    simpa using q
  obtain ⟨c, tl, hmro⟩ := F.called_set.mro
  have hmade := F.called_set.made
  have hsub := F.called_set.sub
  refine wpAny_call (codeAny_of_tree ?_)
  show wpAny _ _ (callAny (.type "set") _) _ _ _
  refine wpAny_pure ⟨Code.quiet_builtin _ (by decide +kernel),
    codeAny_builtin F.entry_type_call ?_⟩
  rw [Around.under_plain (weight_type_call_type "set" [.ref l] []) rfl]
  have h1 := F.called_set.notType
  have h2 := F.called_set.canCreate
  have hct := F.typeCall_set_1 (.ref l)
  repeat (any_goals (first | assumption | wp_step))
  refine codeAny_mono (code_set_led1 (.ref l) (E := E)
    (Q₁ := fun obj s₁ => obj = .ref s.heap.objs.size ∧ s₁ = { s with heap := s.heap.push (freshX w) }) ⟨rfl, rfl⟩) fun r s₁ hr => ?_
  cases r with
  | error e => exact hr
  | ok fl =>
    cases fl with
    | ret obj =>
      obtain ⟨rfl, rfl⟩ := hr
      have hS : (s.heap.push (freshX w)).get? s.heap.objs.size = some (freshX w) := Heap.get?_push_size _ rfl
      have hT : Shared.TypeIs { s with heap := s.heap.push (freshX w) } (.ref s.heap.objs.size) "set" := ⟨_, hS, rfl⟩
      have hli := F.called_set.init.lookup
      have hbi := F.called_set.init.bind (.ref s.heap.objs.size)
      repeat (any_goals (first | assumption | wp_step))
      refine codeAny_mono (codeAny_call_builtin (R := wants (fun r s₂ => r = .none ∧ ∃ h' tk L, s₂ = { s with heap := h', toks := tk } ∧ J h' L ∧ GotX (src.map (·.2)) src.length L src ∧
          (∀ b o, s.heap.get? b = some o → h'.get? b = some o)) E)
        F.called_set.init.plain F.entry_set_init (check_set_init_1 hT ?_)) fun r₂ s₂ hr₂ => ?_
      · obtain ⟨ol, hol, hcl, nl, hdl⟩ := hl
        obtain ⟨ocls, odict, odata, oslots⟩ := ol
        simp only at hcl hdl
        subst hcl; subst hdl
        have hol' : (s.heap.push (freshX w)).get? l = some { cls := .type "list", dict := odict, data := .seq items nl, slots := oslots } := Heap.get?_push_of_some _ hol
        have hsls := F.sub_list_set
        have hslf := F.sub_list_frozenset
        have hne : (Value.type "list" == Value.type "dict") = false := by decide
        have hl1 : (s.heap.push (freshX w)).IsList l items := ⟨_, hol', rfl, nl, rfl⟩
        unfold Builtin.«set.__init__» noKeywords
        unfold Builtin.Frozenset.updateFrom
        generalize hPI : pyIter = PI
        wp_walk
        subst hPI
        refine wpAny_pyIter_list hl1 ?_
        refine wpAny_bind (wpAny_runValue ?_)
        have hlS : l < s.heap.objs.size := Heap.lt_size hol
        have hh3 : A.in1.in1.in1.handled = none := by simp [hh]
        have hz1 : (s.heap.push (freshX w)).objs.size = s.heap.objs.size + 1 := Heap.size_push ..
        have hneI : l ≠ (s.heap.push (freshX w)).objs.size := by rw [hz1]; exact Nat.ne_of_lt (Nat.lt_succ_of_lt hlS)
        have hSf : s.heap.objs.size ∉ [(s.heap.push (freshX w)).objs.size, l] := by
          rw [hz1]
          simp only [List.mem_cons, List.not_mem_nil, or_false, not_or]
          exact ⟨Nat.ne_of_lt (Nat.lt_succ_self _), Nat.ne_of_gt hlS⟩
        have hval : ∀ (i : Nat) (v : Value), items[i]? = some v → ∃ p, src[i]? = some p ∧ v = p.1 := fun i v hv => by
          have q : items.toList[i]? = some v := by rw [Array.getElem?_toList]; exact hv
          rw [hit, List.getElem?_map] at q
          cases hq : src[i]? with
          | none => rw [hq] at q; cases q
          | some p => rw [hq] at q; exact ⟨p, rfl, (Option.some.inj q).symm⟩
        have none_of : ∀ b, s.heap.objs.size ≤ b → s.heap.get? b = none := fun b hb => by
          cases q : s.heap.get? b with
          | none => rfl
          | some o => exact absurd (Nat.lt_of_lt_of_le (Heap.lt_size q) hb) (Nat.lt_irrefl _)
        refine loopX ((Walks.list hh3 _ l hneI items).toS) s.heap.objs.size hSf src hisz hval s.heap (none_of _ (Nat.le_refl _))
          (fun b hb => none_of b (by rw [List.mem_singleton.mp hb, hz1]; exact Nat.le_succ _)) (by show A.units + 1 + 1 + 1 + 20 < cLine; omega) Tx (items.size - 0) 0 _ (by omega) (Nat.zero_le _)
          ⟨⟨_, Heap.get?_push_size _ rfl, rfl, rfl⟩, (hl1.push _)⟩ (fun b o e => Heap.get?_push_of_some _ (Heap.get?_push_of_some _ e)) ?hS0 ?hR
        case hS0 => exact ⟨[], j0 _ (Heap.get?_push_of_some _ hS), GotX.zero⟩
        case hR =>
          intro s' L hm hS' g' hkp
          obtain ⟨h', g2, d', tk', os'⟩ := s'
          have eg : g2 = s.gens := hm.gens
          have ed : d' = s.drawn := hm.drawn
          have eo : os' = s.os := hm.os
          subst eg; subst ed; subst eo
          show wpAny _ _ _ _ _ _
          refine wpAny_pure ?_
          show wpAny _ _ (ret Value.none) _ _ _
          rw [hisz] at g'
          exact wpAny_pure ⟨rfl, h', tk', L, rfl, hS', g', hkp⟩
      · cases r₂ with
        | error e => exact hr₂
        | ok fl₂ =>
          cases fl₂ with
          | ret r =>
            obtain ⟨rfl, h', tk, L, rfl, hS', g', hk'⟩ := hr₂
            repeat (any_goals (first | assumption | wp_step))
            exact h _ _ _ hS' g' hk'
          | _ => exact hr₂.elim
    | _ => exact hr.elim

set_option maxRecDepth 100000 in
set_option maxHeartbeats 4000000 in
/-- set(xs), xs a tuple -/
theorem call_setT {l : Addr} {items : Array Value} (src : List Rw) {Q : Value → Shared → Prop} (hh : A.handled = none) (hl : s.heap.IsTuple l items) (hit : items.toList = src.map (·.1)) (hu : A.units + 30 < cLine)
    {J : Heap → List Rw → Prop} (Tx : AddX P w s.heap.objs.size s.heap src J) (j0 : ∀ h : Heap, h.get? s.heap.objs.size = some (freshX w) → J h [])
    (h : ∀ (h' : Heap) (tk : Nat) L, J h' L → GotX (src.map (·.2)) src.length L src → (∀ b o, s.heap.get? b = some o → h'.get? b = some o) → Q (.ref s.heap.objs.size) { s with heap := h', toks := tk }) :
    wpAny (model P w) A (call (.type "set") [.ref l]) Q E s := by
  have hisz : items.size = src.length := by
    have q := congrArg List.length hit
    simpa using q
  obtain ⟨c, tl, hmro⟩ := F.called_set.mro
  have hmade := F.called_set.made
  have hsub := F.called_set.sub
  refine wpAny_call (codeAny_of_tree ?_)
  show wpAny _ _ (callAny (.type "set") _) _ _ _
  refine wpAny_pure ⟨Code.quiet_builtin _ (by decide +kernel),
    codeAny_builtin F.entry_type_call ?_⟩
  rw [Around.under_plain (weight_type_call_type "set" [.ref l] []) rfl]
  have h1 := F.called_set.notType
  have h2 := F.called_set.canCreate
  have hct := F.typeCall_set_1 (.ref l)
  repeat (any_goals (first | assumption | wp_step))
  refine codeAny_mono (code_set_led1 (.ref l) (E := E)
    (Q₁ := fun obj s₁ => obj = .ref s.heap.objs.size ∧ s₁ = { s with heap := s.heap.push (freshX w) }) ⟨rfl, rfl⟩) fun r s₁ hr => ?_
  cases r with
  | error e => exact hr
  | ok fl =>
    cases fl with
    | ret obj =>
      obtain ⟨rfl, rfl⟩ := hr
      have hS : (s.heap.push (freshX w)).get? s.heap.objs.size = some (freshX w) := Heap.get?_push_size _ rfl
      have hT : Shared.TypeIs { s with heap := s.heap.push (freshX w) } (.ref s.heap.objs.size) "set" := ⟨_, hS, rfl⟩
      have hli := F.called_set.init.lookup
      have hbi := F.called_set.init.bind (.ref s.heap.objs.size)
      repeat (any_goals (first | assumption | wp_step))
      refine codeAny_mono (codeAny_call_builtin (R := wants (fun r s₂ => r = .none ∧ ∃ h' tk L, s₂ = { s with heap := h', toks := tk } ∧ J h' L ∧ GotX (src.map (·.2)) src.length L src ∧
          (∀ b o, s.heap.get? b = some o → h'.get? b = some o)) E)
        F.called_set.init.plain F.entry_set_init (check_set_init_1 hT ?_)) fun r₂ s₂ hr₂ => ?_
      · obtain ⟨ol, hol, hcl, nl, hdl⟩ := hl
        obtain ⟨ocls, odict, odata, oslots⟩ := ol
        simp only at hcl hdl
        subst hcl; subst hdl
        have hol' : (s.heap.push (freshX w)).get? l = some { cls := .type "tuple", dict := odict, data := .seq items nl, slots := oslots } := Heap.get?_push_of_some _ hol
        have hsls := F.sub_tuple_set
        have hslf := F.sub_tuple_frozenset
        have hne : (Value.type "tuple" == Value.type "dict") = false := by decide
        have hl1 : (s.heap.push (freshX w)).IsTuple l items := ⟨_, hol', rfl, nl, rfl⟩
        unfold Builtin.«set.__init__» noKeywords
        unfold Builtin.Frozenset.updateFrom
        generalize hPI : pyIter = PI
        wp_walk
        subst hPI
        refine wpAny_pyIter_tuple hl1 ?_
        refine wpAny_bind (wpAny_runValue ?_)
        have hlS : l < s.heap.objs.size := Heap.lt_size hol
        have hh3 : A.in1.in1.in1.handled = none := by simp [hh]
        have hz1 : (s.heap.push (freshX w)).objs.size = s.heap.objs.size + 1 := Heap.size_push ..
        have hneI : l ≠ (s.heap.push (freshX w)).objs.size := by rw [hz1]; exact Nat.ne_of_lt (Nat.lt_succ_of_lt hlS)
        have hSf : s.heap.objs.size ∉ [(s.heap.push (freshX w)).objs.size, l] := by
          rw [hz1]
          simp only [List.mem_cons, List.not_mem_nil, or_false, not_or]
          exact ⟨Nat.ne_of_lt (Nat.lt_succ_self _), Nat.ne_of_gt hlS⟩
        have hval : ∀ (i : Nat) (v : Value), items[i]? = some v → ∃ p, src[i]? = some p ∧ v = p.1 := fun i v hv => by
          have q : items.toList[i]? = some v := by rw [Array.getElem?_toList]; exact hv
          rw [hit, List.getElem?_map] at q
          cases hq : src[i]? with
          | none => rw [hq] at q; cases q
          | some p => rw [hq] at q; exact ⟨p, rfl, (Option.some.inj q).symm⟩
        have none_of : ∀ b, s.heap.objs.size ≤ b → s.heap.get? b = none := fun b hb => by
          cases q : s.heap.get? b with
          | none => rfl
          | some o => exact absurd (Nat.lt_of_lt_of_le (Heap.lt_size q) hb) (Nat.lt_irrefl _)
        refine loopX ((Walks.tuple hh3 _ l hneI items).toS) s.heap.objs.size hSf src hisz hval s.heap (none_of _ (Nat.le_refl _))
          (fun b hb => none_of b (by rw [List.mem_singleton.mp hb, hz1]; exact Nat.le_succ _)) (by show A.units + 1 + 1 + 1 + 20 < cLine; omega) Tx (items.size - 0) 0 _ (by omega) (Nat.zero_le _)
          ⟨⟨_, Heap.get?_push_size _ rfl, rfl, rfl⟩, (hl1.push _)⟩ (fun b o e => Heap.get?_push_of_some _ (Heap.get?_push_of_some _ e)) ?hS0 ?hR
        case hS0 => exact ⟨[], j0 _ (Heap.get?_push_of_some _ hS), GotX.zero⟩
        case hR =>
          intro s' L hm hS' g' hkp
          obtain ⟨h', g2, d', tk', os'⟩ := s'
          have eg : g2 = s.gens := hm.gens
          have ed : d' = s.drawn := hm.drawn
          have eo : os' = s.os := hm.os
          subst eg; subst ed; subst eo
          show wpAny _ _ _ _ _ _
          refine wpAny_pure ?_
          show wpAny _ _ (ret Value.none) _ _ _
          rw [hisz] at g'
          exact wpAny_pure ⟨rfl, h', tk', L, rfl, hS', g', hkp⟩
      · cases r₂ with
        | error e => exact hr₂
        | ok fl₂ =>
          cases fl₂ with
          | ret r =>
            obtain ⟨rfl, h', tk, L, rfl, hS', g', hk'⟩ := hr₂
            repeat (any_goals (first | assumption | wp_step))
            exact h _ _ _ hS' g' hk'
          | _ => exact hr₂.elim
    | _ => exact hr.elim

end
end KB

/-! KB23: adding an int or a text to a set, by the scan. -/
namespace KB
open PySem PySem.Spec PyProof.Rows
open L2 hiding op_eqD op_neD call_listD
theorem kN_inj : ∀ {a b : Key}, kN a = kN b → a = b
  | .inl i, .inl j, h => by injection h with h; rw [h]
  | .inr i, .inr j, h => by injection h with h; rw [h]
  | .inl _, .inr _, h => nomatch h
  | .inr _, .inl _, h => nomatch h
theorem kN_hash (w : World) : ∀ k : Key, (kN k).hash w = keyH w k
  | .inl i => rfl
  | .inr x => rfl
theorem IsSc.scan {p : Rw} (h : IsSc p) : p.1.scannable = true := by
  obtain ⟨k, _, h⟩ := h
  rcases keyIs_shape h with ⟨i, t, _, e⟩ | ⟨i, t, _, e⟩ <;> rw [e] <;> rfl
section
variable {P : Program} {w : World} {A : Around} {E : Value → Shared → Prop} {s : Shared} {a : Addr} {L : List Rw} {es : Array (Int × Value)} {ep : Nat} {t : SetTable}
theorem elemsX (hL : ∀ p ∈ L, IsSc p) : ElemsOf (mixKind P w) (L.map (rowX w)) := fun e he => by
  obtain ⟨p, hp, rfl⟩ := List.mem_map.mp he
  obtain ⟨k, e1, e2⟩ := hL p hp
  exact ⟨⟨k, e2, by show p.2.hash w = keyH w k; rw [e1, kN_hash]⟩, (hL p hp).scan⟩
theorem memX (hL : ∀ p ∈ L, IsSc p) (k : Key) : kN k ∈ L.map (·.2) ↔ ∃ e ∈ L.map (rowX w), (mixKind P w).is k e.2 = true := by
  constructor
  · intro h
    obtain ⟨p, hp, e⟩ := List.mem_map.mp h
    obtain ⟨k', e1, e2⟩ := hL p hp
    have e : p.2 = kN k := e
    rw [e1] at e
    rw [kN_inj e] at e2
    exact ⟨rowX w p, List.mem_map.mpr ⟨p, hp, rfl⟩, e2⟩
  · rintro ⟨e, he, q⟩
    obtain ⟨p, hp, rfl⟩ := List.mem_map.mp he
    obtain ⟨k', e1, e2⟩ := hL p hp
    have : k = k' := (mixKind P w).inj p.1 _ _ q e2
    exact List.mem_map.mpr ⟨p, hp, by rw [this]; exact e1⟩
/-- the end of an adding by the scan -/
theorem scan_tail {g : Bool → Sem Unit} (hg : ∀ (b : Bool) (s₁ : Shared) (Q' : Unit → Shared → Prop), Q' () s₁ → wpAny (model P w) A (g b) Q' E s₁)
    {o : Obj} (ho : s.heap.get? a = some o) (hex : o.ExactSet) (hd : o.data = .set es ep t) {es1 : Array (Int × Value)} {t2 : SetTable} {L1 : List Rw} (r1 : es1.toList = L1.map (rowX w)) (nd1 : (L1.map (·.2)).Nodup)
    (hb1 : es1.size < scanBound) (hf2 : t2.fits es1.size = true) (hr : Ris t2.place.toList) (hl : w.params.followText "set-order" = true ∨ t2.led = true) {wasDummy : Bool} {R : Option Bool → Shared → Prop}
    (hR : ∀ h' L' es' ep' t', Heap.SameBut a s.heap h' → SetX w h' a L' es' ep' t' → L'.Perm L1 → R (some true) { s with heap := h' }) :
    wpAny (model P w) A (do
        storeSet a es1 t2
        if (!wasDummy && t2.tooFull) = true then do
            g (relayAll t2 es1 (SetTable.grown es1.size)).2.2
            storeSet a (relayAll t2 es1 (SetTable.grown es1.size)).1 (relayAll t2 es1 (SetTable.grown es1.size)).2.1
            pure (some true)
          else pure (some true)) R E s := by
  refine wpAny_bind (wpAny_storeSet_of ho hd ?_ (fits_of_scanBound hb1))
  have ho1 := store_at (es' := es1) (t' := t2) ho hd
  have sb1 := Heap.SameBut.update s.heap a (Obj.putSet es1 t2)
  split
  · have pm := relayAll_perm t2 es1 (SetTable.grown es1.size)
    have hf3 := relayAll_fits t2 es1 (SetTable.grown es1.size)
    have hr3 := relayAll_ris t2 es1 (SetTable.grown es1.size)
    have hl3 := relayAll_led t2 es1 (SetTable.grown es1.size)
    generalize relayAll t2 es1 (SetTable.grown es1.size) = Z at pm hf3 hr3 hl3 ⊢
    obtain ⟨es2, t3, gave⟩ := Z
    dsimp only at pm hf3 hr3 hl3 ⊢
    rw [r1] at pm
    obtain ⟨L2, p2, r2⟩ := perm_lift pm.symm rfl
    have hsz : es2.size = es1.size := by
      have q1 := congrArg List.length r1
      have q2 := congrArg List.length r2
      have q3 := p2.length_eq
      simp at q1 q2
      omega
    refine wpAny_bind (hg _ _ _ ?_)
    refine wpAny_bind (wpAny_storeSet_of ho1 rfl ?_ (fits_of_scanBound (by rw [hsz]; exact hb1)))
    have ho2 := store_at (es' := es2) (t' := t3) ho1 rfl
    refine wpAny_pure (hR _ L2 es2 (ep + 1 + 1) t3 (sb1.trans (Heap.SameBut.update _ a _)) ?_ p2.symm)
    exact ⟨⟨_, ho2, hex, rfl⟩, r2, (p2.symm.map (·.2)).nodup_iff.mpr nd1, hf3, hr3, hl.imp id fun z => by rw [hl3]; exact z⟩
  · exact wpAny_pure (hR _ L1 es1 (ep + 1) t2 sb1 ⟨⟨_, ho1, hex, rfl⟩, r1, nd1, hf2, hr, hl⟩ (.refl _))
theorem scan_add {k : Key} {v : Value} {Q : Bool → Shared → Prop} (R : SetX w s.heap a L es ep t) (hL : ∀ p ∈ L, IsSc p) (hkey : keyIs k v = true) (room : L.length + 1 < scanBound)
    (hQ : ∀ r h' L' es' ep' t', Heap.SameBut a s.heap h' → SetX w h' a L' es' ep' t' → (kN k ∈ L.map (·.2) → L' = L) → (kN k ∉ L.map (·.2) → L'.Perm ((v, kN k) :: L)) → Q r { s with heap := h' }) :
    wpAny (model P w) A (setAddHashed a v ((mixKind P w).hash k)) Q E s := by
  obtain ⟨o, ho, hex, hd⟩ := R.ob
  have hsz := R.size
  have hkey : (mixKind P w).is k v = true := hkey
  have hsc : v.scannable = true := IsSc.scan (p := (v, kN k)) ⟨k, rfl, hkey⟩
  have hel : ElemsOf (mixKind P w) es.toList := by rw [R.rows]; exact elemsX hL
  have hb : es.size < scanBound := by omega
  unfold setAddHashed setAddHashedIn
  refine wpAny_holding (wpAny_bind (wpAny_setState_of ho hd R.fits ?_))
  dsimp only
  rw [byScan_of hsc hb hel]
  simp only [↓reduceIte]
  unfold setAddByScan
  refine wpAny_bind ?_
  refine wpAny_bind (wpAny_rule ?_)
  refine wpAny_bind (wpAny_setScan_of hkey ho hd R.fits hel ?_)
  cases hfi : List.findIdx? (fun e => (mixKind P w).is k e.2) es.toList with
  | some j =>
    dsimp only
    obtain ⟨hj, pj, _⟩ := List.findIdx?_eq_some_iff_getElem.mp hfi
    have hm : kN k ∈ L.map (·.2) := (memX (P := P) (w := w) hL k).2 (by rw [← R.rows]; exact ⟨es.toList[j], List.getElem_mem hj, pj⟩)
    exact wpAny_pure (wpAny_pure (hQ _ s.heap L es ep t (Heap.SameBut.refl a s.heap) R (fun _ => rfl) fun z => absurd hm z))
  | none =>
    dsimp only
    have hnk : kN k ∉ L.map (·.2) := fun z => by
      obtain ⟨e, he, q⟩ := (memX (P := P) (w := w) hL k).1 z
      have c := List.findIdx?_eq_none_iff.mp hfi e (by rw [R.rows]; exact he)
      rw [q] at c
      cases c
    have hgw : ∀ (b : Bool) {s₁ : Shared} {Q' : Unit → Shared → Prop}, Q' () s₁ → wpAny (model P w) A (match b with | true => rule "set.scan.the-table-gave-way" | false => pure ()) Q' E s₁ :=
      fun b s₁ Q' q => by cases b <;> first | exact wpAny_pure q | exact wpAny_rule q
    have pm := layNew_perm t es ((mixKind P w).hash k) v
    have hf1 := layNew_fits t es ((mixKind P w).hash k) v
    have hr1 := layNew_ris t es ((mixKind P w).hash k) v R.ris
    have hl1 := layNew_led t es ((mixKind P w).hash k) v
    generalize layNew t es ((mixKind P w).hash k) v = Z at pm hf1 hr1 hl1 ⊢
    obtain ⟨es1, t1, wasDummy, gave⟩ := Z
    dsimp only at pm hf1 hr1 hl1 ⊢
    rw [Array.toList_push, R.rows] at pm
    have pc : (((v, kN k) :: L).map (rowX w)).Perm es1.toList := by
      have e : rowX w (v, kN k) = ((mixKind P w).hash k, v) := by
        show ((kN k).hash w, v) = (keyH w k, v)
        rw [kN_hash]
      rw [List.map_cons, e]
      exact (pm.trans (List.perm_append_singleton _ _)).symm
    obtain ⟨L1, p1, q1⟩ := perm_lift pc rfl
    have nd1 : (L1.map (·.2)).Nodup := (p1.symm.map (·.2)).nodup_iff.mpr (by rw [List.map_cons]; exact List.nodup_cons.mpr ⟨hnk, R.nd⟩)
    have hsz1 : es1.size = L.length + 1 := by
      have a1 := congrArg List.length q1
      have a2 := p1.length_eq
      simp at a1 a2
      omega
    have hb1 : es1.size < scanBound := by rw [hsz1]; exact room
    have hled : w.params.followText "set-order" = true ∨ t1.led = true := R.led.imp id fun z => by rw [hl1]; exact z
    have fin : ∀ h' L' es' ep' t', Heap.SameBut a s.heap h' → SetX w h' a L' es' ep' t' → L'.Perm L1 → Q true { s with heap := h' } := fun h' L' es' ep' t' sb r pm => hQ _ h' L' es' ep' t' sb r (fun z => absurd z hnk) fun _ => pm.trans p1.symm
    refine wpAny_bind (hgw _ ?_)
    split
    · refine wpAny_bind ?_
      rw [hashByValue_scannable 8 hsc]
      refine wpAny_pure ?_
      refine scan_tail ?_ ho hex hd q1 nd1 hb1 ?_ ?_ ?_ ?_
      · intro b s₁ Q' q; cases b <;> first | exact wpAny_pure q | exact wpAny_rule q
      · first | (split <;> first | exact hf1 | exact SetTable.fits_plain_off hf1) | exact hf1
      · first | (split <;> exact hr1) | exact hr1
      · first | (split <;> exact hled) | exact hled
      · intro h' L' es' ep' t' sb r pm; dsimp only; exact wpAny_pure (fin h' L' es' ep' t' sb r pm)
    · refine wpAny_bind (wpAny_pure ?_)
      simp only [↓reduceIte]
      refine scan_tail ?_ ho hex hd q1 nd1 hb1 hf1 hr1 hled ?_
      · intro b s₁ Q' q; cases b <;> first | exact wpAny_pure q | exact wpAny_rule q
      · intro h' L' es' ep' t' sb r pm; dsimp only; exact wpAny_pure (fin h' L' es' ep' t' sb r pm)
theorem addScan {S : Addr} {h0 : Heap} {src : List Rw} (hs : ∀ p ∈ src, IsSc p) (hz : src.length < 4000) : AddX P w S h0 src (ScanJ w S) where
  keep := fun h h' L ⟨es, ep, t, R⟩ k => ⟨es, ep, t, R.keep k⟩
  add := fun A s x L Q E hu hx hL hl hk ⟨es, ep, t, R⟩ hQ => by
    obtain ⟨k, e1, e2⟩ := hs x hx
    unfold setAdd
    refine wpAny_holding ?_
    refine wpAny_bind ((mixKind P w).pyHash (k := k) e2 ?_)
    refine scan_add (s := { s with toks := s.toks + 1 }) R (fun p hp => hs p (hL p hp)) e2 (by show _ < 4096; omega) fun r h' L' es' ep' t' sb R' c1 c2 => ?_
    refine hQ r h' L' _ (Nat.le_succ _) sb ⟨es', ep', t', R'⟩ (fun h => c1 (by rw [← e1]; exact h)) fun h => ?_
    have := c2 (by rw [← e1]; exact h)
    rw [← e1] at this
    exact this
theorem freshScan {S : Addr} {h : Heap} (ho : h.get? S = some (freshX w)) : ScanJ w S h [] := by
  refine ⟨#[], 0, .fresh 0 0 (!w.params.followText "set-order"), ⟨_, ho, ⟨rfl, rfl, rfl⟩, rfl⟩, rfl, List.nodup_nil, by rfl, List.Pairwise.nil, ?_⟩
  show _ ∨ (!w.params.followText "set-order") = true
  cases w.params.followText "set-order"
  · exact .inr rfl
  · exact .inl rfl
end
end KB

/-! KB24: adding a tuple to a set, by the table. -/
namespace KB
open PySem PySem.Spec PyProof.Rows
open L2 hiding op_eqD op_neD call_listD
section
variable {P : Program} {w : World} {A : Around} {E : Value → Shared → Prop} {s : Shared}
/-! ### small questions asked of keys -/
def ClsAt (P : Program) (w : World) (n : Nat) (s : Shared) (v : Value) : Prop := ∀ (A : Around) (E : Value → Shared → Prop) (Q : Bool → Shared → Prop), Q false s → wpAny (model P w) A (ofAClassStatement n v) Q E s
theorem cls_tuple {n : Nat} {b : Addr} {o : Obj} {vs : Array Value} {m : Nat} (ho : s.heap.get? b = some o) (hc : o.cls = .type "tuple") (hd : o.data = .seq vs m) (hq : ∀ v ∈ vs.toList, ClsAt P w n s v) : ClsAt P w (n + 1) s (.ref b) := fun A E Q h => by
  have hT : s.TypeIs (.ref b) "tuple" := ⟨o, ho, hc⟩
  unfold ofAClassStatement
  refine wpAny_bind (wpAny_typeOf hT ?_)
  dsimp only
  have e : (("tuple" : String) == "tuple") = true := by decide
  simp only [e, if_true, Bool.not_true, Bool.false_eq_true, if_false]
  try refine wpAny_bind (wpAny_pure ?_)
  try simp only [Bool.not_true, Bool.false_eq_true, if_false]
  show wpAny _ _ (seqItems? (.ref b) >>= _) _ _ s
  refine wpAny_bind (wpAny_seqItems ho hd ?_)
  dsimp only
  refine wpAny_bind ?_
  show wpAny _ _ (forIn vs _ _) _ _ s
  rw [← Array.forIn_toList]
  refine wpAny_forIn_list _ (fun rest r s' => r.1 = none ∧ s' = s ∧ ∀ v ∈ rest, ClsAt P w n s v) _ ?_ ?_ _ _ ⟨rfl, rfl, hq⟩
  · rintro v rest r s' ⟨hr, rfl, hall⟩
    refine wpAny_bind (hall v List.mem_cons_self _ _ _ ?_)
    simp only [Bool.false_eq_true, if_false]
    exact wpAny_pure ⟨rfl, rfl, fun u hu' => hall u (List.mem_cons_of_mem _ hu')⟩
  · rintro ⟨r1, r2⟩ s' ⟨hr, rfl, _⟩
    simp only at hr
    subst hr
    exact wpAny_pure h
mutual
theorem cls_key : ∀ (k : NestedKey) (v : Value) (n : Nat) (s : Shared), NestedIs s.heap k v → k.depth ≤ n → ClsAt P w n s v
  | .none, _, n, s, x, _ => by cases x; intro A E Q h; cases n <;> exact wpAny_pure h
  | .num i, _, n, s, x, _ => by cases x <;> (intro A E Q h; cases n <;> exact wpAny_pure h)
  | .text y, _, n, s, x, _ => by cases x; intro A E Q h; cases n <;> exact wpAny_pure h
  | .tup ks, _, n, s, x, hn => by
    cases x with
    | tup hg hc hd hk =>
      simp only [NestedKey.depth] at hn
      cases n with
      | zero => omega
      | succ n => exact cls_tuple hg hc hd (cls_keys ks _ n s hk (by omega))
theorem cls_keys : ∀ (ks : List NestedKey) (vs : List Value) (n : Nat) (s : Shared), NestedAll s.heap ks vs → NestedKey.depthAll ks ≤ n → ∀ v ∈ vs, ClsAt P w n s v
  | [], _, n, s, x, _, v, hv => by cases x; cases hv
  | k :: ks, _, n, s, x, hn, v, hv => by
    cases x with
    | cons x1 x2 =>
      simp only [NestedKey.depthAll] at hn
      rcases List.mem_cons.mp hv with e | hv
      · rw [e]; exact cls_key k _ n s x1 (by omega)
      · exact cls_keys ks _ n s x2 (by omega) v hv
end
def HbyAt (P : Program) (w : World) (n : Nat) (s : Shared) (v : Value) : Prop := ∀ (A : Around) (E : Value → Shared → Prop) (Q : Bool → Shared → Prop), (∀ b, Q b s) → wpAny (model P w) A (hashByValue n v) Q E s
theorem hby_tuple {n : Nat} {b : Addr} {o : Obj} {vs : Array Value} {m : Nat} (ho : s.heap.get? b = some o) (hc : o.cls = .type "tuple") (hd : o.data = .seq vs m) (hq : ∀ v ∈ vs.toList, HbyAt P w n s v) : HbyAt P w (n + 1) s (.ref b) := fun A E Q h => by
  have hT : s.TypeIs (.ref b) "tuple" := ⟨o, ho, hc⟩
  unfold hashByValue
  refine wpAny_bind (wpAny_specialOf hT F.slot_tuple_hash.lookup ?_)
  show wpAny _ _ (seqItems? (.ref b) >>= _) _ _ s
  refine wpAny_bind (wpAny_seqItems ho hd ?_)
  refine wpAny_bind ?_
  show wpAny _ _ (forIn vs _ _) _ _ s
  rw [← Array.forIn_toList]
  refine wpAny_forIn_list _ (fun rest r s' => r.1 = none ∧ s' = s ∧ ∀ v ∈ rest, HbyAt P w n s v) _ ?_ ?_ _ _ ⟨rfl, rfl, hq⟩
  · rintro v rest r s' ⟨hr, rfl, hall⟩
    refine wpAny_bind (hall v List.mem_cons_self _ _ _ fun z => ?_)
    cases z with
    | true =>
      simp only [Bool.not_true, Bool.false_eq_true, if_false]
      exact wpAny_pure ⟨rfl, rfl, fun u hu' => hall u (List.mem_cons_of_mem _ hu')⟩
    | false =>
      simp only [Bool.not_false, if_true]
      refine wpAny_pure ?_
      exact wpAny_pure (h _)
  · rintro ⟨r1, r2⟩ s' ⟨hr, rfl, _⟩
    simp only at hr
    subst hr
    exact wpAny_pure (h _)
theorem hby_zero {b : Addr} : HbyAt P w 0 s (.ref b) := fun A E Q h => wpAny_pure (h _)
mutual
theorem hby_key : ∀ (k : NestedKey) (v : Value) (n : Nat) (s : Shared), NestedIs s.heap k v → HbyAt P w n s v
  | .none, _, n, s, x => by cases x; intro A E Q h; cases n <;> exact wpAny_pure (h _)
  | .num i, _, n, s, x => by cases x <;> (intro A E Q h; cases n <;> exact wpAny_pure (h _))
  | .text y, _, n, s, x => by cases x; intro A E Q h; cases n <;> exact wpAny_pure (h _)
  | .tup ks, _, n, s, x => by
    cases x with
    | tup hg hc hd hk =>
      cases n with
      | zero => exact hby_zero
      | succ n => exact hby_tuple hg hc hd (hby_keys ks _ n s hk)
theorem hby_keys : ∀ (ks : List NestedKey) (vs : List Value) (n : Nat) (s : Shared), NestedAll s.heap ks vs → ∀ v ∈ vs, HbyAt P w n s v
  | [], _, n, s, x, v, hv => by cases x; cases hv
  | k :: ks, _, n, s, x, v, hv => by
    cases x with
    | cons x1 x2 =>
      rcases List.mem_cons.mp hv with e | hv
      · rw [e]; exact hby_key k _ n s x1
      · exact hby_keys ks _ n s x2 v hv
end
/-- a row: a tuple, its key -/
structure IsTp (h : Heap) (p : Rw) : Prop where
  ref : ∃ x, p.1 = .ref x
  is : NestedIs h p.2 p.1
  dep : p.2.depth ≤ 8
theorem seenX {v : Rw} (hv : IsTp s.heap v) {ys : List Value} (hy : ∀ y ∈ ys, ∃ p : Rw, y = p.1 ∧ IsTp s.heap p) {Q : Bool → Shared → Prop} (h : Q false s) : wpAny (model P w) A (searchCouldBeSeen v.1 ys) Q E s := by
  obtain ⟨⟨b, eb⟩, hk, hd⟩ := hv
  rw [eb] at hk ⊢
  unfold searchCouldBeSeen
  refine wpAny_bind ?_
  refine wpAny_forIn_list _ (fun rest r s' => r.1 = none ∧ s' = s ∧ ∀ y ∈ rest, ∃ p : Rw, y = p.1 ∧ IsTp s.heap p) _ ?_ ?_ _ _ ⟨rfl, rfl, hy⟩
  · rintro y rest r s' ⟨hr, rfl, hall⟩
    obtain ⟨p, rfl, ⟨c, ec⟩, hkc, hdc⟩ := hall y List.mem_cons_self
    have rest' : ∀ y ∈ rest, ∃ p : Rw, y = p.1 ∧ IsTp s'.heap p := fun u hu' => hall u (List.mem_cons_of_mem _ hu')
    rw [ec] at hkc ⊢
    dsimp only
    by_cases hv : (b == c || (carriedByValue (.ref b) && carriedByValue (.ref c))) = true
    · refine wp_if_pos hv ?_
      exact wpAny_pure ⟨rfl, rfl, rest'⟩
    · refine wp_if_neg hv ?_
      refine wpAny_bind (quiet_key _ _ 8 _ hk hd _ _ _ ?_)
      simp only [Bool.not_true, Bool.false_eq_true, if_false]
      refine wpAny_bind (quiet_key _ _ 8 _ hkc hdc _ _ _ ?_)
      simp only [Bool.not_true, Bool.false_eq_true, if_false]
      refine wpAny_bind (cls_key _ _ 8 _ hk hd _ _ _ ?_)
      simp only [Bool.false_eq_true, if_false]
      refine wpAny_bind (cls_key _ _ 8 _ hkc hdc _ _ _ ?_)
      simp only [Bool.false_eq_true, if_false]
      exact wpAny_pure ⟨rfl, rfl, rest'⟩
  · rintro ⟨r1, r2⟩ s' ⟨hr, rfl, _⟩
    simp only at hr
    subst hr
    exact wpAny_pure h
end
end KB

/-! KB25: the table's search and adding, over tuples of any depth. -/
namespace KB
open PySem PySem.Spec PyProof.Rows
open L2 hiding op_eqD op_neD call_listD
theorem TabOk.plainOff {t : SetTable} {hs : List Int} (T : TabOk t hs) : TabOk { t with plain := false } hs := by
  obtain ⟨a, b, c, d, e, f⟩ := T
  exact ⟨a, b, c, d, e, f⟩
section
variable {P : Program} {w : World} {A : Around} {E : Value → Shared → Prop} {s : Shared} {a : Addr} {L : List Rw} {es : Array (Int × Value)} {ep : Nat} {t : SetTable}
theorem SetY.entry (R : SetY w s.heap a L es ep t) {i : Nat} {p : Rw} (h : L[i]? = some p) : es[i]? = some (p.2.hash w, p.1) := by
  rw [← Array.getElem?_toList, R.x.rows, List.getElem?_map, h]
  rfl
theorem SetY.gw (R : SetY w s.heap a L es ep t) : ¬ t.gaveWay = true := by
  unfold SetTable.gaveWay
  rw [mask_odd R.tab.mok]
  decide
abbrev stt (t : SetTable) (h : Int) (c : Nat) : SetTable.Probe := nth t.mask (runAt t.mask (SetTable.bits h % (t.mask + 1)) (SetTable.bits h)) c
theorem nth_dummy (m : Nat) : ∀ (n : Nat) (p : SetTable.Probe), p.dummy = none → (nth m p n).dummy = none := by
  intro n
  induction n with
  | zero => intro p h; exact h
  | succ n ih =>
    intro p h
    refine ih (adv m p) ?_
    unfold adv
    split <;> exact h
theorem search_fromX (R : SetY w s.heap a L es ep t) (hT : ∀ p ∈ L, IsTp s.heap p) {x : Rw} (hx : IsTp s.heap x) (hu : A.units + 8 < cLine) {K : Nat} (hKf : K < 10 * SetTable.turns t.mask)
    (hK : way t.mask (x.2.hash w) K ∉ t.place.toList) (hKb : ∀ c, c < K → way t.mask (x.2.hash w) c ∈ t.place.toList) {Q : SetFound → Shared → Prop}
    (hin : x.2 ∈ L.map (·.2) → Q (.there none) s) (hout : x.2 ∉ L.map (·.2) → Q (.free (way t.mask (x.2.hash w) K) false) s) :
    ∀ (f c : Nat) (stand : Option SetTable.Probe), stand.getD (t.probeStart (x.2.hash w)) = stt t (x.2.hash w) c → c ≤ K → K - c < f →
      (∀ (i : Nat) p, L[i]? = some p → p.2 = x.2 → ∃ c', c ≤ c' ∧ c' < K ∧ t.place.toList[i]? = some (way t.mask (x.2.hash w) c')) →
      wpAny (model P w) A (setSearchFrom a x.1 (x.2.hash w) true f stand) Q E s
  | 0, c, stand, _, _, hf, _ => absurd hf (Nat.not_lt_zero _)
  | f + 1, c, stand, hst, hc, hf, hre => by
    obtain ⟨o, ho, hex, hd⟩ := R.x.ob
    generalize hhx : x.2.hash w = hx0 at *
    rw [setSearchFrom_succ]
    refine wpAny_bind (wpAny_setState_of ho hd R.x.fits ?_)
    dsimp only
    refine wp_if_neg R.gw ?_
    try refine wpAny_bind (wpAny_pure ?_)
    have hnd : (stt t hx0 c).dummy = none := nth_dummy t.mask c _ rfl
    have sh : ∀ q, nth t.mask (stt t hx0 c) q = stt t hx0 (c + q) := fun q => (nth_add t.mask c _ q).symm
    have e1 : ∀ q, (nth t.mask (stt t hx0 c) q).j = way t.mask hx0 (c + q) := fun q => congrArg SetTable.Probe.j (sh q)
    have spec := go_spec t R.tab.ris R.tab.dm (fun i => (es[i]?.map (·.1)).getD 0) hx0 (10 * SetTable.turns t.mask) (K - c) _ hnd (by omega)
      (fun q hq => by rw [e1]; exact hKb (c + q) (by omega)) (by rw [e1, show c + (K - c) = K by omega]; exact hK)
    have hashAt : ∀ (i : Nat) p, L[i]? = some p → (fun i => (es[i]?.map (·.1)).getD 0) i = p.2.hash w := fun i p hp => by
      show (es[i]?.map (·.1)).getD 0 = _
      rw [R.entry hp] <;> rfl
    rcases spec with ⟨q, i, hq, hi, hh, hno, hpr⟩ | ⟨hno, hpr⟩
    · have hpr' : t.probe (fun i => (es[i]?.map (·.1)).getD 0) hx0 (stand.getD (t.probeStart hx0)) = some (.candidate (way t.mask hx0 (c + q)) i (stt t hx0 (c + (q + 1)))) := by
        rw [hst, ← e1, ← sh]
        exact hpr
      rw [hpr']
      dsimp only
      rw [e1] at hi
      have hil : i < L.length := by
        have h1 : i < t.place.toList.length := (List.getElem?_eq_some_iff.mp hi).1
        have h2 := R.tab.sz
        simp at h1 h2
        omega
      have hp : L[i]? = some L[i] := List.getElem?_eq_getElem hil
      generalize hpe : L[i] = p at hp
      have hmem : p ∈ L := List.mem_of_getElem? hp
      have hpt := hT p hmem
      obtain ⟨xa, exa⟩ := hx.ref
      obtain ⟨pa, epa⟩ := hpt.ref
      have rest : wpAny (model P w) A (searchRest a x.1 hx0 true f es t (way t.mask hx0 (c + q)) i (stt t hx0 (c + (q + 1)))) Q E s := by
        unfold searchRest
        rw [R.entry hp]
        dsimp only
        refine wpAny_bind (wpAny_holding (eqAt_key p.2 x.2 A s _ _ hpt.is hx.is (by have := hpt.dep; omega) _ _ _ _ ?_))
        rw [← NestedKey.decide_eq]
        refine wpAny_bind (wpAny_setState_of ho hd R.x.fits ?_)
        dsimp only
        by_cases hkk : p.2 = x.2
        · refine wp_if_pos (by simp [hkk]) ?_
          refine wpAny_pure (hin ?_)
          exact List.mem_map.mpr ⟨p, hmem, hkk⟩
        · refine wp_if_neg (by simp [hkk]) ?_
          try refine wpAny_bind (wpAny_pure ?_)
          rw [sameMem]
          dsimp only
          have hsl : t.slot (way t.mask hx0 (c + q)) = .live i := slot_live R.tab.ris hi
          simp only [if_true, hsl, R.entry hp]
          rw [epa]
          refine wpAny_bind (wpAny_isSame_ref_self (wpAny_bind (wpAny_pure ?_)))
          simp only [if_true]
          refine wp_if_neg (by simp [hkk]) ?_
          subst hhx
          refine search_fromX R hT hx hu hKf hK hKb hin hout f (c + (q + 1)) _ rfl (by omega) (by omega) fun i0 p0 h0 hk0 => ?_
          obtain ⟨c', a1, a2, a3⟩ := hre i0 p0 h0 hk0
          refine ⟨c', ?_, a2, a3⟩
          rcases Nat.lt_or_ge c' (c + q) with z | z
          · exfalso
            refine hno (c' - c) i0 (by omega) (by rw [e1, show c + (c' - c) = c' by omega]; exact a3) ?_
            exact (hashAt i0 p0 h0).trans (by rw [hk0])
          · rcases Nat.lt_or_ge (c + q) c' with y | y
            · omega
            · exfalso
              have ec : c' = c + q := Nat.le_antisymm y z
              rw [ec] at a3
              have s0 := slot_live R.tab.ris a3
              rw [hsl] at s0
              injection s0 with s0
              rw [← s0, hp] at h0
              exact hkk ((congrArg Prod.snd (Option.some.inj h0)).trans hk0)
      by_cases hl : t.led = true
      · refine wp_if_neg (by simp [hl]) ?_
        try refine wpAny_bind (wpAny_pure ?_)
        exact rest
      · refine wp_if_pos (by simp [hl]) ?_
        refine wpAny_bind (seenX hx (fun y hy => ?_) ?_)
        · obtain ⟨e, he, ee⟩ := List.mem_map.mp hy
          have he1 : e ∈ es ∧ e.1 = hx0 := by simpa using he
          have he2 : e ∈ es.toList := by simpa using he1.1
          rw [R.x.rows] at he2
          obtain ⟨p2, hp2, e2⟩ := List.mem_map.mp he2
          refine ⟨p2, ?_, hT p2 hp2⟩
          rw [← ee, ← e2]
          rfl
        · refine wp_if_neg (by decide) ?_
          try refine wpAny_bind (wpAny_pure ?_)
          exact rest
    · have hpr' : t.probe (fun i => (es[i]?.map (·.1)).getD 0) hx0 (stand.getD (t.probeStart hx0)) = some (.empty (way t.mask hx0 K) none) := by
        have e2 : way t.mask hx0 K = (nth t.mask (stt t hx0 c) (K - c)).j := by rw [e1, show c + (K - c) = K by omega]
        rw [hst, e2]
        exact hpr
      rw [hpr']
      dsimp only
      refine wpAny_pure (hout fun hm => ?_)
      obtain ⟨p0, h0, hk0⟩ := List.mem_map.mp hm
      obtain ⟨i0, hi0, e0⟩ := List.getElem_of_mem h0
      have h00 : L[i0]? = some p0 := by rw [List.getElem?_eq_getElem hi0, e0]
      obtain ⟨c', a1, a2, a3⟩ := hre i0 p0 h00 hk0
      refine hno (c' - c) i0 (by omega) (by rw [e1, show c + (c' - c) = c' by omega]; exact a3) ?_
      exact (hashAt i0 p0 h00).trans (by rw [← hhx]; exact congrArg _ hk0)
theorem search_atX (R : SetY w s.heap a L es ep t) (hT : ∀ p ∈ L, IsTp s.heap p) {x : Rw} (hx : IsTp s.heap x) (hu : A.units + 8 < cLine) {Q : SetFound → Shared → Prop}
    (hin : x.2 ∈ L.map (·.2) → Q (.there none) s)
    (hout : ∀ K, x.2 ∉ L.map (·.2) → way t.mask (x.2.hash w) K ∉ t.place.toList → (∀ c, c < K → way t.mask (x.2.hash w) c ∈ t.place.toList) → Q (.free (way t.mask (x.2.hash w) K) false) s) :
    wpAny (model P w) A (setSearch a x.1 (x.2.hash w) true) Q E s := by
  have hroom := R.room
  obtain ⟨K, hKf, hK, hKb⟩ := R.tab.first (by rw [List.length_map]; omega) (x.2.hash w)
  have hbig : K < 100000 := by
    have : 10 * SetTable.turns t.mask ≤ 1420 := by
      unfold SetTable.turns
      rcases R.tab.mok with e | e | e <;> omega
    omega
  unfold setSearch
  refine search_fromX R hT hx hu hKf hK hKb hin (fun hn => hout K hn hK hKb) 100000 0 none rfl (Nat.zero_le _) (by omega) fun i p hp hk => ?_
  have hi : (hsX w L)[i]? = some (x.2.hash w) := by rw [List.getElem?_map, hp, ← hk] <;> rfl
  have hil : i < t.place.toList.length := by
    have h1 : i < L.length := (List.getElem?_eq_some_iff.mp hp).1
    have h2 := R.tab.sz
    simp at h2
    simp
    omega
  have hj := List.getElem?_eq_getElem hil
  obtain ⟨c, hc, e⟩ := R.tab.before hK hi hj
  exact ⟨c, Nat.zero_le _, hc, by rw [hj, e]⟩
end
end KB

/-! KB26: adding by the table. -/
namespace KB
open PySem PySem.Spec PyProof.Rows
open L2 hiding op_eqD op_neD call_listD
theorem filt_range {α : Type} (l : List α) : (List.range l.length).filterMap (fun i => l[i]?) = l := List.filterMap_getElem?_range_length l
theorem order_X {w : World} (L : List Rw) (es : Array (Int × Value)) (order : List Nat) (hr : es.toList = L.map (rowX w)) (hp : order.Perm (List.range L.length)) :
    ∃ L2 : List Rw, order.filterMap (fun i => es[i]?) = L2.map (rowX w) ∧ L2.Perm L ∧ hsX w L2 = order.map fun i => (es.map (·.1)).getD i 0 := by
  have ent : ∀ i : Nat, es[i]? = (L[i]?).map (rowX w) := fun i => by rw [← Array.getElem?_toList, hr, List.getElem?_map]
  have key : ∀ l : List Nat, (∀ i ∈ l, i < L.length) → l.filterMap (fun i => es[i]?) = (l.filterMap fun i => L[i]?).map (rowX w) ∧ hsX w (l.filterMap fun i => L[i]?) = l.map fun i => (es.map (·.1)).getD i 0 := by
    intro l
    induction l with
    | nil => intro _; exact ⟨rfl, rfl⟩
    | cons i l ih =>
      intro hl
      have hi := hl i List.mem_cons_self
      obtain ⟨a1, a2⟩ := ih fun j hj => hl j (List.mem_cons_of_mem _ hj)
      have e1 : L[i]? = some L[i] := List.getElem?_eq_getElem hi
      have e2 : es[i]? = some (rowX w L[i]) := by rw [ent, e1]; rfl
      refine ⟨?_, ?_⟩
      · rw [List.filterMap_cons_some e2, List.filterMap_cons_some e1, List.map_cons, a1]
      · rw [List.filterMap_cons_some e1, List.map_cons]
        have e4 : (es.map (·.1)).getD i 0 = (L[i]).2.hash w := by
          have e5 : (es.map (·.1))[i]? = some ((L[i]).2.hash w) := by rw [Array.getElem?_map, e2]; rfl
          simp [Array.getD_eq_getD_getElem?, e5]
        rw [e4, ← a2]
        rfl
  obtain ⟨a1, a2⟩ := key order fun i hi => List.mem_range.mp (hp.mem_iff.mp hi)
  refine ⟨_, a1, ?_, a2⟩
  have := hp.filterMap fun i => L[i]?
  rw [filt_range] at this
  exact this
section
variable {P : Program} {w : World} {A : Around} {E : Value → Shared → Prop} {s : Shared} {a : Addr} {L : List Rw} {es : Array (Int × Value)} {ep : Nat} {t : SetTable}
theorem relay_X {o : Obj} (ho : s.heap.get? a = some o) (hex : o.ExactSet) (hd : o.data = .set es ep t) (hrows : es.toList = L.map (rowX w)) (hsz : t.place.size = es.size) (hdm : t.dummies = #[]) (hfl : es.size ≤ t.mask)
    (nd : (L.map (·.2)).Nodup) (ld : w.params.followText "set-order" = true ∨ t.led = true) (few : L.length < 64) {wanted M : Nat}
    (hw : SetTable.sizeAbove wanted - 1 = M) (hM : MaskOk M) (hw2 : SetTable.sizeAbove wanted ≤ 128) (hn : L.length * 5 < M * 3) {Q : Unit → Shared → Prop}
    (hQ : ∀ h' L' es' ep' t', Heap.SameBut a s.heap h' → SetY w h' a L' es' ep' t' → L'.Perm L → Q () { s with heap := h' }) : wpAny (model P w) A (setRelay a wanted) Q E s := by
  have hsl : es.size = L.length := by
    have h := congrArg List.length hrows
    simpa using h
  have fitsOf : ∀ (t : SetTable) (n : Nat), t.dummies = #[] → t.place.size = n → n ≤ t.mask → t.fits n = true := fun t n h1 h2 h3 => by
    unfold SetTable.fits SetTable.fill
    rw [h1, Bool.and_eq_true, beq_iff_eq, decide_eq_true_eq]
    show t.place.size = n ∧ t.place.size + 0 ≤ t.mask
    omega
  obtain ⟨t', order, e, hp, T, em, el, ep', ed⟩ := relaid_ok t (hs := es.map (·.1)) (wanted := wanted) hw hM (by rw [Array.size_map, hsl]; omega)
  rw [Array.size_map, hsl] at hp
  obtain ⟨L2, r1, r2, r3⟩ := order_X (w := w) L es order.toList hrows hp
  rw [← r3] at T
  have r1' : (order.filterMap (es[·]?)).toList = L2.map (rowX w) := by rw [Array.toList_filterMap]; exact r1
  have hs2 : (order.filterMap (es[·]?)).size = es.size := by
    have h := congrArg List.length r1'
    rw [Array.length_toList, List.length_map, r2.length_eq] at h
    rw [h, hsl]
  rw [setRelay_eq]
  refine wpAny_bind (wpAny_setState_of ho hd (fitsOf t es.size hdm hsz hfl) ?_)
  dsimp only
  refine wp_if_neg (by rw [sizeLine_eq]; omega) ?_
  try refine wpAny_bind (wpAny_pure ?_)
  rw [e]
  dsimp only
  refine wpAny_bind ?_
  refine wp_if_neg (by rw [hs2]; simp) ?_
  try refine wpAny_bind (wpAny_pure ?_)
  refine wpAny_pure ?_
  dsimp only
  refine wpAny_storeSet_of ho hd ?_ (by rw [hs2, hsl, sizeLine_eq]; omega)
  have sb : Heap.SameBut a s.heap (s.heap.update a (Obj.putSet (order.filterMap (es[·]?)) t')) := Heap.SameBut.update ..
  refine hQ _ L2 (order.filterMap (es[·]?)) (ep + 1) t' sb ⟨⟨⟨_, store_at ho hd, ⟨hex.1, hex.2.1, hex.2.2⟩, rfl⟩, r1', (r2.map (·.2)).nodup_iff.mpr nd, ?_, T.ris, by rw [el]; exact ld⟩, T, ?_, by rw [r2.length_eq]; exact few⟩ r2
  · refine fitsOf t' _ ed ?_ ?_
    · have := T.sz
      rw [hs2, hsl, this, List.length_map, r2.length_eq]
    · rw [hs2, hsl, em]; omega
  · rw [r2.length_eq, em]
    exact hn
theorem add_X (R : SetY w s.heap a L es ep t) (hT : ∀ p ∈ L, IsTp s.heap p) {x : Rw} (hx : IsTp s.heap x) (hu : A.units + 8 < cLine) (hfew : L.length + 1 < 64) {Q : Bool → Shared → Prop}
    (hQ : ∀ b h' L' es' ep' t', Heap.SameBut a s.heap h' → SetY w h' a L' es' ep' t' → (x.2 ∈ L.map (·.2) → L' = L) → (x.2 ∉ L.map (·.2) → L'.Perm (x :: L)) → Q b { s with heap := h' }) :
    wpAny (model P w) A (setAddHashed a x.1 (x.2.hash w)) Q E s := by
  obtain ⟨o, ho, hex, hd⟩ := R.x.ob
  have hsl := R.x.size
  have hroom := R.room
  obtain ⟨xa, exa⟩ := hx.ref
  unfold setAddHashed
  refine wpAny_holding ?_
  rw [show (100000 : Nat) = 99999 + 1 from rfl, setAddHashedIn_succ]
  refine wpAny_bind (wpAny_setState_of ho hd R.x.fits ?_)
  dsimp only
  refine wp_if_neg (by simp [byScan, Value.scannable, exa]) ?_
  try refine wpAny_bind (wpAny_pure ?_)
  refine wpAny_bind (search_atX R hT hx hu (fun hm => ?_) fun K hm hK hb => ?_)
  · dsimp only
    exact wpAny_pure (hQ false s.heap L es ep t (Heap.SameBut.refl a s.heap) R (fun _ => rfl) fun z => absurd hm z)
  · dsimp only
    refine wpAny_bind (wpAny_setState_of ho hd R.x.fits ?_)
    dsimp only
    obtain ⟨q1, q2, q3, q4, q5, q6, q7, q8, q9⟩ := R.tab.put hK hb
    generalize hpt : t.put (way t.mask (x.2.hash w) K) = pt at q1 q3 q4 q5 q6 q7 q8 q9 ⊢
    obtain ⟨t1, p⟩ := pt
    dsimp only at q1 q3 q4 q5 q6 q7 q8 q9 ⊢
    subst q1
    have hin : (SetTable.insertAt es (SetTable.below t.place (way t.mask (x.2.hash w) K)) (x.2.hash w, x.1)).toList = (L.take (SetTable.below t.place (way t.mask (x.2.hash w) K)) ++ x :: L.drop (SetTable.below t.place (way t.mask (x.2.hash w) K))).map (rowX w) := by
      rw [SetTable.toList_insertAt, R.x.rows, List.map_append, List.map_cons, List.map_take, List.map_drop]
      rfl
    generalize hpp : SetTable.below t.place (way t.mask (x.2.hash w) K) = p at q2 q3 hin ⊢
    have pm := put_perm L p x
    have hlen : (L.take p ++ x :: L.drop p).length = L.length + 1 := pm.length_eq
    have hhs : hsX w (L.take p ++ x :: L.drop p) = (hsX w L).take p ++ x.2.hash w :: (hsX w L).drop p := by
      rw [hsX, List.map_append, List.map_cons, List.map_take, List.map_drop]
    rw [← hhs] at q3
    have nd1 : ((L.take p ++ x :: L.drop p).map (·.2)).Nodup := by
      refine (pm.map (·.2)).nodup_iff.mpr ?_
      rw [List.map_cons]
      exact List.nodup_cons.mpr ⟨hm, R.x.nd⟩
    have hes : (SetTable.insertAt es p (x.2.hash w, x.1)).size = L.length + 1 := by
      have h := congrArg List.length hin
      rw [Array.length_toList, List.length_map, hlen] at h
      exact h
    generalize SetTable.insertAt es p (x.2.hash w, x.1) = es1 at hin hes ⊢
    generalize L.take p ++ x :: L.drop p = L1 at pm hlen q3 nd1 hin
    -- what comes behind the question whether the hash hangs on the value
    have go : ∀ t2 : SetTable, TabOk t2 (hsX w L1) → t2.mask = t.mask → t2.led = t.led → t2.fill = L.length + 1 →
        wpAny (model P w) A (do
          storeSet a es1 t2
          if (!false && t2.tooFull) = true then do setRelay a (SetTable.grown (es.size + 1)); pure true
          else pure true) Q E s := fun t2 T2 m2 l2 f2 => by
      refine wpAny_bind (wpAny_storeSet_of ho hd ?_ (by rw [hes, sizeLine_eq]; omega))
      have sb : Heap.SameBut a s.heap (s.heap.update a (Obj.putSet es1 t2)) := Heap.SameBut.update ..
      have ho1 := store_at (es' := es1) (t' := t2) ho hd
      generalize s.heap.update a (Obj.putSet es1 t2) = h1 at sb ho1 ⊢
      have ld1 : w.params.followText "set-order" = true ∨ t2.led = true := by rw [l2]; exact R.x.led
      have hsz1 : t2.place.size = es1.size := by
        have h := T2.sz
        rw [List.length_map, hlen] at h
        rw [h, hes]
      by_cases hf : t2.tooFull = true
      · refine wp_if_pos (by simp [hf]) ?_
        refine wpAny_bind ?_
        have hfull : (L.length + 1) * 5 ≥ t2.mask * 3 := by
          have h := hf
          unfold SetTable.tooFull at h
          rw [decide_eq_true_eq, f2] at h
          exact h
        rw [hsl]
        have cases2 : (t.mask = 7 ∧ L.length = 4) ∨ (t.mask = 31 ∧ L.length = 18) := by
          rcases R.tab.mok with e | e | e
          · left; rw [m2, e] at hfull; rw [e] at hroom; exact ⟨e, by omega⟩
          · right; rw [m2, e] at hfull; rw [e] at hroom; exact ⟨e, by omega⟩
          · exfalso; rw [m2, e] at hfull; omega
        have gx : ∀ M, SetTable.sizeAbove (SetTable.grown (L.length + 1)) - 1 = M → MaskOk M → SetTable.sizeAbove (SetTable.grown (L.length + 1)) ≤ 128 → (L.length + 1) * 5 < M * 3 →
            wpAny (model P w) A (setRelay a (SetTable.grown (L.length + 1))) (fun _ s' => wpAny (model P w) A (pure true) Q E s') E { s with heap := h1 } := fun M h1' h2' h3' h4' => by
          refine relay_X (s := { s with heap := h1 }) ho1 ⟨hex.1, hex.2.1, hex.2.2⟩ rfl hin hsz1 T2.dm (by rw [hes, m2]; rcases cases2 with ⟨e, e2⟩ | ⟨e, e2⟩ <;> omega) nd1 ld1 (by rw [hlen]; exact hfew) h1' h2' h3' (by rw [hlen]; exact h4') ?_
          intro h2 L2 es2 ep2 t2' sb2 R2 pm2
          exact wpAny_pure (hQ true h2 L2 es2 ep2 t2' (sb.trans sb2) R2 (fun z => absurd z hm) fun _ => pm2.trans pm)
        rcases cases2 with ⟨_, e2⟩ | ⟨_, e2⟩
        · refine gx 31 (by rw [e2, size_20]) (.inr (.inl rfl)) (by rw [e2, size_20]; decide) (by omega)
        · refine gx 127 (by rw [e2, size_76]) (.inr (.inr rfl)) (by rw [e2, size_76]; decide) (by omega)
      · refine wp_if_neg (by simp [hf]) ?_
        have h := hf
        unfold SetTable.tooFull at h
        rw [decide_eq_true_eq, f2] at h
        refine wpAny_pure (hQ true h1 L1 es1 (ep + 1) t2 sb ⟨⟨⟨_, ho1, ⟨hex.1, hex.2.1, hex.2.2⟩, rfl⟩, hin, nd1, ?_, T2.ris, ld1⟩, T2, ?_, by rw [hlen]; exact hfew⟩ (fun z => absurd z hm) fun _ => pm)
        · unfold SetTable.fits
          rw [f2, hsz1, hes, Bool.and_eq_true, beq_iff_eq, decide_eq_true_eq]
          exact ⟨rfl, by rcases T2.mok with e | e | e <;> omega⟩
        · rw [hlen]
          omega
    have f1 : t1.fill = L.length + 1 := by rw [q9, List.length_map]
    by_cases hp1 : t1.plain = true
    · first
        | (refine wpAny_bind ?_; refine wp_if_pos hp1 ?_; refine hby_key _ _ 8 _ hx.is _ _ _ fun b => ?_)
        | refine wp_if_pos hp1 (wpAny_bind (hby_key _ _ 8 _ hx.is _ _ _ fun b => ?_))
      cases b with
      | true => exact go t1 q3 q4 q5 f1
      | false => exact go { t1 with plain := false } (TabOk.plainOff q3) q4 q5 f1
    · first
        | (refine wpAny_bind ?_; refine wp_if_neg hp1 ?_; refine wpAny_pure ?_)
        | (refine wp_if_neg hp1 ?_; refine wpAny_bind (wpAny_pure ?_))
      exact go t1 q3 q4 q5 f1
theorem IsTp.keep {h h' : Heap} {p : Rw} (x : IsTp h p) (k : ∀ b o, h.get? b = some o → h'.get? b = some o) : IsTp h' p := ⟨x.ref, NestedIs.at (fun b ob vs n hb _ => k b ob hb) _ _ x.is, x.dep⟩
theorem addTab {S : Addr} {h0 : Heap} {src : List Rw} (hs : ∀ p ∈ src, IsTp h0 p) (hz : src.length < 64) : AddX P w S h0 src (TabJ w S) where
  keep := fun h h' L ⟨es, ep, t, R⟩ k => ⟨es, ep, t, R.x.keep k, R.tab, R.room, R.few⟩
  add := fun A s x L Q E hu hx hL hl hk ⟨es, ep, t, R⟩ hQ => by
    have tx := (hs x hx).keep hk
    unfold setAdd
    refine wpAny_holding ?_
    refine wpAny_bind (pyHash_key _ _ _ _ _ tx.is (by have := tx.dep; omega) ?_)
    refine add_X (s := { s with toks := s.toks + x.2.draws }) R (fun p hp => (hs p (hL p hp)).keep hk) tx (by omega) (by omega) fun r h' L' es' ep' t' sb R' c1 c2 => ?_
    exact hQ r h' L' _ (Nat.le_add_right _ _) sb ⟨es', ep', t', R'⟩ c1 c2
theorem freshTab {S : Addr} {h : Heap} (ho : h.get? S = some (freshX w)) : TabJ w S h [] := by
  refine ⟨#[], 0, .fresh 0 0 (!w.params.followText "set-order"), ⟨⟨_, ho, ⟨rfl, rfl, rfl⟩, rfl⟩, rfl, List.nodup_nil, by rfl, List.Pairwise.nil, ?_⟩, ⟨List.Pairwise.nil, rfl, rfl, .inl rfl, fun x hx => (by cases hx), fun i h j hi => (by simp at hi)⟩, by show 0 * 5 < 7 * 3; decide, by show 0 < 64; decide⟩
  show _ ∨ (!w.params.followText "set-order") = true
  cases w.params.followText "set-order"
  · exact .inr rfl
  · exact .inl rfl
end
end KB

/-! KB27: set(xs), sorted(set) over data. -/
namespace KB
open PySem PySem.Spec PyProof.Rows
open L2 hiding op_eqD op_neD call_listD
/-- an int, a text -/
def scD : D → Bool
  | .int _ => true
  | .str _ => true
  | _ => false
theorem scD_flat : ∀ {d : D}, scD d = true → flatG d = true
  | .int _, _ => rfl
  | .str _, _ => rfl
  | .non, h => nomatch h
  | .bl _, h => nomatch h
  | .tup _, h => nomatch h
  | .ptr _, h => nomatch h
  | .ty _, h => nomatch h
/-- what may be put into a set here: ints and texts, or tuples -/
def SetOk (xs : List D) : Prop := ((∀ x ∈ xs, scD x = true) ∧ xs.length < 4000) ∨ ((∀ x ∈ xs, keyG x) ∧ xs.length < 64)
theorem SetOk.flat {xs : List D} (h : SetOk xs) : ∀ x ∈ xs, flatG x = true := fun x hx => h.elim (fun h => scD_flat (h.1 x hx)) fun h => (h.1 x hx).2.2
/-- of a list, a tuple -/
def collL (C : Cp) : D → List D → Prop
  | .tup ds, xs => xs = ds
  | .ptr p, xs => isL C p xs
  | _, _ => False
def setNR : List D → Cp → DQ → Prop := fun ds C Q => ∃ d xs, ds = [d] ∧ collL C d xs ∧ SetOk xs ∧ ∀ ys p, ys.Nodup → (∀ x, x ∈ ys ↔ x ∈ xs) → ys.length ≤ xs.length → C p = none → Q (.ptr p) (up C p (.st ys))
/-- sorted(set) -/
def sortedSR : List D → Cp → DQ → Prop := fun ds C Q => ∃ p ys, ds = [.ptr p] ∧ C p = some (.st ys) ∧ (∀ zs : List D, zs.Perm ys → SortOk zs) ∧ ∀ (zs : List D) (q : Addr), zs.Perm ys → C q = none → Q (.ptr q) (up C q (.lst (zs.mergeSort leP)))
mutual
/-- data stand for a key -/
theorem nested_rep {X : Cx} {pins : List (Addr × Obj)} {σ : L2.St} {H : Hp} {s : Shared} (I : Inv X pins σ H s) : ∀ (d : D) (v : V) (u : Value), flatG d = true → Rep X.K H d v → RelV v u → NestedIs s.heap (nk d) u
  | .non, _, _, _, r, q => by cases r; cases q; exact .none
  | .int i, _, _, _, r, q => by cases r; obtain ⟨t, rfl⟩ := q; exact .int i t
  | .str l, _, _, _, r, q => by cases r; obtain ⟨t, rfl⟩ := q; exact .text _ t
  | .tup ds, _, _, h, r, q => by
    obtain ⟨a, vs, rfl, hq, hr⟩ := r
    cases q
    obtain ⟨its, rv, ⟨o, ho, hc, n, hd⟩, _⟩ := I.tuple hq
    unfold flatG at h
    exact .tup ho hc hd (by simpa using nested_reps I ds vs its h hr rv)
  | .bl _, _, _, h, _, _ => by unfold flatG at h; cases h
  | .ptr _, _, _, h, _, _ => by unfold flatG at h; cases h
  | .ty _, _, _, h, _, _ => by unfold flatG at h; cases h
theorem nested_reps {X : Cx} {pins : List (Addr × Obj)} {σ : L2.St} {H : Hp} {s : Shared} (I : Inv X pins σ H s) : ∀ (ds : List D) (vs : List V) (us : List Value), flatGs ds = true → Reps X.K H ds vs → Vals vs us → NestedAll s.heap (nks ds) us
  | [], _, _, _, r, q => by cases r; cases q; exact .nil
  | d :: ds, _, _, h, r, q => by
    obtain ⟨v, r2, rfl, a, t⟩ := r
    unfold flatGs at h
    rw [Bool.and_eq_true] at h
    cases q with
    | cons q1 q2 => exact .cons (nested_rep I d v _ h.1 a q1) (nested_reps I ds _ _ h.2 t q2)
end
section
variable {X : Cx} {B : Bs} {pins : List (Addr × Obj)} {σ : L2.St} {H : Hp} {s : Shared}
/-- the rows of the items -/
def srcX (xs : List D) (its : List Value) : List Rw := (its.zip (xs.map nk))
theorem srcX_len {xs : List D} {its : List Value} (h : xs.length = its.length) : (srcX xs its).length = xs.length := by simp [srcX, h]
theorem srcX_at {xs : List D} {its : List Value} {p : Rw} (h : p ∈ srcX xs its) : ∃ (i : Nat) (x : D), xs[i]? = some x ∧ its[i]? = some p.1 ∧ p.2 = nk x := by
  obtain ⟨i, hi, e⟩ := List.getElem_of_mem h
  have e2 : (its.zip (xs.map nk))[i]? = some p := by
    show (srcX xs its)[i]? = some p
    rw [List.getElem?_eq_getElem hi, e]
  obtain ⟨a, b⟩ := List.getElem?_zip_eq_some.mp e2
  rw [List.getElem?_map] at b
  cases hx : xs[i]? with
  | none => rw [hx] at b; cases b
  | some x => rw [hx] at b; exact ⟨i, x, hx, a, (Option.some.inj b).symm⟩
theorem srcX_of {xs : List D} {its : List Value} (h : xs.length = its.length) {x : D} (hx : x ∈ xs) : nk x ∈ (srcX xs its).map (·.2) := by
  obtain ⟨i, hi, e⟩ := List.getElem_of_mem hx
  have h1 : (its.zip (xs.map nk))[i]? = some (its[i]'(by omega), nk x) := by
    rw [List.getElem?_zip_eq_some]
    exact ⟨List.getElem?_eq_getElem _, by rw [List.getElem?_map, List.getElem?_eq_getElem hi, e]; rfl⟩
  exact List.mem_map.mpr ⟨_, List.mem_of_getElem? h1, rfl⟩
theorem pick_rows {K : PySem.W.Frag} {H : Hp} {xs : List D} {its : List Value} {vs : List V} (hr : Reps K H xs vs) (hv : Vals vs its) : ∀ L : List Rw, (∀ p ∈ L, p ∈ srcX xs its) → ∃ ys, RepR K H ys L ∧ ∀ y ∈ ys, y ∈ xs
  | [], _ => ⟨[], .nil, fun y hy => by cases hy⟩
  | p :: L, h => by
    obtain ⟨ys, h1, h2⟩ := pick_rows hr hv L fun q hq => h q (List.mem_cons_of_mem _ hq)
    obtain ⟨i, x, e1, e2, e3⟩ := srcX_at (h p List.mem_cons_self)
    obtain ⟨v, f1, f2⟩ := hr.get e1
    obtain ⟨u, g1, g2⟩ := hv.get f1
    rw [e2] at g1
    cases g1
    refine ⟨x :: ys, .cons ⟨e3.symm, v, f2, g2⟩ h1, fun y hy => ?_⟩
    rcases List.mem_cons.mp hy with e | hy
    · rw [e]; exact List.mem_of_getElem? e1
    · exact h2 y hy
theorem repR_keys {K : PySem.W.Frag} {H : Hp} {ys : List D} {L : List Rw} (h : RepR K H ys L) : ys.map nk = L.map (·.2) := by
  unfold RepR at h
  induction h with
  | nil => rfl
  | cons r t ih => rw [List.map_cons, List.map_cons, r.1, ih]
theorem RepR.len {K : PySem.W.Frag} {H : Hp} {ys : List D} {L : List Rw} (h : RepR K H ys L) : ys.length = L.length := Paired.length h
theorem nodup_map_of {α β : Type} {f : α → β} {l : List α} (h : (l.map f).Nodup) : l.Nodup := List.Pairwise.of_map f (fun _ _ hne e => hne (congrArg f e)) h
theorem setHO_new {P : Program} {w : World} {H : Hp} {h : Heap} {a : Addr} {L : List Rw} (R : SetP w a L h) : ObjOk P w H h a (SetHO w a L) := by
  have there : ∃ o, h.get? a = some o := by
    rcases R.1 with ⟨es, ep, t, R⟩ | ⟨es, ep, t, R⟩
    · obtain ⟨o, ho, _⟩ := R.ob; exact ⟨o, ho⟩
    · obtain ⟨o, ho, _⟩ := R.x.ob; exact ⟨o, ho⟩
  refine ⟨R, there, fun h1 h2 p k => ⟨?_, p.2⟩⟩
  rcases p.1 with ⟨es, ep, t, R⟩ | ⟨es, ep, t, R⟩
  · exact .inl ⟨es, ep, t, R.keep k⟩
  · exact .inr ⟨es, ep, t, R.x.keep k, R.tab, R.room, R.few⟩
theorem call_setD (hcalm : X.calm = true) (hr : X.A.units + 70 < cLine) (hw : B.P = X.prog ∧ B.w = X.w) : CallD X B (.type "set") setNR := by
  intro pins s σ H ys us Q I rx hh
  obtain ⟨ds, C, Qd, r, rl, ⟨d, xs, e, hc, ok, hq⟩, k⟩ := hh
  subst e
  obtain ⟨v, r2, rfl, hv, hn⟩ := r
  cases hn
  obtain ⟨u, rfl, ru⟩ := vals1 rx
  -- the items
  have items : ∃ (a : Addr) (vs : List V) (its : List Value), u = .ref a ∧ (s.heap.IsList a its.toArray ∨ s.heap.IsTuple a its.toArray) ∧ Reps X.K H xs vs ∧ Vals vs its := by
    cases d with
    | tup es =>
      have hc : xs = es := hc
      subst hc
      obtain ⟨a, vs, rfl, hq, hr⟩ := hv
      cases ru
      obtain ⟨its, rv, p, _⟩ := I.tuple hq
      exact ⟨a, vs, its, rfl, .inr p, hr, rv⟩
    | ptr p =>
      cases hv; cases ru
      obtain ⟨vs, hq, hr⟩ := isL.sq rl hc
      obtain ⟨its, rv, pl, _⟩ := I.list hq
      exact ⟨p, vs, its, rfl, .inl pl.isList, hr, rv⟩
    | _ => exact False.elim hc
  obtain ⟨a, vs, its, rfl, hseq, hrep, hval⟩ := items
  have hl : xs.length = its.length := hrep.length.trans hval.length
  have fl := ok.flat
  have nest : ∀ p ∈ srcX xs its, NestedIs s.heap p.2 p.1 := fun p hp => by
    obtain ⟨i, x, e1, e2, e3⟩ := srcX_at hp
    obtain ⟨v, f1, f2⟩ := hrep.get e1
    obtain ⟨u, g1, g2⟩ := hval.get f1
    rw [e2] at g1
    cases g1
    rw [e3]
    exact nested_rep I x v _ (fl x (List.mem_of_getElem? e1)) f2 g2
  have hit : its.toArray.toList = (srcX xs its).map (·.1) := by
    unfold srcX
    rw [List.map_fst_zip (by simp [hl])]
  have hn : H s.heap.objs.size = none := I.hok.fresh (Nat.le_refl _)
  have fin : ∀ (h' : Heap) (tk : Nat) L, SetP X.w s.heap.objs.size L h' → (L.map (·.2)).Nodup → GotX ((srcX xs its).map (·.2)) (srcX xs its).length L (srcX xs its) → (∀ b o, s.heap.get? b = some o → h'.get? b = some o) →
      EP X pins σ Q (.ref s.heap.objs.size) { s with heap := h', toks := tk } := fun h' tk L R nd g kk => by
    obtain ⟨ys, y1, y2⟩ := pick_rows hrep hval L fun p hp => List.mem_of_mem_take (g.sub p hp)
    have ek := repR_keys y1
    have hm : ∀ x, x ∈ ys ↔ x ∈ xs := fun x => by
      refine ⟨y2 x, fun hx => ?_⟩
      have h1 := srcX_of (its := its) hl hx
      obtain ⟨p, hp, e⟩ := List.mem_map.mp h1
      have h2 := g.all p (by rw [List.take_length]; exact hp)
      rw [← ek] at h2
      obtain ⟨y, hy, e2⟩ := List.mem_map.mp h2
      have : y = x := nk_inj y x (fl y (y2 y hy)) (fl x hx) (e2.trans e)
      rw [← this]; exact hy
    have hlen : ys.length ≤ xs.length := by
      have := g.len
      rw [srcX_len hl] at this
      rw [y1.len]; exact this
    have ndy : ys.Nodup := nodup_map_of (f := nk) (by rw [ek]; exact nd)
    have tx : Tx H (upd H s.heap.objs.size (SetHO X.w s.heap.objs.size L)) := tx_new hn
    refine ⟨.ref s.heap.objs.size, upd H s.heap.objs.size (SetHO X.w s.heap.objs.size L), I.laid (t' := tk) kk (Nat.le_refl _) (setHO_new R), rfl, k _ (.ptr s.heap.objs.size) _ (up C s.heap.objs.size (.st ys)) (stp_put (by rw [hn]; exact id) (.inr hn)) (rl.putNew hn ⟨L, ?_, y1.mono tx⟩) rfl (hq ys _ ndy hm hlen (rl.fresh hn))⟩
    rw [upd_same, hw.2]
  have hu : X.A.units + 30 < cLine := by omega
  have lenS := srcX_len (its := its) hl
  rcases ok with ⟨hs, hz⟩ | ⟨hs, hz⟩
  · have sc : ∀ p ∈ srcX xs its, IsSc p := fun p hp => by
      have hp2 := nest p hp
      obtain ⟨i, x, e1, e2, e3⟩ := srcX_at hp
      have := hs x (List.mem_of_getElem? e1)
      cases x with
      | int i =>
        rw [e3] at hp2
        unfold nk at hp2
        cases hx : p.1 with
        | int j t =>
          rw [hx] at hp2
          cases hp2
          exact ⟨.inl i, by rw [e3]; rfl, by rw [hx]; show Value.isInt i (.int i t) = true; simp [Value.isInt]⟩
        | bool b =>
          -- an int of the data stands for no truth
          obtain ⟨v, f1, f2⟩ := hrep.get e1
          obtain ⟨u, g1, g2⟩ := hval.get f1
          rw [e2] at g1
          cases g1
          cases f2
          obtain ⟨t, e⟩ := g2
          rw [hx] at e
          cases e
        | _ => rw [hx] at hp2; cases hp2
      | str l =>
        rw [e3] at hp2
        unfold nk at hp2
        cases hx : p.1 with
        | str j t =>
          rw [hx] at hp2
          cases hp2
          exact ⟨.inr _, by rw [e3]; rfl, by rw [hx]; show Value.isStrOf _ (.str _ t) = true; simp [Value.isStrOf]⟩
        | _ => rw [hx] at hp2; cases hp2
      | _ => exact nomatch this
    have nds : ∀ {h' : Heap} {L : List Rw}, ScanJ X.w s.heap.objs.size h' L → (L.map (·.2)).Nodup := fun ⟨_, _, _, R⟩ => R.nd
    rcases hseq with hseq | hseq
    · exact call_setL (P := X.prog) (w := X.w) (srcX xs its) (I.ok.hd hcalm) hseq hit hu (addScan sc (by rw [lenS]; exact hz)) (fun h ho => freshScan ho) fun h' tk L R g kk => fin h' tk L ⟨.inl R, by have := g.len; omega⟩ (nds R) g kk
    · exact call_setT (P := X.prog) (w := X.w) (srcX xs its) (I.ok.hd hcalm) hseq hit hu (addScan sc (by rw [lenS]; exact hz)) (fun h ho => freshScan ho) fun h' tk L R g kk => fin h' tk L ⟨.inl R, by have := g.len; omega⟩ (nds R) g kk
  · have tp : ∀ p ∈ srcX xs its, IsTp s.heap p := fun p hp => by
      have hp2 := nest p hp
      obtain ⟨i, x, e1, e2, e3⟩ := srcX_at hp
      obtain ⟨⟨ds, ex⟩, hd, _⟩ := hs x (List.mem_of_getElem? e1)
      refine ⟨?_, hp2, by rw [e3]; exact hd⟩
      rw [e3, ex] at hp2
      unfold nk at hp2
      cases hx : p.1 with
      | ref x => exact ⟨x, rfl⟩
      | _ => rw [hx] at hp2; cases hp2
    have nds : ∀ {h' : Heap} {L : List Rw}, TabJ X.w s.heap.objs.size h' L → (L.map (·.2)).Nodup := fun ⟨_, _, _, R⟩ => R.x.nd
    rcases hseq with hseq | hseq
    · exact call_setL (P := X.prog) (w := X.w) (srcX xs its) (I.ok.hd hcalm) hseq hit hu (addTab tp (by rw [lenS]; exact hz)) (fun h ho => freshTab ho) fun h' tk L R g kk => fin h' tk L ⟨.inr R, by have := g.len; omega⟩ (nds R) g kk
    · exact call_setT (P := X.prog) (w := X.w) (srcX xs its) (I.ok.hd hcalm) hseq hit hu (addTab tp (by rw [lenS]; exact hz)) (fun h ho => freshTab ho) fun h' tk L R g kk => fin h' tk L ⟨.inr R, by have := g.len; omega⟩ (nds R) g kk
end
end KB

/-! KB28: sorted(set) over data. -/
namespace KB
open PySem PySem.Spec PyProof.Rows
open L2 hiding op_eqD op_neD call_listD
section
variable {X : Cx} {B : Bs} {pins : List (Addr × Obj)} {σ : L2.St} {H : Hp} {s : Shared}
theorem repR_perm {K : PySem.W.Frag} {H : Hp} {vs : List Value} : ∀ {ys : List D} {L : List Rw}, RepR K H ys L → vs.Perm (L.map (·.1)) → ∃ zs : List D, zs.Perm ys ∧ ∃ us, Reps K H zs us ∧ Vals us vs := by
  intro ys L h p
  -- the pairs of data and rows
  have hz : ∀ {ys : List D} {L : List Rw}, RepR K H ys L → ∃ ps : List (D × Rw), ps.map (·.1) = ys ∧ ps.map (·.2) = L ∧ ∀ q ∈ ps, ∃ v, Rep K H q.1 v ∧ RelV v q.2.1 := by
    intro ys L h
    unfold RepR at h
    induction h with
    | nil => exact ⟨[], rfl, rfl, fun q hq => by cases hq⟩
    | @cons a b _ _ r t ih =>
      obtain ⟨ps, e1, e2, e3⟩ := ih
      refine ⟨(a, b) :: ps, by rw [List.map_cons, e1], by rw [List.map_cons, e2], fun q hq => ?_⟩
      rcases List.mem_cons.mp hq with e | hq
      · rw [e]; exact r.2
      · exact e3 q hq
  obtain ⟨ps, e1, e2, e3⟩ := hz h
  have e4 : L.map (·.1) = ps.map fun q => q.2.1 := by rw [← e2, List.map_map]; rfl
  rw [e4] at p
  obtain ⟨qs, p1, p2⟩ := perm_lift p.symm rfl
  refine ⟨qs.map (·.1), by rw [← e1]; exact p1.symm.map _, ?_⟩
  have e5 : ∀ q ∈ qs, ∃ v, Rep K H q.1 v ∧ RelV v q.2.1 := fun q hq => e3 q (p1.symm.mem_iff.mp hq)
  rw [p2]
  clear p2 p1 p e4 e1 e2 e3
  induction qs with
  | nil => exact ⟨[], rfl, .nil⟩
  | cons q qs ih =>
    obtain ⟨us, a1, a2⟩ := ih fun r hr => e5 r (List.mem_cons_of_mem _ hr)
    obtain ⟨v, b1, b2⟩ := e5 q List.mem_cons_self
    exact ⟨v :: us, ⟨v, us, rfl, b1, a1⟩, .cons b2 a2⟩
theorem call_sortedSD (hB : B.P = X.prog ∧ B.w = X.w) (hr : X.A.units + 70 < cLine) (hcalm : X.calm = true) : CallD X B (.builtin "sorted") sortedSR := by
  intro pins s σ H ys us Q I rx hh
  obtain ⟨ds, C, Qd, r, rl, ⟨p, ys, e, hc, so0, hq⟩, k⟩ := hh
  subst e
  obtain ⟨v, r2, rfl, hv, hn⟩ := r
  cases hn
  obtain ⟨u, rfl, ru⟩ := vals1 rx
  cases hv
  cases ru
  obtain ⟨L, e1, q1⟩ := rl.ok _ _ hc
  rw [hB.2] at e1
  have R : SetP X.w p L s.heap := (I.hok p _ e1).1
  refine Calls.call_function_entry PyProof.Rows.kind_sorted PyProof.Rows.plain_sorted PyProof.Rows.entry_sorted (PyProof.Rows.args_sorted1 _) ?_
  unfold Builtin.«sorted»
  refine wpAny_bind (m := checkCount "sorted" 1 1 _) (wpAny_pure ?_)
  have hx : ∃ es ep t, SetX X.w s.heap p L es ep t := by
    rcases R.1 with ⟨es, ep, t, R⟩ | ⟨es, ep, t, R⟩
    · exact ⟨es, ep, t, R⟩
    · exact ⟨es, ep, t, R.x⟩
  obtain ⟨es, ep, t, Rx⟩ := hx
  obtain ⟨o, ho, hex, hd⟩ := Rx.ob
  have hsz := Rx.size
  have hL := R.2
  refine wpAny_bind (collect_set (A := X.A.in1) (I.ok.hd hcalm) ⟨o, ho, hex.1, hd⟩ Rx.fits (by show es.size < 4096; omega) Rx.ris Rx.led fun s1 vs k1 hz g1 o1 pm => ?_)
  have hes : es.toList.map (·.2) = L.map (·.1) := by
    rw [Rx.rows, List.map_map]
    rfl
  rw [hes] at pm
  obtain ⟨zs, pz, ws, hr1, hr2⟩ := repR_perm q1 pm
  have so := so0 zs pz
  have hlen0 : vs.length ≤ sizeLine := by rw [pm.length_eq, List.length_map, sizeLine_eq]; omega
  refine wpAny_bind (wpAny_newList ?_ hlen0)
  obtain ⟨h', g', d', tk, os'⟩ := s1
  have eg : g' = s.gens := g1
  have eo : os' = s.os := o1
  subst eg eo
  have hoL : (h'.push (seqObj "list" vs.toArray 0)).get? h'.objs.size = some (seqObj "list" vs.toArray 0) := Heap.get?_push_size _ rfl
  have I1 : Inv X pins σ H { s with heap := h', drawn := d', toks := tk } := I.call (ch := []) (d' := d') (t' := tk) (h' := h') (H' := H)
    { keep := fun b o q n _ _ => k1 b o q, slot := fun b o q n _ _ => ⟨o.slots, k1 b o q⟩, free := fun b o q n _ => n, there := fun b o q _ => ⟨o, k1 b o q⟩, tups := fun b xs q => q, frzs := fun b o v q => q, tbls := fun b ps q => ⟨#[], by rw [q]; simp⟩ }
    (fun b o q => (I.hok b o q).stay (fun c v hc z => k1 c v z) (fun c hc => hc) fun c xs hc => hc) I.bare (fun _ z => nomatch z)
  have keep : ∀ b o, h'.get? b = some o → (W.sortingHeap (h'.push (seqObj "list" vs.toArray 0)) h'.objs.size vs).get? b = some o := fun b o e =>
    W.sortingHeap_old (Nat.ne_of_lt (Heap.lt_size e)) (Heap.get?_push_of_some _ e)
  have er : W.EachIs (fun u d => ∃ as, Reads (W.sortingHeap (h'.push (seqObj "list" vs.toArray 0)) h'.objs.size vs) u (toP d) as) vs zs := eachIs_of hr1 hr2 fun d v u m a b => by
    obtain ⟨as, q⟩ := Dp.reads I1 (toP d) v u (dp_of d v (so.np d m).1 a) b
    exact ⟨as, PyProof.Rows.Reads.keeps keep q⟩
  show wpAny _ _ _ _ _ { s with heap := h'.push (seqObj "list" vs.toArray 0), drawn := d', toks := tk }
  have S : W.SortsAt X.prog X.w X.A.in1.in1 { s with heap := W.sortingHeap (h'.push (seqObj "list" vs.toArray 0)) h'.objs.size vs, drawn := d', toks := tk } (W.dataKind (W.sortingHeap (h'.push (seqObj "list" vs.toArray 0)) h'.objs.size vs) (zs.map toP)) vs :=
    sortsX (s := { s with heap := W.sortingHeap (h'.push (seqObj "list" vs.toArray 0)) h'.objs.size vs, drawn := d', toks := tk }) (W.each_map (R := fun v d => ∃ as, Reads _ v d as) toP er) so.ok fun d hd => by
      obtain ⟨b, hb, rfl⟩ := List.mem_map.mp hd
      rw [depth_toP]
      have := (so.np b hb).2
      show X.A.units + 1 + 1 + _ < cLine
      omega
  refine wpAny_bind (wpAny_holding (wpAny_call_entry PyProof.Rows.slot_list_sort ⟨_, hoL, rfl⟩ PyProof.Rows.entry_list_sort
    (W.list_sort_vals (s := { s with heap := h'.push (seqObj "list" vs.toArray 0), drawn := d', toks := tk }) hoL S hlen0 ⟨_, rfl, ?_⟩) (PyProof.Rows.args_list_sort _)))
  have out : W.EachIs (fun u d => ∃ v, Rep X.K H d v ∧ RelV v u) _ (zs.mergeSort leP) := valsX (R := fun u d => ∃ v, Rep X.K H d v ∧ RelV v u) false (eachIs_of hr1 hr2 fun d v u _ a b => ⟨v, a, b⟩) er so.ok
  obtain ⟨ws', g1', g2'⟩ := stand_of (X := X) (H := H) out
  obtain ⟨e', he'⟩ := PyProof.Rows.sortedHeap_at (vs := vs) (out := (W.sortVals (W.dataKind (W.sortingHeap (h'.push (seqObj "list" vs.toArray 0)) h'.objs.size vs) (zs.map toP)) false vs vs).toArray) hoL
  have hlen : ws'.length ≤ sizeLine := by
    rw [← g1'.length, List.length_mergeSort, hr1.length, hr2.length]
    exact hlen0
  have hfr : H h'.objs.size = none := I1.hok.fresh (Nat.le_refl _)
  obtain ⟨a1, a2⟩ := rl.newL (p := h'.objs.size) hfr g1'
  refine wpAny_pure ⟨_, rfl, .ref h'.objs.size, upd H h'.objs.size (.lst ws'), I1.laid (t' := tk) (fun b u e => ?_) (Nat.le_refl _)
    (show ObjOk X.prog X.w _ _ _ (.lst ws') from ⟨hlen, _, e', g2', he'⟩), rfl, k _ _ _ _ a1 a2 (repP _) (hq zs _ pz (rl.fresh hfr))⟩
  have hb : b < h'.objs.size := Heap.lt_size e
  rw [PyProof.Rows.sortedHeap_old (Nat.ne_of_lt hb) (by rw [size_push']; exact Nat.lt_succ_of_lt hb)]
  exact Heap.get?_push_of_some _ e
end
end KB

/-! KB29: instances of own classes over data. -/
namespace KB
open PySem PySem.Spec PyProof.Rows
open L2 hiding op_eqD op_neD call_listD
/-- the class of that name -/
structure ClsN (K : PySem.W.Frag) (n : Str) (C : Addr) : Prop where
  at_ : PySem.W.nsIn K mainGlobals n = some (some (.ref C))
  cls : Cls K C
def putFd (f : Str) (v : D) : Fs → Fs
  | [] => [(f, v)]
  | (g, x) :: r => if g = f then (g, v) :: r else (g, x) :: putFd f v r
def lookF (fs : Fs) (f : Str) : Option D := (fs.find? fun p => decide (p.1 = f)).map (·.2)
theorem repF_put {K : PySem.W.Frag} {H : Hp} {f : Str} {d : D} {v : V} (r : Rep K H d v) : ∀ {fs : Fs} {ws : List (Str × V)}, RepK id K H fs ws → RepK id K H (putFd f d fs) (putF f v ws) := by
  intro fs ws h
  unfold RepK at h ⊢
  induction h with
  | nil => exact .cons ⟨rfl, r⟩ .nil
  | @cons p q _ _ a t ih =>
    obtain ⟨g, x⟩ := p
    obtain ⟨g', y⟩ := q
    obtain ⟨e, a⟩ := a
    have e : g = g' := e
    subst e
    unfold putFd putF
    by_cases h : g = f
    · rw [if_pos h, if_pos h]
      exact .cons ⟨rfl, r⟩ t
    · rw [if_neg h, if_neg h]
      exact .cons ⟨rfl, a⟩ ih
theorem repF_look {K : PySem.W.Frag} {H : Hp} {f : Str} {d : D} : ∀ {fs : Fs} {ws : List (Str × V)}, RepK id K H fs ws → lookF fs f = some d → ∃ v, ws.lookup f = some v ∧ Rep K H d v := by
  intro fs ws h e
  unfold RepK at h
  induction h with
  | nil => cases e
  | @cons p q _ _ a t ih =>
    obtain ⟨g, x⟩ := p
    obtain ⟨g', y⟩ := q
    obtain ⟨e1, a⟩ := a
    have e1 : g = g' := e1
    subst e1
    unfold lookF at e ih
    by_cases h : g = f
    · rw [List.find?_cons_of_pos (by simpa using h)] at e
      cases e
      refine ⟨y, ?_, a⟩
      rw [h]
      simp [List.lookup]
    · rw [List.find?_cons_of_neg (by simpa using h)] at e
      obtain ⟨v, h1, h2⟩ := ih e
      refine ⟨v, ?_, h2⟩
      have : (f == g) = false := by simpa using fun z : f = g => h z.symm
      simp [List.lookup, this, h1]
theorem repF_none {K : PySem.W.Frag} {H : Hp} {f : Str} : ∀ {fs : Fs} {ws : List (Str × V)}, RepK id K H fs ws → lookF fs f = none → ws.lookup f = none := by
  intro fs ws h e
  unfold RepK at h
  induction h with
  | nil => rfl
  | @cons p q _ _ a t ih =>
    obtain ⟨g, x⟩ := p
    obtain ⟨g', y⟩ := q
    obtain ⟨e1, a⟩ := a
    have e1 : g = g' := e1
    subst e1
    unfold lookF at e ih
    by_cases h : g = f
    · rw [List.find?_cons_of_pos (by simpa using h)] at e
      cases e
    · rw [List.find?_cons_of_neg (by simpa using h)] at e
      have : (f == g) = false := by simpa using fun z : f = g => h z.symm
      simp [List.lookup, this, ih e]
section
variable {X : Cx} {B : Bs} {pos : Pos} {a b c tg e o : Expr} {ta tb tc to ty tv : DE} {rest es : List Expr} {tr : DA} {n : Str} {C : Addr}
/-- an instance there -/
theorem ins_at {K : PySem.W.Frag} {H : Hp} {Cs : Cp} (c : ClsN K n C) (rl : Rl K B H Cs) {p : Addr} {fs : Fs} (h : Cs p = some (.ins n fs)) : ∃ dx ws, H p = some (.ins C dx ws) ∧ RepK id K H fs ws := by
  obtain ⟨C', dx, ws, e1, e2, e3⟩ := rl.ok _ _ h
  rw [c.at_] at e1
  cases e1
  exact ⟨dx, ws, e2, e3⟩
def dFld (n f : Str) (to : DE) : DE := fun s C Q => to s C fun x C1 => ∃ p fs v, x = .ptr p ∧ C1 p = some (.ins n fs) ∧ lookF fs f = some v ∧ Q v C1
theorem j_fld {f : Str} (c : ClsN X.K n C) (na : NoAttr X.K C f) (he : JE X B e to) (hb : attributeBase e f X.env (eval e X.env) = eval e X.env := by rfl) : JE X B (.Attribute e f pos) (dFld n f to) := PE.imp (pe_fld he hb) fun σ H Q h => by
  obtain ⟨sl, Cs, Qd, rs, rl, h, k⟩ := h
  refine ⟨sl, Cs, _, rs, rl, h, fun v d H1 C1 st1 rl1 r q => ?_⟩
  obtain ⟨p, fs, w, e, hp, hl, q⟩ := q
  subst e
  cases r
  obtain ⟨dx, ws, e2, e3⟩ := ins_at c rl1 hp
  obtain ⟨v, h1, h2⟩ := repF_look e3 hl
  exact ⟨p, C, dx, ws, v, rfl, e2, c.cls, na, h1, k v w H1 C1 st1 rl1 h2 q⟩
def dSetF (n f : Str) (to tv : DE) : DS := fun D s C => tv s C fun y C1 => to s C1 fun x C2 => ∃ p fs, x = .ptr p ∧ C2 p = some (.ins n fs) ∧ fs.length < 1000 ∧ D.nx s (up C2 p (.ins n (putFd f y fs)))
theorem repF_len {α β : Type} {f : α → β} {K : PySem.W.Frag} {H : Hp} {l : List (α × D)} {m : List (β × V)} (h : RepK f K H l m) : l.length = m.length := Paired.length h
theorem js_fset {f : Str} {pos' : Pos} {value : Expr} (c : ClsN X.K n C) (na : NoAttr X.K C f) (ho : JE X B o to) (hv : JE X B value tv) (hs : swapsWith value (some (.Attribute o f pos')) pos.line X.env = pure false := by rfl) : JS X B (.Assign [.Attribute o f pos'] value pos) (dSetF n f to tv) := PS.imp (ps_fld ho hv hs) fun D σ H h => by
  obtain ⟨sl, Cs, Dd, rs, rl, h, k⟩ := h
  refine ⟨sl, Cs, _, rs, rl, h, fun y dy H1 C1 st1 rl1 ry q => ⟨sl, C1, _, rs.mono st1.tx, rl1, q, fun x dx0 H2 C2 st2 rl2 rx q => ?_⟩⟩
  obtain ⟨p, fs, e, hp, hl, q⟩ := q
  subst e
  cases rx
  obtain ⟨dx, ws, e2, e3⟩ := ins_at c rl2 hp
  have nf : ¬ Frz (H2 p) := by rw [e2]; exact id
  have hn : C2 p ≠ none := by rw [hp]; exact fun z => nomatch z
  have tx := tx_upd (o := .ins C dx (putF f y ws)) nf
  refine ⟨p, C, dx, ws, rfl, e2, c.cls, na, by rw [← repF_len e3]; exact hl, ?_⟩
  have st3 := stp_put (o := .ins C dx (putF f y ws)) (c := .ins n (putFd f dy fs)) nf (.inl hn)
  exact k.nx σ sl _ _ ((st1.trans st2).trans st3) (rl2.put nf (.inl hn) ⟨C, dx, _, c.at_, upd_same, (repF_put (ry.mono st2.tx) e3).mono tx⟩) (rs.mono ((st1.trans st2).trans st3).tx) q
/-- C(..): a new instance, then __init__ -/
def dMake (n : Str) (F : DSp) (dd : List D) (t : DA) : DE := fun s C Q => t s C fun ds C1 => ∀ p, C1 p = none → F (.ptr p :: (ds ++ dd)) (up C1 p (.ins n [])) (fun v C2 => v = .non ∧ Q (.ptr p) C2) fun _ _ => False
theorem make_lift {m : Nat} {F : DSp} {dd : List D} {dvs : List V} {σ : L2.St} {H : Hp} {Q : VK} (c : ClsN X.K n C) (hd : ∀ H, Reps X.K H dd dvs) (hl : ∀ ds C Q E, F ds C Q E → ds.length = m) (h : lE X.K B (dMake n F dd tr) σ H Q) : tMake C (lSp B.P B.w X.K m F) dvs E0 (lA X.K B tr) σ H Q := by
  obtain ⟨sl, Cs, Qd, rs, rl, h, k⟩ := h
  refine ⟨sl, Cs, _, rs, rl, h, fun vs ds H1 C1 st1 rl1 r q x dx hx hdx ne => ?_⟩
  have q := q x (rl1.fresh hx)
  have h1 : upd H1 dx (.own x) x = none := by rw [upd_ne (Ne.symm ne)]; exact hx
  have rlm := rl1.more (o := .own x) hdx
  have rl2 : Rl X.K B (upd (upd H1 dx (.own x)) x (.ins C dx [])) (up C1 x (.ins n [])) := rlm.putNew h1 ⟨C, dx, [], c.at_, upd_same, .nil⟩
  have st2 : Stp H1 C1 (upd (upd H1 dx (.own x)) x (.ins C dx [])) (up C1 x (.ins n [])) := (stp_more hdx).trans (stp_put (by rw [h1]; exact id) (.inr h1))
  have r2 := (r.append (hd H1)).mono st2.tx
  have r3 : Reps X.K (upd (upd H1 dx (.own x)) x (.ins C dx [])) (.ptr x :: (ds ++ dd)) (.ref x :: (vs ++ dvs)) := ⟨_, _, rfl, rfl, r2⟩
  refine ⟨by rw [← r3.length]; exact hl _ _ _ _ q, _, _, _, r3, ⟨rl2.ok, rl2.ti⟩, q, fun v d H' C' st ok rv q => ?_⟩
  obtain ⟨e, q⟩ := q
  subst e
  cases rv
  exact ⟨rfl, k _ (.ptr x) H' C' ((st1.trans st2).trans st) ⟨(rl2.st).trans st, ok.1, ok.2⟩ rfl q⟩
theorem j_make {k m : Nat} {f : Addr} {fd : FuncData} {ps : List Str} {F : DSp} {ds : List Value} {x : Str} {p : Pos} (dd : List D) {dvs : List V} (c : ClsN X.K n C) (M : Mk X.K C f) (G : FnG X.prog X.w X.K X.mg X.base CX0 k f fd ps (lSp B.P B.w X.K m F)) (hr : RoomG (k + 1) X.A) (hm : X.mg x = some (.ref C)) (hb : Binds X.K fd ps ds)
    (hl : ∀ ds C Q E, F ds C Q E → ds.length = m) (hd : Vals dvs ds) (hdd : ∀ H, Reps X.K H dd dvs) (ha : JA X B (e :: es) tr) (hg : Gl X x := by rfl) (hdb : (x == ("__debug__" : Str)) = false := by decide)
    (he : starEach (e :: es) X.env = (false, eval e X.env) :: starEach es X.env := by rfl) (hpl : (backTo pos (starEach es X.env)).any (·.1) = false := by rfl) : JE X B (.Call (.Name x p) (e :: es) [] pos) (dMake n F dd tr) :=
  PE.imp (makeG M G hr.gd hr.toRoom hg hm hb hd pass0 ha hdb he hpl) fun _ _ _ h => make_lift c hdd hl h
theorem j_make0 {k m : Nat} {f : Addr} {fd : FuncData} {ps : List Str} {F : DSp} {ds : List Value} {x : Str} {p : Pos} (dd : List D) {dvs : List V} (c : ClsN X.K n C) (M : Mk X.K C f) (G : FnG X.prog X.w X.K X.mg X.base CX0 k f fd ps (lSp B.P B.w X.K m F)) (hr : RoomG (k + 1) X.A) (hm : X.mg x = some (.ref C)) (hb : Binds X.K fd ps ds)
    (hl : ∀ ds C Q E, F ds C Q E → ds.length = m) (hd : Vals dvs ds) (hdd : ∀ H, Reps X.K H dd dvs) (hg : Gl X x := by rfl) (hdb : (x == ("__debug__" : Str)) = false := by decide) : JE X B (.Call (.Name x p) [] [] pos) (dMake n F dd dNil) :=
  PE.imp (make0G M G hr.gd hr.toRoom hg hm hb hd pass0 hdb) fun σ H Q h => by
    have h2 := make_lift (tr := dNil) c hdd hl h
    intro x dx hx hdx ne
    obtain ⟨sl, Cs, Qd, rs, rl, h, k⟩ := h2
    exact k [] [] H Cs (Stp.refl _ _) rl .nil h x dx hx hdx ne
/-- o.m(..) of an instance -/
def dMeth (n m : Str) (F : DSp) (dd : List D) (to : DE) (t : DA) : DE := fun s C Q => to s C fun x C1 => ∃ p fs, x = .ptr p ∧ C1 p = some (.ins n fs) ∧ lookF fs m = none ∧ t s C1 fun ds C2 => F (x :: (ds ++ dd)) C2 Q fun _ _ => False
theorem meth_lift {m : Str} {nn : Nat} {F : DSp} {dd : List D} {dvs : List V} {σ : L2.St} {H : Hp} {Q : VK} (c : ClsN X.K n C) (hd : ∀ H, Reps X.K H dd dvs) (hl : ∀ ds C Q E, F ds C Q E → ds.length = nn) (h : lE X.K B (dMeth n m F dd to tr) σ H Q) : tMeth C m (lSp B.P B.w X.K nn F) dvs E0 (lE X.K B to) (lA X.K B tr) σ H Q := by
  obtain ⟨sl, Cs, Qd, rs, rl, h, k⟩ := h
  refine ⟨sl, Cs, _, rs, rl, h, fun x d H1 C1 st1 rl1 r q => ?_⟩
  obtain ⟨p, fs, e, hp, hl0, q⟩ := q
  subst e
  cases r
  obtain ⟨dx, ws, e2, e3⟩ := ins_at c rl1 hp
  refine ⟨p, dx, ws, rfl, e2, repF_none e3 hl0, sl, C1, _, rs.mono st1.tx, rl1, q, fun vs ds H2 C2 st2 rl2 r2 q => ?_⟩
  have r3 : Reps X.K H2 (.ptr p :: (ds ++ dd)) (.ref p :: (vs ++ dvs)) := ⟨_, _, rfl, rfl, r2.append (hd H2)⟩
  exact ⟨by rw [← r3.length]; exact hl _ _ _ _ q, _, C2, Qd, r3, ⟨rl2.ok, rl2.ti⟩, q, fun v d H' C' st ok r q => k v d H' C' ((st1.trans st2).trans st) ⟨rl2.st.trans st, ok.1, ok.2⟩ r q⟩
theorem j_meth {k nn : Nat} {f : Addr} {fd : FuncData} {ps : List Str} {F : DSp} {ds : List Value} {m : Str} {apos : Pos} {pl : Sem Bool} (dd : List D) {dvs : List V} (c : ClsN X.K n C) (hm : Meth X.K C m f) (G : FnG X.prog X.w X.K X.mg X.base CX0 k f fd ps (lSp B.P B.w X.K nn F)) (hr : RoomG k X.A) (hb : Binds X.K fd ps ds)
    (hl : ∀ ds C Q E, F ds C Q E → ds.length = nn) (hd : Vals dvs ds) (hdd : ∀ H, Reps X.K H dd dvs) (ho : JE X B o to) (ha : JA X B (e :: es) tr)
    (hst : starEach (e :: es) X.env = (false, eval e X.env) :: starEach es X.env := by rfl) (hpl : (backTo pos (starEach es X.env)).any (·.1) = false := by rfl)
    (ht : eval (.Call (.Attribute o m apos) (e :: es) [] pos) X.env = (do
      let ov ← eval o X.env
      standAt apos.atName
      let (f, first) ← holding [ov] (getMethod ov m pl)
      callWith pos f first (backTo pos (starEach (e :: es) X.env)) (backToKw pos (keywordEach [] X.env))) := by rfl) : JE X B (.Call (.Attribute o m apos) (e :: es) [] pos) (dMeth n m F dd to tr) :=
  PE.imp (methG ho c.cls hm G hr.gd hr.toRoom hb hd pass0 ha hst hpl ht) fun _ _ _ h => meth_lift c hdd hl h
theorem j_meth0 {k nn : Nat} {f : Addr} {fd : FuncData} {ps : List Str} {F : DSp} {ds : List Value} {m : Str} {apos : Pos} {pl : Sem Bool} (dd : List D) {dvs : List V} (c : ClsN X.K n C) (hm : Meth X.K C m f) (G : FnG X.prog X.w X.K X.mg X.base CX0 k f fd ps (lSp B.P B.w X.K nn F)) (hr : RoomG k X.A) (hb : Binds X.K fd ps ds)
    (hl : ∀ ds C Q E, F ds C Q E → ds.length = nn) (hd : Vals dvs ds) (hdd : ∀ H, Reps X.K H dd dvs) (ho : JE X B o to)
    (ht : eval (.Call (.Attribute o m apos) [] [] pos) X.env = (do
      let ov ← eval o X.env
      standAt apos.atName
      let (f, first) ← holding [ov] (getMethod ov m pl)
      callWith pos f first (backTo pos (starEach [] X.env)) (backToKw pos (keywordEach [] X.env))) := by rfl) : JE X B (.Call (.Attribute o m apos) [] [] pos) (dMeth n m F dd to dNil) :=
  PE.imp (meth0G ho c.cls hm G hr.gd hr.toRoom hb hd pass0 ht) fun σ H Q h => by
    have h2 := meth_lift (tr := dNil) c hdd hl h
    obtain ⟨sl, Cs, Qd, rs, rl, h, k⟩ := h2
    refine ⟨sl, Cs, _, rs, rl, h, fun x d H1 C1 st1 rl1 r q => ?_⟩
    obtain ⟨a, dx, fs, e, e1, e2, q⟩ := k x d H1 C1 st1 rl1 r q
    refine ⟨a, dx, fs, e, e1, e2, ?_⟩
    obtain ⟨sl, Cs, Qd, rs, rl, h, k⟩ := q
    exact k [] [] H1 Cs (Stp.refl _ _) rl .nil h
end
end KB

/-! KB30: list(zip(xs, ys)). -/
namespace KB
open PySem PySem.Spec PyProof.Rows
open L2 hiding op_eqD op_neD call_listD
theorem zip_no_len : typeLookup (.type "zip") "__len__" = pure none := by rw [typeLookup_type, builtinLookup_eq_fast]; kernel_rfl
theorem zip_no_hint : typeLookup (.type "zip") "__length_hint__" = pure none := by rw [typeLookup_type, builtinLookup_eq_fast]; kernel_rfl
/-- several new objects at once -/
theorem laid_many {X : Cx} {pins : List (Addr × Obj)} {σ : L2.St} {H H' : Hp} {s : Shared} {h' : Heap} {tk : Nat} (I : Inv X pins σ H s) (low : ∀ b, b < s.heap.objs.size → H' b = H b) (k : ∀ b o, s.heap.get? b = some o → h'.get? b = some o)
    (new : ∀ b o, s.heap.objs.size ≤ b → H' b = some o → ObjOk X.prog X.w H' h' b o) : Inv X pins σ H' { s with heap := h', toks := tk } := by
  have lt : ∀ {b : Addr} {o : HO}, H b = some o → b < s.heap.objs.size := fun {b o} e => (I.hok b o e).lt
  have kp : ∀ {b : Addr} {o : HO}, H b = some o → H' b = some o := fun e => (low _ (lt e)).trans e
  refine I.un ⟨fun b o q _ _ _ => k b o q, fun b o q _ _ _ => ⟨o.slots, k b o q⟩, fun b o q n _ => ?_, fun b o q _ => ⟨o, k b o q⟩, fun b xs q => kp q, fun b o u q => kp q, fun b ps q => ⟨#[], by rw [kp q]; simp⟩⟩ fun b o q => ?_
  · rw [low b (Heap.lt_size q)]; exact n
  · rcases Nat.lt_or_ge b s.heap.objs.size with h | h
    · rw [low b h] at q
      exact (I.hok b o q).stay (fun c v _ z => k c v z) (fun c hc => kp hc) fun c xs hc => kp hc
    · exact new b o h q
section
variable {P : Program} {w : World} {A : Around} {E : Value → Shared → Prop} {R : Result → Shared → Prop} {s : Shared}
structure ZipSt (h : Heap) (S z TI TO i1 i2 l1 l2 : Addr) (xs ys : Array Value) (i : Nat) : Prop where
  ti : IsPair h TI (.ref i1) (.ref i2)
  h1 : h.IsListIter i1 l1 i
  h2 : h.IsListIter i2 l2 i
  l1 : h.IsList l1 xs
  l2 : h.IsList l2 ys
  to_ : ∃ o, h.get? TO = some o
  zz : (IsZip h z TI TO .none ∧ ∃ a b, IsPair h TO a b) ∨ ∃ T f oT, IsZipHeld h z TI TO T f ∧ h.get? T = some oT ∧ T ≠ z ∧ T ≠ i1 ∧ T ≠ i2 ∧ T ≠ S
/-- what came out so far -/
structure ZipOut (h0 h : Heap) (S z TI TO i1 i2 : Addr) (xs ys : Array Value) (i : Nat) (Ts : List Addr) : Prop where
  len : Ts.length = i
  nd : Ts.Nodup
  at_ : ∀ (j : Nat) (T : Addr), Ts[j]? = some T → ∃ x y, xs[j]? = some x ∧ ys[j]? = some y ∧ IsPair h T x y
  off : ∀ T ∈ Ts, T ≠ S ∧ T ≠ z ∧ T ≠ TO ∧ T ≠ i1 ∧ T ≠ i2 ∧ h0.objs.size ≤ T
theorem zip_typeIs {h : Heap} {S z TI TO i1 i2 l1 l2 : Addr} {xs ys : Array Value} {i : Nat} (st : ZipSt s.heap S z TI TO i1 i2 l1 l2 xs ys i) : s.TypeIs (.ref z) "zip" := by
  rcases st.zz with ⟨hz, _⟩ | ⟨T, f, oT, hz, _⟩
  · exact ⟨_, hz, rfl⟩
  · exact ⟨_, hz, rfl⟩
theorem zip_self {h : Heap} {S z TI TO i1 i2 l1 l2 : Addr} {xs ys : Array Value} {Q : Value → Shared → Prop} (hz : IsZip s.heap z TI TO .none) (hQ : Q (.ref z) s) : wpAny (model P w) A (pyIter (.ref z)) Q E s := wpAny_pyIter_zip hz hQ
theorem zip_loop {S z TI TO i1 i2 l1 l2 : Addr} (D : ZipApart z TI TO i1 i2 l1 l2) (xs ys : Array Value) (hh : A.handled = none) (sz : S ≠ z) (sTI : S ≠ TI) (sTO : S ≠ TO) (s1 : S ≠ i1) (s2 : S ≠ i2) (sl1 : S ≠ l1) (sl2 : S ≠ l2) (res : Value) (h0 : Heap)
    (hz0 : min xs.size ys.size ≤ sizeLine) :
    ∀ (k i : Nat) (s : Shared) (Ts : List Addr) (acc : Array Value) (c : Nat), min xs.size ys.size - i = k → i ≤ min xs.size ys.size → ZipSt s.heap S z TI TO i1 i2 l1 l2 xs ys i → ZipOut h0 s.heap S z TI TO i1 i2 xs ys i Ts → h0.objs.size ≤ s.heap.objs.size →
      s.heap.get? S = some { cls := .type "list", dict := none, data := .seq acc c, slots := #[] } → acc.toList = Ts.map Value.ref →
      (∀ h' Ts' acc' c', ZipOut h0 h' S z TI TO i1 i2 xs ys (min xs.size ys.size) Ts' → h'.get? S = some { cls := .type "list", dict := none, data := .seq acc' c', slots := #[] } → acc'.toList = Ts'.map Value.ref →
        (∀ b o, b ≠ S → b ≠ z → b ≠ TO → b ≠ i1 → b ≠ i2 → s.heap.get? b = some o → h'.get? b = some o) → R (.ok (.ret res)) { s with heap := h' }) →
      codeAny (model P w) A (.builtin "list.extend.loop" ⟨[.ref S, .ref z, res], []⟩) R s := by
  intro k
  induction k with
  | zero =>
    intro i s Ts acc c hk hi st out hsz hS ha hR
    obtain rfl : i = min xs.size ys.size := by omega
    refine codeAny_builtin F.entry_extend_loop ?_
    rw [Around.under_plainId F.plain_extend_loop _]
    show wpAny _ A.in1 (pyNext (.ref z) >>= _) _ _ s
    have hend : xs[min xs.size ys.size]? = none ∨ ys[min xs.size ys.size]? = none := by
      rcases Nat.le_total xs.size ys.size with h | h
      · exact .inl (Array.getElem?_eq_none (by rw [Nat.min_eq_left h]; exact Nat.le_refl _))
      · exact .inr (Array.getElem?_eq_none (by rw [Nat.min_eq_right h]; exact Nat.le_refl _))
    have fin : ∀ h', (∀ b o, b ≠ S → b ≠ z → b ≠ TO → b ≠ i1 → b ≠ i2 → s.heap.get? b = some o → h'.get? b = some o) → h'.get? S = some { cls := .type "list", dict := none, data := .seq acc c, slots := #[] } → R (.ok (.ret res)) { s with heap := h' } := fun h' hk hS' => by
      refine hR h' Ts acc c ⟨out.len, out.nd, fun j T e => ?_, out.off⟩ hS' ha hk
      obtain ⟨x, y, e1, e2, e3⟩ := out.at_ j T e
      obtain ⟨a1, a2, a3, a4, a5, _⟩ := out.off T (List.mem_of_getElem? e)
      exact ⟨x, y, e1, e2, hk _ _ a1 a2 a3 a4 a5 e3⟩
    rcases st.zz with ⟨hz, a, b, hTO⟩ | ⟨T, f, oT, hz, hT, r1, r2, r3, r4⟩
    · refine wpAny_bind (wpAny_pyNext_zip_end hh D hz st.ti hTO st.h1 st.h2 st.l1 st.l2 hend fun h' hk' => ?_)
      exact wpAny_pure (fin h' (fun b o _ b1 b2 b3 b4 e => hk' b o b1 b2 b3 b4 e) (hk' _ _ sz sTO s1 s2 hS))
    · refine wpAny_bind (wpAny_pyNext_zip_end_held hh D hz hT st.ti st.h1 st.h2 st.l1 st.l2 hend fun h' hk' => ?_)
      exact wpAny_pure (fin h' (fun b o _ b1 b2 b3 b4 e => hk' b o b1 b3 b4 e) (hk' _ _ sz s1 s2 hS))
  | succ k ih =>
    intro i s Ts acc c hk hi st out hsz hS ha hR
    have hlt : i < min xs.size ys.size := by omega
    have hx := Array.getElem?_eq_getElem (xs := xs) (i := i) (by omega)
    have hy := Array.getElem?_eq_getElem (xs := ys) (i := i) (by omega)
    refine codeAny_builtin F.entry_extend_loop ?_
    rw [Around.under_plainId F.plain_extend_loop _]
    show wpAny _ A.in1 (pyNext (.ref z) >>= _) _ _ s
    have lt : ∀ {c : Addr} {o : Obj}, s.heap.get? c = some o → s.heap.objs.size ≠ c := fun e => Nat.ne_of_gt (Heap.lt_size e)
    have accz : acc.size = i := by
      have := congrArg List.length ha
      simp only [Array.length_toList, List.length_map, out.len] at this
      exact this
    have nz : s.heap.objs.size ≠ z := by
      rcases st.zz with ⟨hz, _⟩ | ⟨T, f, oT, hz, _⟩
      · exact lt hz
      · exact lt hz
    have n1 : s.heap.objs.size ≠ i1 := let ⟨_, e, _⟩ := st.h1; lt e
    have n2 : s.heap.objs.size ≠ i2 := let ⟨_, e, _⟩ := st.h2; lt e
    -- one step: the new tuple stands at the heap's end
    have go : ∀ h', s.heap.objs.size ≠ TO → (∃ f, IsZipHeld h' z TI TO s.heap.objs.size f ∨ ∃ T oT, IsZipHeld h' z TI TO T f ∧ h'.get? T = some oT ∧ T ≠ z ∧ T ≠ i1 ∧ T ≠ i2 ∧ T ≠ S) → h'.IsListIter i1 l1 (i + 1) → h'.IsListIter i2 l2 (i + 1) → IsPair h' s.heap.objs.size xs[i] ys[i] → h'.objs.size = s.heap.objs.size + 1 →
        (∀ b o, b ≠ z → b ≠ TO → b ≠ i1 → b ≠ i2 → s.heap.get? b = some o → h'.get? b = some o) → IsPair h' TI (.ref i1) (.ref i2) → (∃ o, h'.get? TO = some o) →
        wpAny (model P w) A.in1 (updateSeq S (·.push (.ref s.heap.objs.size)) >>= fun _ => again (.builtin "list.extend.loop" ⟨[.ref S, .ref z, res], []⟩)) (fun fin s' => match fin with | .done f => R (.ok f) s' | .again c' => c'.quiet = true ∧ codeAny (model P w) A c' R s') (fun e s' => R (.error e) s') { s with heap := h' } := fun h' nTO held a3 a4 a5 a6 hk' a7 a8 => by
      have hS' : h'.get? S = some { cls := .type "list", dict := none, data := .seq acc c, slots := #[] } := hk' _ _ sz sTO s1 s2 hS
      have oth : ∀ b o, b ≠ S → h'.get? b = some o → (h'.update S (Obj.mapSeq (·.push (.ref s.heap.objs.size)))).get? b = some o := fun b o hb e => (Heap.get?_update_other _ _ (Ne.symm hb)).trans e
      have nS : s.heap.objs.size ≠ S := lt hS
      refine wpAny_bind (wpAny_updateSeq (s := { s with heap := h' }) hS' rfl (wpAny_pure ⟨plainId_quiet F.plain_extend_loop _, ih (i + 1) _ (Ts ++ [s.heap.objs.size]) (acc.push (.ref s.heap.objs.size)) _ (by omega) hlt ?st ?out ?sz (Heap.get?_update_self _ hS' rfl) ?acc fun h'' Ts' acc' c' o' q1 q2 q3 => ?fin⟩)
        (by rw [accz]; omega) (by show (acc.push (.ref s.heap.objs.size)).size ≤ sizeLine + 1; rw [Array.size_push, accz]; omega))
      case st =>
        refine ⟨oth _ _ (Ne.symm sTI) a7, a3.at fun o e => oth _ o (Ne.symm s1) e, a4.at fun o e => oth _ o (Ne.symm s2) e, (st.l1.at fun o e => hk' _ o D.l1z D.l1TO D.l1i1 D.l1i2 e).at fun o e => oth _ o (Ne.symm sl1) e, (st.l2.at fun o e => hk' _ o D.l2z D.l2TO D.l2i1 D.l2i2 e).at fun o e => oth _ o (Ne.symm sl2) e, let ⟨o, e⟩ := a8; ⟨o, oth _ _ (Ne.symm sTO) e⟩, .inr ?_⟩
        obtain ⟨f, q | ⟨T, oT, q, q2, r1, r2, r3, r4⟩⟩ := held
        · exact ⟨_, f, _, oth _ _ (Ne.symm sz) q, oth _ _ nS a5, nz, n1, n2, nS⟩
        · exact ⟨T, f, oT, oth _ _ (Ne.symm sz) q, oth _ _ r4 q2, r1, r2, r3, r4⟩
      case out =>
        have below : ∀ T ∈ Ts, T ≠ s.heap.objs.size := fun T hT e => by
          obtain ⟨j, hj, e2⟩ := List.getElem_of_mem hT
          obtain ⟨x, y, _, _, e3⟩ := out.at_ j T (by rw [List.getElem?_eq_getElem hj, e2])
          exact lt e3 e.symm
        refine ⟨by rw [List.length_append, out.len]; rfl, ?_, fun j T e => ?_, fun T hT => ?_⟩
        · refine List.nodup_append.mpr ⟨out.nd, by simp, fun T hT T' hT' e => ?_⟩
          rw [List.mem_singleton.mp hT'] at e
          exact below T hT e
        · rcases Nat.lt_or_ge j Ts.length with hj | hj
          · rw [List.getElem?_append_left hj] at e
            obtain ⟨x, y, e1, e2, e3⟩ := out.at_ j T e
            obtain ⟨b1, b2, b3, b4, b5, _⟩ := out.off T (List.mem_of_getElem? e)
            exact ⟨x, y, e1, e2, oth _ _ b1 (hk' _ _ b2 b3 b4 b5 e3)⟩
          · have hj2 : j = i := by
              have := (List.getElem?_eq_some_iff.mp e).1
              rw [List.length_append, out.len] at this
              simp at this
              have := out.len
              omega
            subst hj2
            rw [List.getElem?_append_right hj, out.len, Nat.sub_self] at e
            have e := Option.some.inj e
            subst e
            exact ⟨_, _, hx, hy, oth _ _ nS a5⟩
        · rcases List.mem_append.mp hT with hT | hT
          · exact out.off T hT
          · rw [List.mem_singleton.mp hT]
            exact ⟨nS, nz, nTO, n1, n2, hsz⟩
      case sz =>
        have e : (h'.update S (Obj.mapSeq (·.push (.ref s.heap.objs.size)))).objs.size = h'.objs.size := by simp
        show h0.objs.size ≤ (h'.update S _).objs.size
        rw [e, a6]
        exact Nat.le_succ_of_le hsz
      case acc =>
        show (acc.push _).toList = _
        rw [Array.toList_push, ha, List.map_append]
        rfl
      case fin =>
        exact hR h'' Ts' acc' c' o' q1 q2 fun b o b0 b1 b2 b3 b4 e => q3 b o b0 b1 b2 b3 b4 (oth _ _ b0 (hk' b o b1 b2 b3 b4 e))
    rcases st.zz with ⟨hz, a, b, hTO⟩ | ⟨T, f, oT, hz, hT, r1, r2, r3, r4⟩
    · refine wpAny_bind (wpAny_pyNext_zip_item D hz st.ti hTO st.h1 st.h2 st.l1 st.l2 hx hy fun h' a1 a2 a3 a4 a5 a6 hk' => ?_)
      exact go h' (lt hTO) ⟨false, .inl a1⟩ a3 a4 a5 a6 (fun b o b1 b2 b3 b4 e => hk' b o b1 b2 b3 b4 e) (hk' _ _ D.TIz D.TITO D.TIi1 D.TIi2 st.ti) ⟨_, a2⟩
    · obtain ⟨oTO, hTO⟩ := st.to_
      refine wpAny_bind (wpAny_pyNext_zip_item_held D hz hT st.ti st.h1 st.h2 st.l1 st.l2 hx hy fun h' a1 a3 a4 a5 a6 hk' => ?_)
      exact go h' (lt hTO) ⟨true, .inr ⟨T, oT, a1, hk' _ _ r1 r2 r3 hT, r1, r2, r3, r4⟩⟩ a3 a4 a5 a6 (fun b o b1 b2 b3 b4 e => hk' b o b1 b3 b4 e) (hk' _ _ D.TIz D.TIi1 D.TIi2 st.ti) ⟨_, hk' _ _ D.TOz D.TOi1 D.TOi2 hTO⟩
theorem zip_list {z TI TO i1 i2 l1 l2 : Addr} (D : ZipApart z TI TO i1 i2 l1 l2) (xs ys : Array Value) (hh : A.handled = none) {Q : Value → Shared → Prop} (hz : IsZip s.heap z TI TO .none) (hTI : IsPair s.heap TI (.ref i1) (.ref i2)) {x0 y0 : Value} (hTO : IsPair s.heap TO x0 y0) (hi1 : s.heap.IsListIter i1 l1 0) (hi2 : s.heap.IsListIter i2 l2 0) (hl1 : s.heap.IsList l1 xs) (hl2 : s.heap.IsList l2 ys)
    (hz0 : min xs.size ys.size ≤ sizeLine) (hQ : ∀ h' Ts' acc' c', ZipOut s.heap h' s.heap.objs.size z TI TO i1 i2 xs ys (min xs.size ys.size) Ts' → h'.get? s.heap.objs.size = some { cls := .type "list", dict := none, data := .seq acc' c', slots := #[] } → acc'.toList = Ts'.map Value.ref →
        (∀ b o, b ≠ z → b ≠ TO → b ≠ i1 → b ≠ i2 → s.heap.get? b = some o → h'.get? b = some o) → Q (.ref s.heap.objs.size) { s with heap := h' }) : wpAny (model P w) A (call (.type "list") [.ref z]) Q E s := by
  have lt : ∀ {c : Addr} {o : Obj}, s.heap.get? c = some o → s.heap.objs.size ≠ c := fun e => Nat.ne_of_gt (Heap.lt_size e)
  have nz : s.heap.objs.size ≠ z := lt hz
  have n1 : s.heap.objs.size ≠ i1 := let ⟨_, e, _⟩ := hi1; lt e
  have n2 : s.heap.objs.size ≠ i2 := let ⟨_, e, _⟩ := hi2; lt e
  have nTI : s.heap.objs.size ≠ TI := lt hTI
  have nTO : s.heap.objs.size ≠ TO := lt hTO
  have nl1 : s.heap.objs.size ≠ l1 := let ⟨_, e, _⟩ := hl1; lt e
  have nl2 : s.heap.objs.size ≠ l2 := let ⟨_, e, _⟩ := hl2; lt e
  refine callType_codes (Q₁ := fun obj s₁ => obj = .ref s.heap.objs.size ∧ s₁ = { s with heap := s.heap.push { cls := .type "list", data := .seq #[] } }) F.called_list (F.typeCall_list_1 _) F.entry_list_init
    (code_list_new _ ⟨rfl, rfl⟩) fun obj s₁ h₁ => ?_
  obtain ⟨rfl, rfl⟩ := h₁
  have hS : (s.heap.push { cls := .type "list", data := .seq #[] }).get? s.heap.objs.size = some { cls := .type "list", data := .seq #[] } := Heap.get?_push_size _ rfl
  refine ⟨⟨_, hS, rfl⟩, F.args_list_init_2 _ _, ?_⟩
  generalize hSS : s.heap.objs.size = SS at *
  show wpAny _ A.in1.in1 (do let old ← Builtin.List.listItems (.ref SS); Builtin.List.listUpdate (.ref SS) (fun _ => #[]); letGo old.toList.reverse; Builtin.List.listExtendWith (.ref SS) (.ref z) .none) _ _ _
  refine wpAny_bind ?_
  unfold Builtin.List.listItems
  refine wpAny_bind (wpAny_seqItems hS rfl (wpAny_pure ?_))
  show wpAny _ A.in1.in1 (updateSeq SS (fun _ => #[]) >>= fun _ => letGo (#[] : Array Value).toList.reverse >>= fun _ => Builtin.List.listExtendWith (.ref SS) (.ref z) .none) _ _ _
  refine wpAny_bind (wpAny_updateSeq hS rfl ?_)
  have hS₂ := Heap.get?_update_self (Obj.mapSeq (fun _ => (#[] : Array Value))) hS rfl
  refine wpAny_bind (wpAny_letGo ?_)
  have k0 : ∀ b o, b ≠ SS → s.heap.get? b = some o → (((s.heap.push { cls := .type "list", data := .seq #[] }).update SS (Obj.mapSeq (fun _ => (#[] : Array Value))))).get? b = some o := fun b o hb e => (Heap.get?_update_other _ _ (Ne.symm hb)).trans (Heap.get?_push_of_some _ e)
  have sz0 : s.heap.objs.size ≤ ((s.heap.push { cls := .type "list", data := .seq #[] }).update SS (Obj.mapSeq (fun _ => (#[] : Array Value)))).objs.size := by simp [Heap.size_push]
  generalize (s.heap.push { cls := .type "list", data := .seq #[] }).update SS (Obj.mapSeq (fun _ => (#[] : Array Value))) = hA at *
  have stMv : ∀ {h : Heap}, (∀ b o, b ≠ SS → s.heap.get? b = some o → h.get? b = some o) → ZipSt h SS z TI TO i1 i2 l1 l2 xs ys 0 := fun {h} k => by
    exact ⟨k _ _ (Ne.symm nTI) hTI, hi1.at fun o e => k _ o (Ne.symm n1) e, hi2.at fun o e => k _ o (Ne.symm n2) e, hl1.at fun o e => k _ o (Ne.symm nl1) e, hl2.at fun o e => k _ o (Ne.symm nl2) e, ⟨_, k _ _ (Ne.symm nTO) hTO⟩, .inl ⟨k _ _ (Ne.symm nz) hz, _, _, k _ _ (Ne.symm nTO) hTO⟩⟩
  have tyz : Shared.TypeIs { s with heap := hA } (.ref z) "zip" := zip_typeIs (h := hA) (s := { s with heap := hA }) (stMv k0)
  unfold Builtin.List.listExtendWith
  refine wpAny_bind (wpAny_typeOf tyz ?_)
  have h1 : Builtin.List.listSameRef (.ref SS) (.ref z) = false := by simp [Builtin.List.listSameRef, nz]
  have h2 : (Value.type "zip" == Value.type "list") = false := by decide
  have h3 : (Value.type "zip" == Value.type "tuple") = false := by decide
  simp only [h1, h2, h3, Bool.or_false, Bool.false_eq_true, if_false]
  have hzz : IsZip hA z TI TO .none := k0 _ _ (Ne.symm nz) hz
  refine wpAny_bind (wpAny_pyIter_zip (s := { s with heap := hA }) hzz ?_)
  refine wpAny_bind (wpAny_holding ?_)
  unfold Builtin.List.listLengthHint
  refine wpAny_bind (wpAny_specialOf tyz zip_no_len ?_)
  show wpAny _ A.in1.in1 (specialOf (Value.ref z) (Str.ofString "__length_hint__") >>= _) _ _ _
  refine wpAny_bind (wpAny_specialOf tyz zip_no_hint ?_)
  refine wpAny_pure ?_
  show wpAny _ A.in1.in1 (rule "list.extend.makes-room" >>= fun _ => Builtin.List.listTouch (.ref SS) >>= fun _ =>
    again (.builtin "list.extend.loop" ⟨[.ref SS, .ref z, .none], []⟩)) _ _ _
  refine wpAny_bind (wpAny_rule ?_)
  refine wpAny_bind ?_
  show wpAny _ A.in1.in1 (updateSeq SS (·.push .none) >>= fun _ => updateSeq SS (·.pop)) _ _ _
  refine wpAny_bind (wpAny_updateSeq hS₂ rfl ?_)
  have hS₃ := Heap.get?_update_self (Obj.mapSeq (·.push Value.none)) hS₂ rfl
  refine wpAny_updateSeq (hz := by seq_fits) hS₃ rfl ?_
  have hS₄ := Heap.get?_update_self (Obj.mapSeq (·.pop)) hS₃ rfl
  have oth : ∀ b o, b ≠ SS → s.heap.get? b = some o → ((hA.update SS (Obj.mapSeq (·.push Value.none))).update SS (Obj.mapSeq (·.pop))).get? b = some o :=
    fun b o hb e => (Heap.get?_update_other _ _ (Ne.symm hb)).trans ((Heap.get?_update_other _ _ (Ne.symm hb)).trans (k0 b o hb e))
  have sz1 : s.heap.objs.size ≤ ((hA.update SS (Obj.mapSeq (·.push Value.none))).update SS (Obj.mapSeq (·.pop))).objs.size := by simp; exact sz0
  refine wpAny_pure ⟨plainId_quiet F.plain_extend_loop _, zip_loop D xs ys (by simp [hh]) nz nTI nTO n1 n2 nl1 nl2 .none s.heap hz0 _ 0 _ [] #[] _ rfl (Nat.zero_le _) (stMv oth) ⟨rfl, List.nodup_nil, fun j T e => by simp at e, fun T hT => by cases hT⟩ sz1 hS₄ rfl fun h' Ts' acc' c' o1 o2 o3 o4 => ?_⟩
  exact ⟨rfl, hQ h' Ts' acc' c' o1 o2 o3 fun b o b1 b2 b3 b4 e => o4 b o (fun z => by rw [z, ← hSS] at e; exact absurd (Heap.lt_size e) (Nat.lt_irrefl _)) b1 b2 b3 b4 (oth b o (fun z => by rw [z, ← hSS] at e; exact absurd (Heap.lt_size e) (Nat.lt_irrefl _)) e)⟩
end
end KB

/-! KB31: list(zip(xs, ys)) over data. -/
namespace KB
open PySem PySem.Spec PyProof.Rows
open L2 hiding op_eqD op_neD call_listD
section
variable {X : Cx} {B : Bs} {pos apos cpos p p2 : Pos} {a e2 : Expr} {tr : DA}
/-- the heap with the tuples and the list of them -/
def zipH (H : Hp) (S : Addr) (Ts : List Addr) (rows : List (List V)) : Hp := fun b => if b = S then some (.lst (Ts.map V.ref)) else match (Ts.zip rows).find? (fun q => decide (q.1 = b)) with
  | some q => some (.tup q.2)
  | none => H b
theorem zipH_S {H : Hp} {S : Addr} {Ts : List Addr} {rows : List (List V)} : zipH H S Ts rows S = some (.lst (Ts.map V.ref)) := by unfold zipH; rw [if_pos rfl]
theorem zipH_off {H : Hp} {S b : Addr} {Ts : List Addr} {rows : List (List V)} (h1 : b ≠ S) (h2 : b ∉ Ts) : zipH H S Ts rows b = H b := by
  unfold zipH
  rw [if_neg h1]
  have : (Ts.zip rows).find? (fun q => decide (q.1 = b)) = none := by
    rw [List.find?_eq_none]
    rintro ⟨t, r⟩ hq
    have := (List.of_mem_zip hq).1
    simp only [decide_eq_true_eq]
    intro e
    exact h2 (e ▸ this)
  rw [this]
theorem zipH_at {H : Hp} {S : Addr} {Ts : List Addr} {rows : List (List V)} (nd : Ts.Nodup) (hS : S ∉ Ts) {j : Nat} {T : Addr} {r : List V} (h1 : Ts[j]? = some T) (h2 : rows[j]? = some r) : zipH H S Ts rows T = some (.tup r) := by
  unfold zipH
  rw [if_neg (fun e : T = S => hS (by rw [← e]; exact List.mem_of_getElem? h1))]
  have key : ∀ (Ts : List Addr) (rows : List (List V)) (j : Nat), Ts.Nodup → Ts[j]? = some T → rows[j]? = some r → (Ts.zip rows).find? (fun q => decide (q.1 = T)) = some (T, r) := by
    intro Ts
    induction Ts with
    | nil => intro rows j _ h; simp at h
    | cons t Ts ih =>
      intro rows j nd h1 h2
      cases rows with
      | nil => simp at h2
      | cons r0 rows =>
        rw [List.zip_cons_cons]
        cases j with
        | zero =>
          simp at h1 h2
          subst h1 h2
          rw [List.find?_cons_of_pos (by simp)]
        | succ j =>
          have h1 : Ts[j]? = some T := by simpa using h1
          have h2 : rows[j]? = some r := by simpa using h2
          have nd2 := List.nodup_cons.mp nd
          rw [List.find?_cons_of_neg (by
            simp only [decide_eq_true_eq]
            intro e
            exact nd2.1 (e ▸ List.mem_of_getElem? h1))]
          exact ih rows j nd2.2 h1 h2
  rw [key Ts rows j nd h1 h2]
def dListZip (t : DA) : DE := fun s C Q => t s C fun ds C1 => ∃ pa pb xs ys, ds = [.ptr pa, .ptr pb] ∧ isL C1 pa xs ∧ isL C1 pb ys ∧ NRz xs ys ∧ ∀ q, C1 q = none → Q (.ptr q) (up C1 q (.lst (pairD xs ys)))
theorem j_listZip (hc : X.calm = true) (hm : X.mg "list" = none) (hm2 : X.mg "zip" = none) (ha : JA X B [a, e2] tr) (hg : Gl X "list" := by rfl) (hg2 : Gl X "zip" := by rfl)
    (hs2 : starEach [a, e2] X.env = (false, eval a X.env) :: starEach [e2] X.env := by rfl) (hpl : (backTo cpos (starEach [e2] X.env)).any (·.1) = false := by rfl)
    (hs : starEach [.Call (.Name "zip" p2) [a, e2] [] cpos] X.env = (false, eval (.Call (.Name "zip" p2) [a, e2] [] cpos) X.env) :: starEach [] X.env := by rfl) :
    JE X B (.Call (.Name "list" p) [.Call (.Name "zip" p2) [a, e2] [] cpos] [] pos) (dListZip tr) := by
  refine ⟨fun pins s σ H Q I hq => ?_⟩
  obtain ⟨sl, C, Qd, rs, rl, h, k⟩ := hq
  refine wpAny_Call_Name_kw (ld_blt I hg hm bt_list ?_)
  refine PyProof.Rows.callWith_type1 ?_ hs rfl
  rw [hs]
  show wpAny _ _ (spliced ((false, eval (.Call (.Name "zip" p2) [a, e2] [] cpos) X.env) :: backTo pos (starEach [] X.env))) _ _ s
  refine Calls.spliced_cons ?_
  refine Call_ (ld_blt I hg2 hm2 PyProof.Rows.boot_zip (PyProof.Rows.callWith_type1 (thn (ha.run cpos pins s σ H (fun vs H' => ∃ ds C', Stp H C H' C' ∧ Rl X.K B H' C' ∧ Reps X.K H' ds vs ∧ ∃ pa pb xs ys, ds = [D.ptr pa, .ptr pb] ∧ isL C' pa xs ∧ isL C' pb ys ∧ NRz xs ys ∧ ∀ q, C' q = none → Qd (.ptr q) (up C' q (.lst (pairD xs ys)))) I ⟨sl, C, _, rs, rl, h, fun vs ds H' C' st rl' r q => ⟨ds, C', st, rl', r, q⟩⟩) fun us s1 hx => ?_) hs2 hpl))
  obtain ⟨vs, H1, I1, r1, ds, C1, st1, rl1, hr, pa, pb, xs, ys, ed, hl1, hl2, nz, q⟩ := hx
  subst ed
  obtain ⟨v1, t1, rfl, ra, v2, t2, rfl, rb, rn⟩ := hr
  cases ra; cases rb; cases rn
  cases r1 with
  | cons q1 rr =>
    cases rr with
    | cons q2 rr =>
      cases rr
      cases q1
      cases q2
      obtain ⟨ws, hqx, hrx⟩ := isL.sq rl1 hl1
      obtain ⟨zs, hqy, hry⟩ := isL.sq rl1 hl2
      obtain ⟨its, rv, pl1, hz1⟩ := I1.list hqx
      obtain ⟨its2, rv2, pl2, hz2⟩ := I1.list hqy
      have la : pa < s1.heap.objs.size := pl1.lt
      have lb : pb < s1.heap.objs.size := pl2.lt
      refine call_zip_2 pl1.isList pl2.isList fun h' hz hTI hTO h1 h2 hsz hk => ?_
      refine Calls.spliced_nil ?_
      have I2 : Inv X pins σ H1 { s1 with heap := h' } := I1.kept (t' := s1.toks) hk
      have lenx : xs.length = its.toArray.size := by rw [List.size_toArray, ← rv.length, ← hrx.length]
      have leny : ys.length = its2.toArray.size := by rw [List.size_toArray, ← rv2.length, ← hry.length]
      have zl : min its.toArray.size its2.toArray.size ≤ sizeLine := by rw [← lenx, hrx.length]; exact Nat.le_trans (Nat.min_le_left _ _) hz1
      refine zip_list (s := { s1 with heap := h' }) (PySem.W.ktu_apart s1.heap.objs.size pa pb la lb) its.toArray its2.toArray (I1.ok.hd hc) hz hTI hTO h1 h2 (pl1.isList.at fun o e => hk _ o e) (pl2.isList.at fun o e => hk _ o e) zl fun h'' Ts acc c out hS hacc hkp => ?_
      -- the rows
      obtain ⟨N, hN⟩ : ∃ N, N = h'.objs.size := ⟨_, rfl⟩
      have sN : s1.heap.objs.size ≤ N := by rw [hN, hsz]; exact Nat.le_add_right _ _
      have newS : H1 h'.objs.size = none := I2.hok.fresh (Nat.le_refl _)
      have newT : ∀ T ∈ Ts, H1 T = none := fun T hT => I2.hok.fresh (out.off T hT).2.2.2.2.2
      have nS : h'.objs.size ∉ Ts := fun hT => (out.off _ hT).1 rfl
      have kp1 : ∀ b o, s1.heap.get? b = some o → h''.get? b = some o := fun b o e => by
        have hb : b < s1.heap.objs.size := Heap.lt_size e
        have ne : ∀ j : Nat, b ≠ s1.heap.objs.size + j := fun j => Nat.ne_of_lt (Nat.lt_of_lt_of_le hb (Nat.le_add_right _ _))
        exact hkp b o (ne 4) (ne 3) (ne 0) (ne 1) (hk b o e)
      let rows : List (List V) := (ws.zip zs).map fun q => [q.1, q.2]
      have rowAt : ∀ (j : Nat) (T : Addr), Ts[j]? = some T → ∃ x y, ws[j]? = some x ∧ zs[j]? = some y ∧ rows[j]? = some [x, y] ∧ ∃ u1 u2, RelV x u1 ∧ RelV y u2 ∧ IsPair h'' T u1 u2 := fun j T e => by
        obtain ⟨u1, u2, e1, e2, e3⟩ := out.at_ j T e
        rw [List.getElem?_toArray] at e1 e2
        have hj1 : j < ws.length := by rw [rv.length]; exact (List.getElem?_eq_some_iff.mp e1).1
        have hj2 : j < zs.length := by rw [rv2.length]; exact (List.getElem?_eq_some_iff.mp e2).1
        have f1 := List.getElem?_eq_getElem hj1
        have f2 := List.getElem?_eq_getElem hj2
        obtain ⟨w1, g1, g2⟩ := rv.get f1
        rw [e1] at g1; cases g1
        obtain ⟨w2, g3, g4⟩ := rv2.get f2
        rw [e2] at g3; cases g3
        refine ⟨_, _, f1, f2, ?_, u1, u2, g2, g4, e3⟩
        have hz : (ws.zip zs)[j]? = some (ws[j], zs[j]) := List.getElem?_zip_eq_some.mpr ⟨f1, f2⟩
        simp only [rows, List.getElem?_map, hz, Option.map_some]
      obtain ⟨H2, hH2⟩ : ∃ H2, H2 = zipH H1 h'.objs.size Ts rows := ⟨_, rfl⟩
      have off : ∀ b, b ≠ h'.objs.size → b ∉ Ts → H2 b = H1 b := fun b hb ht => by rw [hH2]; exact zipH_off hb ht
      have kpH : ∀ b u, H1 b = some u → H2 b = some u := fun b u e => by
        rw [off b (fun z => by rw [z, newS] at e; cases e) (fun z => by rw [newT b z] at e; cases e)]
        exact e
      have atS : H2 h'.objs.size = some (.lst (Ts.map V.ref)) := by rw [hH2]; exact zipH_S
      have lenT : Ts.length ≤ sizeLine := by rw [out.len]; exact zl
      have J : Inv X pins σ H2 { s1 with heap := h'', toks := s1.toks } := by
        refine laid_many (s := s1) (H := H1) I1 (fun b hb => off b (fun z => ?_) fun z => ?_) kp1 fun b o hb q => ?_
        · rw [z, hsz] at hb; exact absurd hb (Nat.not_lt.mpr (Nat.le_add_right _ _))
        · have := (out.off b z).2.2.2.2.2
          have this : h'.objs.size ≤ b := this
          rw [hsz] at this
          exact absurd hb (Nat.not_lt.mpr (Nat.le_trans (Nat.le_add_right _ _) this))
        · by_cases hbS : b = h'.objs.size
          · rw [hbS] at q ⊢
            rw [atS] at q
            cases q
            exact ⟨by rw [List.length_map]; exact lenT, acc.toList, c, by rw [hacc]; exact LiI.vals_refs Ts, by rw [Array.toArray_toList]; exact hS⟩
          · by_cases hbT : b ∈ Ts
            · obtain ⟨j, hj, ej⟩ := List.getElem_of_mem hbT
              have e1 : Ts[j]? = some b := by rw [List.getElem?_eq_getElem hj, ej]
              obtain ⟨x, y, f1, f2, f3, u1, u2, g1, g2, g3⟩ := rowAt j b e1
              rw [hH2, zipH_at out.nd nS e1 f3] at q
              cases q
              exact ⟨by show 2 ≤ sizeLine; decide, [u1, u2], .cons g1 (.cons g2 .nil), ⟨_, g3, rfl, _, rfl⟩⟩
            · rw [off b hbS hbT] at q
              rw [I1.hok.fresh hb] at q
              cases q
      have tx : Tx H1 H2 := ⟨fun b xs e => kpH b _ e, fun b o u e => kpH b _ e⟩
      have cS : C1 h'.objs.size = none := rl1.fresh newS
      have st2 : Stp H1 C1 H2 (up C1 h'.objs.size (.lst (pairD xs ys))) := ⟨tx, fun b u e n => ⟨kpH b _ e, by rw [up_ne (ne_of_none e newS)]; exact n⟩⟩
      have lenR : Ts.length = (pairD xs ys).length := by
        rw [out.len, ← lenx, ← leny]
        simp [pairD]
      have reps : Reps X.K H2 (pairD xs ys) (Ts.map V.ref) := by
        have key : ∀ (n : Nat) (ds : List D) (ts : List Addr), ds.length = n → ts.length = n → (∀ (j : Nat) d t, ds[j]? = some d → ts[j]? = some t → Rep X.K H2 d (.ref t)) → Reps X.K H2 ds (ts.map V.ref) := by
          intro n
          induction n with
          | zero =>
            intro ds ts h1 h2 _
            cases ds with
            | nil => cases ts with
              | nil => rfl
              | cons _ _ => cases h2
            | cons _ _ => cases h1
          | succ n ih =>
            intro ds ts h1 h2 hh
            cases ds with
            | nil => cases h1
            | cons d ds => cases ts with
              | nil => cases h2
              | cons t ts => exact ⟨_, _, rfl, hh 0 d t rfl rfl, ih ds ts (Nat.succ.inj h1) (Nat.succ.inj h2) fun j d t e1 e2 => hh (j + 1) d t (by simpa using e1) (by simpa using e2)⟩
        refine key _ _ _ rfl lenR fun j d t e1 e2 => ?_
        obtain ⟨x, y, f1, f2, f3, _⟩ := rowAt j t e2
        obtain ⟨d1, a1, a2⟩ := hrx.getV f1
        obtain ⟨d2, b1, b2⟩ := hry.getV f2
        have ed : d = .tup [d1, d2] := by
          have hz : (xs.zip ys)[j]? = some (d1, d2) := List.getElem?_zip_eq_some.mpr ⟨a1, b1⟩
          simp only [pairD, List.getElem?_map, hz, Option.map_some] at e1
          exact (Option.some.inj e1).symm
        rw [ed]
        exact ⟨t, [x, y], rfl, .inl (.inl (by rw [hH2]; exact zipH_at out.nd nS e2 f3)), .cons (a2.mono tx) (.cons (b2.mono tx) .nil)⟩
      refine ⟨.ref h'.objs.size, H2, J, rfl, k _ (.ptr h'.objs.size) H2 _ (st1.trans st2) ⟨rl1.st.trans st2, fun b cc e => ?_, fun b o e => ?_⟩ rfl (q _ cS)⟩
      rotate_left
      · by_cases hbS : b = h'.objs.size
        · rw [hbS, atS] at e; cases e; trivial
        by_cases hbT : b ∈ Ts
        · obtain ⟨j, hj, ej⟩ := List.getElem_of_mem hbT
          have e2 : Ts[j]? = some b := by rw [List.getElem?_eq_getElem hj, ej]
          obtain ⟨x, y, f1, f2, f3, _⟩ := rowAt j b e2
          have e3 : H2 b = some (.tup [x, y]) := by rw [hH2]; exact zipH_at out.nd nS e2 f3
          rw [e3] at e
          cases e
          obtain ⟨d1, a1, a2⟩ := hrx.getV f1
          obtain ⟨d2, b1, b2⟩ := hry.getV f2
          have nz := nz
          unfold NRz at nz
          rw [Bool.or_eq_true, List.all_eq_true, List.all_eq_true] at nz
          rcases nz with nz | nz
          · exact ⟨x, List.mem_cons_self, nr_rep (nz _ (List.mem_of_getElem? a1)) a2⟩
          · exact ⟨y, List.mem_cons_of_mem _ List.mem_cons_self, nr_rep (nz _ (List.mem_of_getElem? b1)) b2⟩
        · rw [off b hbS hbT] at e
          exact rl1.ti b o e
      by_cases hb : b = h'.objs.size
      · subst hb
        rw [up_same] at e
        cases e
        exact ⟨_, atS, reps⟩
      · rw [up_ne hb] at e
        have ok := rl1.ok b cc e
        cases hH : H1 b with
        | none => exact absurd hH ok.there
        | some u => exact ok.keep tx (by rw [hH]; exact kpH b u hH)
end
end KB

/-! KB32: powers of any base. -/
namespace KB
open PySem PySem.Spec PyProof.Rows
open L2 hiding op_eqD op_neD call_listD
def PowOk (a b : Int) : Prop := 0 ≤ b ∧ (Builtin.Int.intBits a : Int) * b ≤ 2 ^ 27
instance (a b : Int) : Decidable (PowOk a b) := inferInstanceAs (Decidable (_ ∧ _))
def powE : D → D → Cp → DQ → Prop
  | .int a, .int b, C, Q => PowOk a b ∧ Q (.int (a ^ b.toNat)) C
  | _, _, _, _ => False
theorem powE_ii {a b : Int} {C : Cp} {Q : DQ} : powE (.int a) (.int b) C Q = (PowOk a b ∧ Q (.int (a ^ b.toNat)) C) := rfl
section
variable {X : Cx} {B : Bs}
theorem op_powW : OpR X (binaryOp .Pow) (rI PowOk fun i j => .int (i ^ j.toNat)) := opI fun _ _ _ _ _ _ _ hc q => pow_int hc.1 hc.2 q
theorem op_powE : OpD X B (binaryOp .Pow) powE := by
  intro pins s σ H x y v u Q I rx ry h
  obtain ⟨dx, dy, C, Qd, r1, r2, rl, h, k⟩ := h
  cases dx with
  | int a =>
    cases dy with
    | int b =>
      cases r1; cases r2
      exact opI_D (g' := fun i j => .int (i ^ j.toNat)) op_powW (fun _ _ _ _ => rfl) I rx ry rl h.1 h.2 k
    | _ => exact False.elim h
  | _ => exact False.elim h
end
end KB

/-! KR: repr of a tuple of plain things. -/
namespace KB
open PySem PySem.Spec PyProof.Rows SeqAt
open L2 hiding op_eqD op_neD
variable {X : Cx} {B : Bs}
mutual
theorem noDict : ∀ d : D, npt d = true → (toP d).hasDict = false
  | .non, _ => rfl
  | .bl _, _ => rfl
  | .int _, _ => rfl
  | .str _, _ => rfl
  | .ptr _, n => by unfold npt at n; cases n
  | .ty _, n => by unfold npt at n; cases n
  | .tup ds, n => by
    unfold toP PyData.hasDict
    exact noDicts ds n
theorem noDicts : ∀ ds : List D, npts ds = true → PyData.hasDictAll (toPs ds) = false
  | [], _ => rfl
  | d :: ds, n => by
    unfold npts at n
    rw [Bool.and_eq_true] at n
    unfold toPs PyData.hasDictAll
    rw [noDict d n.1, noDicts ds n.2]
    rfl
end
/-- what repr tells -/
def reprT (d : D) : List Nat := (toP d).shown.cps.toList
/-- it can be shown, and is not too long -/
structure ReprOk (d : D) : Prop where
  tup : ∃ xs, d = .tup xs
  np : npt d = true
  dp : dep d ≤ 50
  sh : (toP d).showable = true
  sz : (toP d).shown.length ≤ sizeLine
def reprR : List D → Cp → DQ → Prop := fun ds C Q => ∃ d, ds = [d] ∧ ReprOk d ∧ Q (.str (reprT d)) C
theorem call_reprD {k : Nat} (hr : RoomG k X.A) : CallD X B (.builtin "repr") reprR := by
  intro pins s σ H ys us Q I rx hh
  obtain ⟨ds, C, Qd, r, rl, ⟨d, e, ho, hq⟩, kk⟩ := hh
  subst e
  obtain ⟨v, r2, rfl, hv, hn⟩ := r
  cases hn
  obtain ⟨u, rfl, ru⟩ := vals1 rx
  obtain ⟨xs, rfl⟩ := ho.tup
  obtain ⟨as, q⟩ := Dp.reads I (toP (.tup xs)) v u (dp_of (.tup xs) v ho.np hv) ru
  obtain ⟨a, vs, rfl, _, _⟩ := id hv
  obtain rfl : u = Value.ref a := ru
  have hu := hr.un
  refine repr_of_reads' (h₀ := s.heap) q ho.sh (fun z => ?_) hr.gd ?_ (fun b o e => e) (fun h' t tk hk => ?_) ho.sz
  · rw [noDict _ ho.np] at z; cases z
  · have := ho.dp
    rw [depth_toP]
    omega
  · exact ⟨.str (toP (.tup xs)).shown, H, I.kept hk, ⟨t, rfl⟩, kk _ (.str (reprT (.tup xs))) H C (Stp.refl _ _) rl (by unfold reprT; rfl) hq⟩
end KB

/-! KF: f-strings over data. -/
namespace KB
open PySem PySem.Spec PyProof.Rows
open L2 hiding op_eqD op_neD
variable {X : Cx} {B : Bs} {e : Expr} {es : List Expr} {te : DE} {ts : List DE} {pos : Pos}
/-- an int's digits -/
def itoD (i : Int) : List Nat := (Str.ofString (toString i)).cps.toList
def dFmt (te : DE) : DE := fun s C Q => te s C fun x C1 => (∃ l, x = .str l ∧ l.length ≤ sizeLine ∧ Q (.str l) C1) ∨ ∃ i : Int, x = .int i ∧ i.natAbs.log2 < 1920 ∧ Q (.str (itoD i)) C1
theorem j_fmt (he : JE X B e te) : JE X B (.FormattedValue e (-1) none pos) (dFmt te) := PE.imp (pe_fmt he) fun σ H Q h => by
  obtain ⟨sl, Cs, Qd, rs, rl, h, k⟩ := h
  refine ⟨sl, Cs, _, rs, rl, h, fun v d H' C' st rl' r q => ?_⟩
  rcases q with ⟨l, rfl, hz, q⟩ | ⟨i, rfl, hz, q⟩
  · cases r
    exact .inl ⟨_, rfl, by simpa [Str.length] using hz, k _ (.str l) H' C' st rl' rfl q⟩
  · cases r
    exact .inr ⟨i, rfl, hz, k _ (.str (itoD i)) H' C' st rl' (by unfold itoD; rfl) q⟩
def dJs : List DE → List Nat → Sl → Cp → (List Nat → Cp → Prop) → Prop
  | [], acc, _, C, Q => Q acc C
  | t :: ts, acc, s, C, Q => t s C fun x C1 => ∃ l, x = .str l ∧ acc.length + l.length ≤ sizeLine ∧ dJs ts (acc ++ l) s C1 Q
def dJoined (ts : List DE) : DE := fun s C Q => dJs ts [] s C fun l C1 => Q (.str l) C1
inductive JJ (X : Cx) (B : Bs) : List Expr → List DE → Prop where
  | nil : JJ X B [] []
  | cons {e : Expr} {t : DE} {es : List Expr} {ts : List DE} (h : JE X B e t) (r : JJ X B es ts) : JJ X B (e :: es) (t :: ts)
theorem JJ.pj (h : JJ X B es ts) : PJ X es (ts.map (lE X.K B)) := by
  induction h with
  | nil => exact .nil
  | cons h _ ih => exact .cons h ih
theorem js_lift {K : PySem.W.Frag} {σ : L2.St} {sl : Sl} : ∀ {ts : List DE} {acc : List Nat} {H : Hp} {C : Cp} {Qd : List Nat → Cp → Prop} {Q : Str → Hp → Prop}, RepS K H sl σ → Rl K B H C → dJs ts acc sl C Qd → (∀ l H' C', Stp H C H' C' → Rl K B H' C' → Qd l C' → Q ⟨l.toArray⟩ H') → tJs (ts.map (lE K B)) ⟨acc.toArray⟩ σ H Q
  | [], acc, H, C, _, _, rs, rl, h, k => k acc H C (Stp.refl _ _) rl h
  | t :: ts, acc, H, C, Qd, Q, rs, rl, h, k => by
    refine ⟨sl, C, _, rs, rl, h, fun v d H1 C1 st rl1 r q => ?_⟩
    obtain ⟨l, rfl, hz, q⟩ := q
    cases r
    have e : (⟨acc.toArray⟩ : Str) ++ (⟨l.toArray⟩ : Str) = ⟨(acc ++ l).toArray⟩ := by
      show (⟨acc.toArray ++ l.toArray⟩ : Str) = _
      rw [List.append_toArray]
    refine ⟨⟨l.toArray⟩, rfl, ?_, ?_⟩
    · rw [e]
      show ((acc ++ l).toArray).size ≤ sizeLine
      rw [List.size_toArray, List.length_append]
      exact hz
    · rw [e]
      exact js_lift (rs.mono st.tx) rl1 q fun l H' C' st2 rl2 q => k l H' C' (st.trans st2) rl2 q
theorem j_joined {e1 e2 : Expr} (h : JJ X B (e1 :: e2 :: es) ts) : JE X B (.JoinedStr (e1 :: e2 :: es) pos) (dJoined ts) := PE.imp (pe_joined h.pj) fun σ H Q h => by
  obtain ⟨sl, Cs, Qd, rs, rl, h, k⟩ := h
  exact js_lift rs rl h fun l H' C' st rl' q => k _ (.str l) H' C' st rl' rfl q
theorem j_joined1 (h : JE X B e te) : JE X B (.JoinedStr [e] pos) te := pe_joined1 h
end KB

/-! KO: str of ints, texts, instances with their own __str__; == of instances with their own __eq__. -/
namespace PySem.W
open PySem PySem.Spec PySem.Calls PyProof.Rows
section
variable {prog : Program} {w : World} {A : Around} {E : Value → Shared → Prop} {s : Shared} {K : Frag} {x C f : Addr} {ox : Obj} {od : Option Obj}
open Builtin Builtin.Str in
theorem kso_callS {Q : Value → Shared → Prop} (hu : A.in1.in1.units < cLine) (X : K.In s.heap) (I : InstAt s.heap x ox C od) (hs : findIn K (.ref C) "__str__" = some (some (.ref f))) (hf : isFn K (.ref f) = true)
    (h : wpAny (model prog w) A.in1.in1 (call (.ref f) [.ref x]) (StrBack Q) E s) : wpAny (model prog w) A (call (.type "str") [.ref x]) Q E s := by
  refine callType_codes (T := "str") (Bi := Builtin.«object.__init__») (Q₁ := fun r s₁ => ∃ y u, r = .str y u ∧ Q r s₁) PySem.F.called_str (PySem.F.typeCall_str_1 _) PySem.F.entry_object_init ?_ ?_
  · refine codeAny_of_tree ?_
    show wpAny _ A.in1.in1 (do checkBuiltinCall "str.__new__" ⟨[.type "str", .ref x], []⟩; again (.builtin "str.__new__" ⟨[.type "str", .ref x], []⟩)) _ _ s
    refine wpAny_bind (wpAny_of_eq (PySem.F.newCall_str_1 _) (wpAny_pure ⟨plainId_quiet (by decide +kernel) _, codeAny_builtin PySem.F.entry_str_new ?_⟩))
    rw [Around.under_plainId (by decide +kernel) _]
    rw [str_new_tree]
    refine wpAny_bind (wpAny_pure ?_)
    refine wpAny_bind (wpAny_of_eq isSubtype_str_str ?_)
    have key : wpAny (model prog w) A.in1.in1 (PySem.Builtin.Str.strOf (.ref x)) (fun r s₁ => ∃ y u, r = .str y u ∧ Q r s₁) E s := by
      unfold PySem.Builtin.Str.strOf
      rw [show isExactStr (.ref x) = false from rfl]
      refine wpAny_bind (m := cRoomFor _ _) (wpAny_cRoomFor hu ?_)
      refine wpAny_bind (m := callSpecial? (.ref x) (Str.ofString "__str__")) (special_fn X I hs (beq_iff_eq.mp hf) (wpAny_mono h (fun r s' z => ?_) fun _ _ y => y))
      cases r <;> first | exact z.elim | exact wpAny_pure ⟨_, _, rfl, z⟩
    exact wpAny_bind (wpAny_mono key (fun r s₁ hr => wpAny_pure hr) fun _ _ y => y)
  · rintro obj s₁ ⟨y, u, rfl, hq⟩
    exact ⟨typeIs_str _ _ _, PySem.F.args_object_init_2 _ _, object_init_meets PySem.F.called_str.init.lookup PySem.F.called_str.made (by decide) prog w A.in1 _ s₁ ⟨typeIs_str _ _ _, rfl, hq⟩⟩
end
end PySem.W
namespace KB
open PySem PySem.Spec PyProof.Rows
open L2 hiding op_eqD op_neD call_listD
section
variable {X : Cx} {B : Bs} {n m : Str} {C f : Addr} {fd : FuncData} {ps : List Str} {k : Nat} {F : DSp}
/-- str of a text, of an int -/
def strR : List D → Cp → DQ → Prop := fun ds C Q => (∃ l, ds = [.str l] ∧ Q (.str l) C) ∨ ∃ i : Int, ds = [.int i] ∧ i.natAbs.log2 < 1920 ∧ Q (.str (itoD i)) C
theorem call_strD : CallD X B (.type "str") strR := by
  intro pins s σ H xs us Q I rx h
  obtain ⟨ds, C, Qd, r, rl, h, k⟩ := h
  rcases h with ⟨l, e, h⟩ | ⟨i, e, hz, h⟩
  · subst e
    obtain ⟨v, r2, rfl, hv, hn⟩ := r
    cases hn; cases hv
    exact SkE.call_str_str pins s σ H _ us Q I rx ⟨_, rfl, k _ (.str l) H C (Stp.refl _ _) rl rfl h⟩
  · subst e
    obtain ⟨v, r2, rfl, hv, hn⟩ := r
    cases hn; cases hv
    exact call_str_int pins s σ H _ us Q I rx ⟨i, rfl, hz, k _ (.str (itoD i)) H C (Stp.refl _ _) rl (by unfold itoD; rfl) h⟩
/-- a def that stands in a class as one of python's own names -/
structure Own (K : PySem.W.Frag) (C : Addr) (m : Str) (f : Addr) : Prop where
  at_ : PySem.W.findIn K (.ref C) m = some (some (.ref f))
  fn : PySem.W.isFn K (.ref f) = true
/-- the def is called from a builtin -/
theorem FnG.at {X : Cx} {X0 : CXT} {k : Nat} {f : Addr} {fd : FuncData} {ps : List Str} {sp : Sp} {A : Around} {pins : List (Addr × Obj)} {σ : L2.St} {H : Hp} {s : Shared} {E : XK} {Q : VK} {us : List Value} {vs : List V} (F : FnG X.prog X.w X.K X.mg X.base X0 k f fd ps sp) (g : A.guards = some []) (hr : Room k A) (e0 : Env0 X.prog X.w X.K X.mg X.base A X.stack s H) (hb : Binds X.K fd ps []) (hx : Passes X0 X E)
    (I : Inv X pins σ H s) (r : Vals vs us) (h : sp vs H Q E) : wpAny (model X.prog X.w) A (call (.ref f) us) (EP X pins σ Q) X.xe s := by
  have n1 : us.length = ps.length := r.length.symm.trans (F.len _ _ _ _ h)
  have b := hb s us I.kIn (by simpa using n1)
  rw [List.append_nil] at b
  refine wpAny_call (codeAny_mono (F.go A X.stack s H ⟨us, []⟩ us vs Q E g hr e0 b r h) fun res s' hq => ?_)
  match res, hq with
  | .error e, hq => exact hx pins σ H s e s' I hq
  | .ok (.ret u), hq => exact I.after hq
  | .ok .next, hq => exact False.elim hq
  | .ok .brk, hq => exact False.elim hq
  | .ok .cont, hq => exact False.elim hq
/-- str(x) of an instance with an own __str__ -/
def strOR (n : Str) (F : DSp) : List D → Cp → DQ → Prop := fun ds C Q => ∃ p fs, ds = [.ptr p] ∧ C p = some (.ins n fs) ∧ F [.ptr p] C (fun d C' => ∃ l, d = .str l ∧ Q (.str l) C') fun _ _ => False
theorem call_strOD (c : ClsN X.K n C) (o : Own X.K C "__str__" f) (G : FnG X.prog X.w X.K X.mg X.base CX0 k f fd ps (lSp B.P B.w X.K 1 F)) (hr : RoomG (k + 2) X.A) (hb : Binds X.K fd ps []) (hl : ∀ ds C Q E, F ds C Q E → ds.length = 1) : CallD X B (.type "str") (strOR n F) := by
  intro pins s σ H xs us Q I rx h
  obtain ⟨ds, Cs, Qd, r, rl, ⟨p, fs, e, hp, h⟩, kk⟩ := h
  subst e
  obtain ⟨v, r2, rfl, hv, hn⟩ := r
  cases hn; cases hv
  obtain ⟨u, rfl, ru⟩ := vals1 rx
  obtain rfl : u = Value.ref p := ru
  obtain ⟨dx, ws, e2, e3⟩ := ins_at c rl hp
  obtain ⟨mA, J, _⟩ := ins_get I.hok e2
  obtain ⟨od, J, _⟩ := J.look
  have hr2 : Room k X.A.in1.in1 := (show Room (k + 1) X.A.in1 from Room.in1 hr.toRoom).in1
  refine PySem.W.kso_callS hr2.units0 I.kIn J o.at_ o.fn ?_
  have hsp : lSp B.P B.w X.K 1 F [.ref p] H (fun v H' => ∃ l : List Nat, v = .str ⟨l.toArray⟩ ∧ Q v H') E0 := by
    refine ⟨rfl, [.ptr p], Cs, _, ⟨_, _, rfl, rfl, rfl⟩, ⟨rl.ok, rl.ti⟩, h, fun v d H' C' st ok r q => ?_⟩
    obtain ⟨l, rfl, q⟩ := q
    exact ⟨l, r, kk v (.str l) H' C' st ⟨rl.st.trans st, ok.1, ok.2⟩ r q⟩
  refine wpAny_mono (FnG.at (us := [.ref p]) (vs := [.ref p]) G hr.gd hr2 I.env0.in1.in1 hb pass0 I (.cons rfl .nil) hsp) (fun u s' z => ?_) fun _ _ x => x
  obtain ⟨v, H', I', rv, l, ev, q⟩ := z
  subst ev
  obtain ⟨t, rfl⟩ := (show ∃ t, u = Value.str ⟨l.toArray⟩ t from rv)
  exact ⟨V.str ⟨l.toArray⟩, H', I', ⟨t, rfl⟩, q⟩
end
end KB

/-! KSm: sum(lists, []). -/
namespace KB
open PySem PySem.Spec PyProof.Rows PySem.Calls
theorem args_sum2 (a b : Value) : argsOk "sum" ⟨[a, b], []⟩ := by unfold argsOk; kernel_rfl
section
variable {prog : Program} {w : World} {A : Around} {E : Value → Shared → Prop} {s : Shared}
/-- xs + ys, of lists: a new object -/
theorem add_two {a b : Addr} {xs ys : List Value} {Q : Value → Shared → Prop} (ha : s.heap.IsList a xs.toArray) (hb : s.heap.IsList b ys.toArray) (z : xs.length + ys.length ≤ sizeLine)
    (h : Q (.ref s.heap.objs.size) { s with heap := s.heap.push { cls := .type "list", data := .seq (xs ++ ys).toArray } }) : wpAny (model prog w) A (binaryOp .Add (.ref a) (.ref b)) Q E s := by
  obtain ⟨⟨_, d1, _, s1⟩, o1, c1, n1, e1⟩ := id ha
  obtain ⟨⟨_, d2, _, s2⟩, o2, c2, n2, e2⟩ := id hb
  simp only at c1 e1 c2 e2
  subst c1 e1 c2 e2
  have e : xs.toArray ++ ys.toArray = (xs ++ ys).toArray := by simp
  refine concat_meets ⟨_, o1, rfl⟩ ⟨_, o2, rfl⟩ noFill_list_add seq_list_add PySem.F.slot_list_add PySem.F.entry_list_add (PySem.F.args_list_add_2 _ _) (list_addW a b xs.toArray ys.toArray n1 n2 d1 d2 s1 s2 (by simpa using z)) ⟨o1, o2, ?_⟩
  rw [e]
  exact h
theorem take_flat {yss : List (List Value)} {i : Nat} {ys : List Value} (h : yss[i]? = some ys) : (yss.take (i + 1)).flatten = (yss.take i).flatten ++ ys := by
  rw [List.take_add_one, h, List.flatten_append]
  simp
theorem flat_le : ∀ (yss : List (List Value)) (i : Nat), ((yss.take i).flatten).length ≤ (yss.map List.length).sum
  | [], i => by simp
  | y :: r, 0 => by simp
  | y :: r, i + 1 => by
    have := flat_le r i
    simp only [List.take_succ_cons, List.flatten_cons, List.length_append, List.map_cons, List.sum_cons]
    omega
theorem sum_loopL {R : Result → Shared → Prop} {I : Addr} {fp wr : List Addr} {G : Array GenState → Array GenState → Prop} {n : Nat} {P : Nat → Value → Prop} {St : Nat → Shared → Prop} (W : WalksS prog w A.in1 I fp wr G n P St) (S : Addr) (hfp : ∀ b ∈ fp, b < S) (bs : List Addr) (yss : List (List Value)) (zs : List Value) (h0 : Heap)
    (hn : n = bs.length) (hl : yss.length = n) (hval : ∀ i v, P i v → ∃ b, bs[i]? = some b ∧ v = .ref b) (hb : ∀ (i : Nat) (b : Addr) (ys : List Value), bs[i]? = some b → yss[i]? = some ys → h0.IsList b ys.toArray) (hS0 : h0.get? S = none) (hw0 : ∀ b ∈ wr, h0.get? b = none) (hz : zs.length + (yss.map List.length).sum ≤ sizeLine) :
    ∀ (k i : Nat) (s : Shared) (acc : Addr) (c : Nat), n - i = k → i ≤ n → St i s → (∀ b o, h0.get? b = some o → s.heap.get? b = some o) → s.heap.get? S = some { cls := .type "list", data := .seq #[.ref acc] c } → acc ≠ S → acc ∉ wr → s.heap.IsList acc (zs ++ (yss.take i).flatten).toArray →
    (0 < i → s.heap.get? acc = some { cls := .type "list", data := .seq (zs ++ (yss.take i).flatten).toArray } ∧ h0.get? acc = none) →
    (∀ s' acc', Moved (S :: wr) G s s' → (∀ b o, h0.get? b = some o → s'.heap.get? b = some o) → (n = i → acc' = acc) → (0 < n → s'.heap.get? acc' = some { cls := .type "list", data := .seq (zs ++ yss.flatten).toArray } ∧ h0.get? acc' = none) → R (.ok (.ret (.ref acc'))) s') →
    codeAny (model prog w) A (.builtin "sum.loop" ⟨[.ref I, .ref S, rawInt 2, rawInt 0], []⟩) R s := by
  have hSf : S ∉ fp := fun h => Nat.lt_irrefl _ (hfp S h)
  have hSw : S ∉ wr := fun h => hSf (W.sub _ h)
  have keepM : ∀ {s s' : Shared}, Moved wr G s s' → (∀ b o, h0.get? b = some o → s.heap.get? b = some o) → ∀ b o, h0.get? b = some o → s'.heap.get? b = some o := fun hm hkp b o e =>
    hm.heap b o (fun hb => by rw [hw0 b hb] at e; cases e) (hkp b o e)
  intro k
  induction k with
  | zero =>
    intro i s acc c hk hi hst hkp hS hne hnf hacc hobj hR
    obtain rfl : i = n := by omega
    refine codeAny_builtin F.entry_sum_loop ?_
    rw [Around.under_plainId F.plain_sum_loop _]
    show wpAny _ A.in1 (seqItems? (.ref S) >>= _) _ _ s
    refine wpAny_bind (wpAny_seqItems hS rfl ?_)
    show wpAny _ A.in1 (tryCatch (pyNext (.ref I)) _ >>= _) _ _ s
    refine wpAny_bind (wpAny_tryCatch (W.done s _ _ hst fun s' hm => ?_))
    refine wpAny_pure (hR s' acc (hm.mono fun b hb => List.mem_cons_of_mem _ hb) (keepM hm hkp) (fun _ => rfl) fun z => ?_)
    obtain ⟨e1, e2⟩ := hobj z
    rw [List.take_of_length_le (by omega)] at e1
    exact ⟨hm.heap acc _ hnf e1, e2⟩
  | succ k ih =>
    intro i s acc c hk hi hst hkp hS hne hnf hacc hobj hR
    have hlt : i < n := by omega
    refine codeAny_builtin F.entry_sum_loop ?_
    rw [Around.under_plainId F.plain_sum_loop _]
    show wpAny _ A.in1 (seqItems? (.ref S) >>= _) _ _ s
    refine wpAny_bind (wpAny_seqItems hS rfl ?_)
    show wpAny _ A.in1 (tryCatch (pyNext (.ref I)) _ >>= _) _ _ s
    refine wpAny_bind (wpAny_tryCatch (W.item i s _ _ hlt hst fun v s' hP hst' hm => ?_))
    obtain ⟨b, hbi, rfl⟩ := hval i v hP
    obtain ⟨ys, hys⟩ : ∃ ys, yss[i]? = some ys := ⟨yss[i]'(by omega), List.getElem?_eq_getElem (by omega)⟩
    have hkp' := keepM hm hkp
    have hS' := hm.heap S _ hSw hS
    have hB : s'.heap.IsList b ys.toArray := by
      obtain ⟨o, e, r⟩ := hb i b ys hbi hys
      exact ⟨o, hkp' b o e, r⟩
    have hA : s'.heap.IsList acc (zs ++ (yss.take i).flatten).toArray := by
      obtain ⟨o, e, r⟩ := hacc
      exact ⟨o, hm.heap acc o hnf e, r⟩
    have fl := flat_le yss (i + 1)
    rw [take_flat hys, List.length_append] at fl
    show wpAny _ A.in1 ((holding [Value.ref b] (binaryOp .Add (.ref acc) (.ref b))).attempt >>= _) _ _ _
    refine wpAny_bind (wpAny_attempt (wpAny_holding (add_two hA hB (by rw [List.length_append]; omega) ?_)))
    have hS1 : (s'.heap.push { cls := .type "list", data := .seq ((zs ++ (yss.take i).flatten) ++ ys).toArray }).get? S = some { cls := .type "list", data := .seq #[.ref acc] c } := Heap.get?_push_of_some _ hS'
    have hN1 : (s'.heap.push { cls := .type "list", data := .seq ((zs ++ (yss.take i).flatten) ++ ys).toArray }).get? s'.heap.objs.size = some { cls := .type "list", data := .seq ((zs ++ (yss.take i).flatten) ++ ys).toArray } := Heap.get?_push_size _ rfl
    have neS : s'.heap.objs.size ≠ S := fun z => Nat.lt_irrefl _ (z ▸ Heap.lt_size hS')
    have nfp : s'.heap.objs.size ∉ fp := fun z => by
      exact Nat.lt_irrefl _ (Nat.lt_trans (hfp _ z) (Heap.lt_size hS'))
    refine wpAny_bind (m := updateSeq S _) (wpAny_updateSeq hS1 rfl ?_)
    have hS2 := Heap.get?_update_self (Obj.mapSeq fun _ => #[Value.ref s'.heap.objs.size]) hS1 rfl
    refine wpAny_bind (wpAny_letGo ?_)
    refine wpAny_bind (wpAny_updateSeq hS2 rfl (wpAny_pure ⟨plainId_quiet F.plain_sum_loop _, ih (i + 1) _ s'.heap.objs.size _ (by omega) hlt (W.frame _ s' _ _ hst' (by first | exact Nat.le_refl _ | exact Nat.le_succ _ | omega) fun b hb o e => ?_) (fun b o e => ?_) (Heap.get?_update_self _ hS2 rfl) neS (fun z => nfp (W.sub _ z)) ?_ (fun _ => ⟨?_, ?_⟩) fun s'' acc'' hm'' hkp'' e1 e2 => ?_⟩))
    · exact (Heap.get?_update_other _ _ (fun h : S = b => hSf (by rw [h]; exact hb))).trans ((Heap.get?_update_other _ _ (fun h : S = b => hSf (by rw [h]; exact hb))).trans (Heap.get?_push_of_some _ e))
    · have ns : S ≠ b := fun z => by rw [← z, hS0] at e; cases e
      exact (Heap.get?_update_other _ _ ns).trans ((Heap.get?_update_other _ _ ns).trans (Heap.get?_push_of_some _ (hkp' b o e)))
    · refine ⟨_, (Heap.get?_update_other _ _ (Ne.symm neS)).trans ((Heap.get?_update_other _ _ (Ne.symm neS)).trans hN1), rfl, 0, ?_⟩
      rw [take_flat hys, List.append_assoc]
    · rw [take_flat hys, ← List.append_assoc]
      exact (Heap.get?_update_other _ _ (Ne.symm neS)).trans ((Heap.get?_update_other _ _ (Ne.symm neS)).trans hN1)
    · cases e : h0.get? s'.heap.objs.size with
      | none => rfl
      | some o => exact absurd (Heap.lt_size (hkp' _ o e)) (Nat.lt_irrefl _)
    · refine hR s'' acc'' (Moved.trans W.gtrans ((hm.mono fun b hb => List.mem_cons_of_mem _ hb).then_heap (by first | exact Nat.le_refl _ | exact Nat.le_succ _ | omega) fun b o hb e => ?_) hm'') hkp'' (fun z => by omega) e2
      have ns : S ≠ b := fun z => hb (by rw [z]; exact List.mem_cons_self)
      exact (Heap.get?_update_other _ _ ns).trans ((Heap.get?_update_other _ _ ns).trans (Heap.get?_push_of_some _ e))
end
section
open L2 hiding op_eqD op_neD
variable {X : Cx} {B : Bs} {K : PySem.W.Frag} {H : Hp} {C : Cp}
/-- each of the places holds a list -/
theorem yss_real {pins : List (Addr × Obj)} {σ : L2.St} {s : Shared} (I : Inv X pins σ H s) (rl : Rl X.K B H C) : ∀ {bs : List Addr} {yss : List (List D)}, Paired (fun b ys => isL C b ys) bs yss →
    ∃ (vss : List (List V)) (uss : List (List Value)), uss.length = bs.length ∧ (∀ (i : Nat) b us, bs[i]? = some b → uss[i]? = some us → s.heap.IsList b us.toArray) ∧ Reps X.K H yss.flatten vss.flatten ∧ Vals vss.flatten uss.flatten ∧ (uss.map List.length).sum = (yss.map List.length).sum
  | _, _, .nil => ⟨[], [], rfl, fun i b us h => by simp at h, .nil, .nil, rfl⟩
  | _, _, .cons (a := b) (b := ys) h t => by
    obtain ⟨vss, uss, h1, h2, h3, h4, h5⟩ := yss_real I rl t
    obtain ⟨vs, hq, hr⟩ := isL.sq rl h
    obtain ⟨us, rv, p, _⟩ := I.list hq
    refine ⟨vs :: vss, us :: uss, by rw [List.length_cons, List.length_cons, h1], fun i b' us' e1 e2 => ?_, ?_, ?_, ?_⟩
    · cases i with
      | zero =>
        simp only [List.getElem?_cons_zero, Option.some.injEq] at e1 e2
        subst e1 e2
        obtain ⟨o, n, e, c1, c2, c3⟩ := p
        exact ⟨o, e, c1, n, c3⟩
      | succ i => exact h2 i b' us' (by simpa using e1) (by simpa using e2)
    · rw [List.flatten_cons, List.flatten_cons]; exact hr.append h3
    · rw [List.flatten_cons, List.flatten_cons]; exact rv.append h4
    · rw [List.map_cons, List.map_cons, List.sum_cons, List.sum_cons, h5, ← rv.length, ← hr.length]
def sumR : List D → Cp → DQ → Prop := fun ds C Q => ∃ p q bs yss zs, ds = [.ptr p, .ptr q] ∧ isL C p (bs.map D.ptr) ∧ isL C q zs ∧ Paired (fun b ys => isL C b ys) bs yss ∧ zs.length + (yss.map List.length).sum ≤ sizeLine ∧ (bs = [] → Q (.ptr q) C) ∧ (bs ≠ [] → ∀ r, C r = none → Q (.ptr r) (up C r (.lst (zs ++ yss.flatten))))
theorem vals_refs {K : PySem.W.Frag} {H : Hp} : ∀ {bs : List Addr} {vs : List V} {us : List Value}, Reps K H (bs.map D.ptr) vs → Vals vs us → us = bs.map Value.ref
  | [], _, _, h, r => by cases h; cases r; rfl
  | b :: bs, _, _, h, r => by
    obtain ⟨v, vs, rfl, hv, t⟩ := h
    cases hv
    cases r with
    | cons a r =>
      rw [vals_refs t r]
      cases a
      rfl
theorem call_sumD (hh : X.A.handled = none) : CallD X B (.builtin "sum") sumR := by
  intro pins s σ H xs us Q I rx h
  obtain ⟨ds, C, Qd, r, rl, ⟨p, q, bs, yss, zs, e, hp, hq, hb, hz, k0, k1⟩, kk⟩ := h
  subst e
  obtain ⟨v, r2, rfl, hv, hn⟩ := r
  obtain ⟨v2, r3, rfl, hv2, hn⟩ := hn
  cases hn; cases hv; cases hv2
  cases rx with
  | cons r1 rx =>
  cases rx with
  | cons r2 rx =>
  cases rx
  cases r1; cases r2
  obtain ⟨vs, hsq, hr⟩ := isL.sq rl hp
  obtain ⟨its, rv, pl, _⟩ := I.list hsq
  have hits := vals_refs hr rv
  subst hits
  obtain ⟨ws, hsq2, hr2⟩ := isL.sq rl hq
  obtain ⟨us, rv2, pl2, _⟩ := I.list hsq2
  obtain ⟨vss, uss, h1, h2, h3, h4, h5⟩ := yss_real I rl hb
  have isP : s.heap.IsList p (bs.map Value.ref).toArray := let ⟨o, n, e, c1, c2, c3⟩ := pl; ⟨o, e, c1, n, c3⟩
  have isQ : s.heap.IsList q us.toArray := let ⟨o, n, e, c1, c2, c3⟩ := pl2; ⟨o, e, c1, n, c3⟩
  obtain ⟨op, hop, _⟩ := id isP
  obtain ⟨oq, hoq, _⟩ := id isQ
  have hne : p ≠ s.heap.objs.size := Nat.ne_of_lt (Heap.lt_size hop)
  refine call_function_tree F.kind_sum F.plain_sum F.entry_sum (args_sum2 _ _) ?_
  unfold Builtin.«sum»
  simp only [List.length_cons, List.length_nil]
  rw [if_neg (by decide)]
  refine wpAny_bind (wpAny_of_eq (show Builtin.Builtins.bindParams "sum" ["start"] 0 ⟨[Value.ref q], []⟩ = pure [some (Value.ref q)] from rfl) ?_)
  refine wpAny_bind (wpAny_pyIter_list isP ?_)
  have hQ1 : (s.heap.push { cls := .type "list_iterator", data := .fields #[.ref p, .int 0 0] }).IsList q us.toArray := isQ.push _
  refine wpAny_bind (wpAny_pure ?_)
  simp only [List.forIn_cons, List.forIn_nil]
  refine wpAny_bind (wpAny_bind (wpAny_bind (wpAny_isInstance (T := "list") (b := false) (Heap.IsList.typeIs (s := { s with heap := s.heap.push { cls := .type "list_iterator", data := .fields #[.ref p, .int 0 0] } }) hQ1) PySem.F.sub_list_str ?_)))
  simp only [Bool.false_eq_true, if_false]
  refine wpAny_pure (wpAny_bind (wpAny_bind (wpAny_isInstance (T := "list") (b := false) (Heap.IsList.typeIs (s := { s with heap := s.heap.push { cls := .type "list_iterator", data := .fields #[.ref p, .int 0 0] } }) hQ1) PySem.F.sub_list_bytes ?_)))
  simp only [Bool.false_eq_true, if_false]
  refine wpAny_pure (wpAny_bind (wpAny_bind (wpAny_isInstance (T := "list") (b := false) (Heap.IsList.typeIs (s := { s with heap := s.heap.push { cls := .type "list_iterator", data := .fields #[.ref p, .int 0 0] } }) hQ1) PySem.F.sub_list_bytearray ?_)))
  simp only [Bool.false_eq_true, if_false]
  refine wpAny_pure (wpAny_pure ?_)
  refine wpAny_bind (wpAny_newObj_type ?_)
  have W := (Walks.list (prog := X.prog) (w := X.w) (A := X.A.in1) hh s.heap.objs.size p hne (bs.map Value.ref).toArray).toS
  have hsz : (bs.map Value.ref).toArray.size = bs.length := by simp
  rw [hsz] at W
  have hps : ∀ o : Obj, (s.heap.push o).objs.size = s.heap.objs.size + 1 := fun o => by simp [Heap.push]
  refine wpAny_pure ⟨plainId_quiet F.plain_sum_loop _, sum_loopL W _ (fun b hb => ?_) bs uss us s.heap rfl h1 (fun i v hP => ?_) h2 ?_ (fun b hb => ?_) (by rw [← rv2.length, ← hr2.length, h5]; exact hz) bs.length 0 _ q 0 rfl (Nat.zero_le _) ?_ (fun b o e => ?_) ?_ ?_ ?_ ?_ (fun z => absurd z (Nat.lt_irrefl _)) fun s' acc' hm hkp e1 e2 => ?_⟩
  · simp only [List.mem_cons, List.not_mem_nil, or_false] at hb
    show b < (s.heap.push _).objs.size
    rw [hps]
    rcases hb with e | e
    · rw [e]; exact Nat.lt_succ_self _
    · rw [e]; exact Nat.lt_succ_of_lt (Heap.lt_size hop)
  · have hP : (bs.map Value.ref).toArray[i]? = some v := hP
    rw [List.getElem?_toArray, List.getElem?_map] at hP
    cases e : bs[i]? with
    | none => rw [e] at hP; cases hP
    | some b => rw [e] at hP; cases hP; exact ⟨b, rfl, rfl⟩
  · show s.heap.get? (s.heap.push _).objs.size = none
    rw [hps]
    cases e : s.heap.get? (s.heap.objs.size + 1) with
    | none => rfl
    | some o => exact absurd (Heap.lt_size e) (Nat.not_lt_of_le (Nat.le_succ _))
  · simp only [List.mem_cons, List.not_mem_nil, or_false] at hb
    rw [hb]
    cases e : s.heap.get? s.heap.objs.size with
    | none => rfl
    | some o => exact absurd (Heap.lt_size e) (Nat.lt_irrefl _)
  · exact ⟨⟨_, Heap.get?_push_of_some _ (Heap.get?_push_size _ rfl), rfl, rfl⟩, (isP.push _).push _⟩
  · exact Heap.get?_push_of_some _ (Heap.get?_push_of_some _ e)
  · exact Heap.get?_push_size _ rfl
  · intro z
    have := Heap.lt_size hoq
    rw [z] at this
    have : (s.heap.push _).objs.size < s.heap.objs.size := this
    rw [hps] at this
    omega
  · intro z
    rw [List.mem_singleton.mp z] at hoq
    exact absurd (Heap.lt_size hoq) (Nat.lt_irrefl _)
  · rw [List.take_zero, List.flatten_nil, List.append_nil]
    exact (isQ.push _).push _
  · obtain ⟨h', g', d', tk', os'⟩ := s'
    have g1 : g' = s.gens := hm.gens
    have g2 : d' = s.drawn := hm.drawn
    have g3 : os' = s.os := hm.os
    subst g1 g2 g3
    by_cases z : bs = []
    · obtain rfl := e1 (by rw [z]; rfl)
      exact ⟨.ref acc', H, I.kept (t' := tk') hkp, rfl, kk _ (.ptr acc') H C (Stp.refl _ _) rl rfl (k0 z)⟩
    · obtain ⟨e3, e4⟩ := e2 (List.length_pos_iff.mpr z)
      have hn : H acc' = none := I.hok.gone e4
      have hl : (ws ++ vss.flatten).length ≤ sizeLine := by
        rw [List.length_append, ← hr2.length, ← h3.length, List.length_flatten]
        exact hz
      have J := I.laidN (o := .lst (ws ++ vss.flatten)) (t' := tk') hkp e4 hn ⟨hl, us ++ uss.flatten, 0, rv2.append h4, e3⟩
      have hC := rl.fresh hn
      have rr := hr2.append h3
      have cok : CellOk B.P B.w X.K (upd H acc' (.lst (ws ++ vss.flatten))) acc' (.lst (zs ++ yss.flatten)) := ⟨_, upd_same, rr.mono (tx_new hn)⟩
      exact ⟨.ref acc', _, J, rfl, kk _ (.ptr acc') _ _ (stp_put (by rw [hn]; exact id) (.inr hn)) (rl.putNew hn cok) rfl (k1 z acc' hC)⟩
end
end KB

/-! KX: xs.extend(a tuple). -/
namespace KB
open PySem
theorem list_extend_tupG (l : Addr) (items : Array Value) (n : Nat) (b : Addr) (items2 : Array Value) (n2 : Nat) (dd : Option Addr) (sl : Array (Option Value)) (hs0 : ¬(!items.isEmpty && Builtin.List.listTooLong (items.size + items2.size)) = true) (hs1 : items.size ≤ sizeLine) (hs2 : items.size + items2.size ≤ sizeLine + 1 := by seq_fits) :
    Meets (Builtin.«list.extend» ⟨[.ref l, .ref b], []⟩) (fun _ R s => s.heap.get? l = some { cls := .type "list", dict := none, data := .seq items n, slots := #[] } ∧ s.heap.get? b = some { cls := .type "tuple", dict := dd, data := .seq items2 n2, slots := sl } ∧ R (.ok (.ret Value.none)) { s with heap := s.heap.update l (Obj.mapSeq fun x => x ++ items2), toks := s.toks }) :=
  .of_wp fun prog w A R s h => by
    obtain ⟨hp, g, d, tk, os⟩ := s; obtain ⟨hl, hb, h⟩ := h; have f1 := AutoSeq1.idx_int; have f2 := AutoSeq1.sub_tuple_tuple; have f3 := AutoSeq1.sub_list_list; have f4 := AutoSeq1.sub_tuple_list; have f5 := AutoSeq1.sub_list_tuple;
    have hz' : (items ++ items2).size ≤ sizeLine + 1 := by rw [Array.size_append]; exact hs2
    wp_walk using (wpAny_updateSeq hl rfl (hz := hs1) (_hz' := hz')), AutoSeq1.wpAny_loadPart' hl, AutoSeq1.wpAny_loadPart' hb; exact ⟨_, rfl, h⟩
open PySem.Spec PyProof.Rows
open L2 hiding op_eqD op_neD call_listD
section
variable {X : Cx} {B : Bs}
def extendTR : D → List D → Cp → DQ → Prop := fun d ds C Q => ∃ p xs ys, d = .ptr p ∧ ds = [.tup ys] ∧ C p = some (.lst xs) ∧ xs.length + ys.length ≤ sizeLine ∧ Q .non (up C p (.lst (xs ++ ys)))
theorem mt_extendTD : MtD X B "list.extend" extendTR := by
  intro pins s σ H x xs v us Q I rx rs h
  obtain ⟨d, ds, C, Qd, r1, r2, rl, ⟨p, ys, zs, e1, e2, hc, hz, h⟩, k⟩ := h
  subst e1 e2
  cases r1
  obtain ⟨w, r3, rfl, hw, hn⟩ := r2
  cases hn
  obtain ⟨b, ws, rfl, hq, hr2⟩ := hw
  obtain ⟨vs, hp, hr⟩ := rl.cells hc
  obtain ⟨a1, a2⟩ := rl.setL hc hp (hr.append hr2)
  cases rx
  obtain ⟨u, rfl, ru⟩ := rs.one
  cases ru
  obtain ⟨z, its, n, r, hl, e⟩ := I.lstM hp
  obtain ⟨its2, rv2, ⟨⟨cls, dd, data, sl⟩, e2, hcl, n2, hd⟩, hl2⟩ := I.tuple hq
  simp only at hcl hd
  subst hcl hd
  have e3 := rv2.length
  have e4 := hr.length
  have e5 := hr2.length
  have hsz : its.toArray.size + its2.toArray.size ≤ sizeLine := by rw [List.size_toArray, List.size_toArray]; omega
  have hlong : ¬ (!its.toArray.isEmpty && Builtin.List.listTooLong (its.toArray.size + its2.toArray.size)) = true := by
    rw [notLongL hsz, Bool.and_false]
    exact Bool.false_ne_true
  refine call_meets F.slot_list_extend ⟨_, e, rfl⟩ F.entry_list_extend (F.args_list_extend_2 _ _)
    (list_extend_tupG p its.toArray n b its2.toArray n2 dd sl hlong (by rw [List.size_toArray]; omega) (by omega)) ⟨e, e2, ?_⟩
  refine ⟨.non, _, I.lset (its' := its ++ its2) hp e (by simp) (r.append rv2) ?_, rfl, k _ _ _ _ a1 a2 repN h⟩
  rw [List.length_append]
  omega
/-- one of two ways -/
def altM (r r' : D → List D → Cp → DQ → Prop) : D → List D → Cp → DQ → Prop := fun d ds C Q => r d ds C Q ∨ r' d ds C Q
theorem mt_altD {id : String} {r r' : D → List D → Cp → DQ → Prop} (h1 : MtD X B id r) (h2 : MtD X B id r') : MtD X B id (altM r r') := by
  intro pins s σ H x xs v us Q I rx rs h
  obtain ⟨d, ds, C, Qd, r1, r2, rl, h, k⟩ := h
  rcases h with h | h
  · exact h1 pins s σ H x xs v us Q I rx rs ⟨d, ds, C, Qd, r1, r2, rl, h, k⟩
  · exact h2 pins s σ H x xs v us Q I rx rs ⟨d, ds, C, Qd, r1, r2, rl, h, k⟩
end
end KB

/-! KD: walking over a dict's keys; the dict is marked while it is walked. -/
namespace KB
open PySem PySem.Spec PyProof.Rows
open L2 hiding op_eqD op_neD call_listD
section
variable {X : Cx} {B : Bs} {pins : List (Addr × Obj)} {σ : L2.St} {H : Hp} {s : Shared} {C : Cp} {p : Addr}
theorem lg_ok {P : Program} {w : World} {h : Heap} {xs : List (NestedKey × Addr × Value)} {ep : Nat} (a : ∃ o es, h.get? p = some o ∧ o.ExactDict ∧ o.data = .dict es ep ∧ es.toList = xs.map (entryOfKey (nestedKind P w)) ∧ (xs.map (·.1)).Nodup ∧ xs.length ≤ sizeLine ∧ (p == sysModules) = false) : ObjOk P w H h p (LgO P w p xs ep) :=
  ext_ok a (let ⟨o, _, e, _⟩ := a; ⟨o, e⟩) fun h1 h2 ⟨o, es, e, r⟩ k => ⟨o, es, k o e, r⟩
theorem dg_ok {P : Program} {w : World} {h : Heap} {xs : List (NestedKey × Addr × Value)} (a : ∃ o es ep, h.get? p = some o ∧ o.ExactDict ∧ o.data = .dict es ep ∧ es.toList = xs.map (entryOfKey (nestedKind P w)) ∧ (xs.map (·.1)).Nodup ∧ xs.length ≤ sizeLine ∧ (p == sysModules) = false) : ObjOk P w H h p (DgObj P w p xs) :=
  ext_ok a (let ⟨o, _, _, e, _⟩ := a; ⟨o, e⟩) fun h1 h2 ⟨o, es, ep, e, r⟩ k => ⟨o, es, ep, k o e, r⟩
/-- the mark is set -/
theorem lock_g {kvs : List (D × D)} (hP : B.P = X.prog ∧ B.w = X.w) (I : Inv X pins σ H s) (rl : Rl X.K B H C) (h : C p = some (.dg kvs)) : ∃ as ep H', Inv X pins σ H' s ∧ Stp H C H' (up C p (.lg kvs as ep)) ∧ Rl X.K B H' (up C p (.lg kvs as ep)) := by
  obtain ⟨xs, q, r, g⟩ := rl.ok _ _ h
  rw [hP.1, hP.2] at q
  obtain ⟨⟨o, es, ep, e, r2⟩, _⟩ := I.hok p _ q
  have nf : ¬ Frz (H p) := by rw [q]; exact id
  have hn : C p ≠ none := by rw [h]; exact fun z => nomatch z
  refine ⟨_, ep, upd H p (LgO X.prog X.w p xs ep), relabel I q trivial ⟨o, e⟩ (lg_ok ⟨o, es, e, r2⟩), stp_put nf (.inl hn), rl.put nf (.inl hn) ⟨xs, ?_, rfl, r.mono (tx_upd nf), g⟩⟩
  rw [hP.1, hP.2]; exact upd_same
theorem lock_k {kvs : List (DKey × D)} (hP : B.P = X.prog ∧ B.w = X.w) (I : Inv X pins σ H s) (rl : Rl X.K B H C) (h : C p = some (.dk kvs)) : ∃ ep H', Inv X pins σ H' s ∧ Stp H C H' (up C p (.lk kvs ep)) ∧ Rl X.K B H' (up C p (.lk kvs ep)) := by
  obtain ⟨ws, q, r⟩ := rl.ok _ _ h
  obtain ⟨z, hs, vs, kv, o, es, ep, e, r2⟩ := I.hok p _ q
  have nf : ¬ Frz (H p) := by rw [q]; exact id
  have hn : C p ≠ none := by rw [h]; exact fun z => nomatch z
  have hd : s.heap.DictAt (mixKind X.prog X.w) p vs ep := ⟨o, es, e, r2⟩
  refine ⟨ep, upd H p (LkO X.prog X.w p ws ep), relabel I q trivial ⟨o, e⟩ (lk_ok z hs kv hd), stp_put nf (.inl hn), rl.put nf (.inl hn) ⟨ws, ?_, r.mono (tx_upd nf)⟩⟩
  rw [hP.1, hP.2]; exact upd_same
/-- it is taken off -/
theorem unlock_g {kvs : List (D × D)} {as : List Addr} {ep : Nat} (hP : B.P = X.prog ∧ B.w = X.w) (I : Inv X pins σ H s) (rl : Rl X.K B H C) (h : C p = some (.lg kvs as ep)) : ∃ H', Inv X pins σ H' s ∧ Stp H C H' (up C p (.dg kvs)) ∧ Rl X.K B H' (up C p (.dg kvs)) := by
  obtain ⟨xs, q, _, r, g⟩ := rl.ok _ _ h
  rw [hP.1, hP.2] at q
  obtain ⟨⟨o, es, e, r2⟩, _⟩ := I.hok p _ q
  have nf : ¬ Frz (H p) := by rw [q]; exact id
  have hn : C p ≠ none := by rw [h]; exact fun z => nomatch z
  refine ⟨upd H p (DgObj X.prog X.w p xs), relabel I q trivial ⟨o, e⟩ (dg_ok ⟨o, es, ep, e, r2⟩), stp_put nf (.inl hn), rl.put nf (.inl hn) ⟨xs, ?_, r.mono (tx_upd nf), g⟩⟩
  rw [hP.1, hP.2]; exact upd_same
theorem unlock_k {kvs : List (DKey × D)} {ep : Nat} (hP : B.P = X.prog ∧ B.w = X.w) (I : Inv X pins σ H s) (rl : Rl X.K B H C) (h : C p = some (.lk kvs ep)) : ∃ H', Inv X pins σ H' s ∧ Stp H C H' (up C p (.dk kvs)) ∧ Rl X.K B H' (up C p (.dk kvs)) := by
  obtain ⟨ws, q, r⟩ := rl.ok _ _ h
  rw [hP.1, hP.2] at q
  obtain ⟨⟨z, hs, vs, kv, o, es, e, r2⟩, _⟩ := I.hok p _ q
  have nf : ¬ Frz (H p) := by rw [q]; exact id
  have hn : C p ≠ none := by rw [h]; exact fun z => nomatch z
  exact ⟨upd H p (.dK ws), relabel I q trivial ⟨o, e⟩ ⟨z, hs, vs, kv, o, es, ep, e, r2⟩, stp_put nf (.inl hn), rl.put nf (.inl hn) ⟨ws, upd_same, r.mono (tx_upd nf)⟩⟩
inductive UnlR : Cp → Cp → Prop
  | refl {C : Cp} : UnlR C C
  | k {C C2 : Cp} {p : Addr} {kvs : List (DKey × D)} {ep : Nat} : C p = some (.lk kvs ep) → UnlR (up C p (.dk kvs)) C2 → UnlR C C2
  | g {C C2 : Cp} {p : Addr} {kvs : List (D × D)} {as : List Addr} {ep : Nat} : C p = some (.lg kvs as ep) → UnlR (up C p (.dg kvs)) C2 → UnlR C C2
theorem UnlR.go {C2 : Cp} (hP : B.P = X.prog ∧ B.w = X.w) (u : UnlR C C2) : ∀ {H : Hp}, Inv X pins σ H s → Rl X.K B H C → ∃ H2, Inv X pins σ H2 s ∧ Stp H C H2 C2 ∧ Rl X.K B H2 C2 := by
  induction u with
  | refl => exact fun {H} I rl => ⟨H, I, Stp.refl _ _, rl⟩
  | k h _ ih =>
    intro H I rl
    obtain ⟨H1, I1, s1, r1⟩ := unlock_k hP I rl h
    obtain ⟨H2, I2, s2, r2⟩ := ih I1 r1
    exact ⟨H2, I2, s1.trans s2, r2⟩
  | g h _ ih =>
    intro H I rl
    obtain ⟨H1, I1, s1, r1⟩ := unlock_g hP I rl h
    obtain ⟨H2, I2, s2, r2⟩ := ih I1 r1
    exact ⟨H2, I2, s1.trans s2, r2⟩
/-- behind a statement, an expression marks may be taken off -/
def dGh (τ : DS) : DS := fun D s C => τ { nx := fun s' C' => ∃ C2, UnlR C' C2 ∧ D.nx s' C2, rt := fun d C' => ∃ C2, UnlR C' C2 ∧ D.rt d C2, bk := fun s' C' => ∃ C2, UnlR C' C2 ∧ D.bk s' C2, ct := fun s' C' => ∃ C2, UnlR C' C2 ∧ D.ct s' C2 } s C
def dGhE (τ : DE) : DE := fun s C Q => τ s C fun d C' => ∃ C2, UnlR C' C2 ∧ Q d C2
theorem js_gh {st : Stmt} {τ : DS} (hP : B.P = X.prog ∧ B.w = X.w) (h : JS X B st τ) : JS X B st (dGh τ) := ⟨fun pins s σ H D I q => by
  obtain ⟨sl, C, Dd, rs, rl, q, k⟩ := q
  refine thn (h.run pins s σ H ⟨fun σ' H' => ∃ sl' C', Stp H C H' C' ∧ Rl X.K B H' C' ∧ RepS X.K H' sl' σ' ∧ ∃ C2, UnlR C' C2 ∧ Dd.nx sl' C2, fun v H' => ∃ d C', Stp H C H' C' ∧ Rl X.K B H' C' ∧ Rep X.K H' d v ∧ ∃ C2, UnlR C' C2 ∧ Dd.rt d C2, fun σ' H' => ∃ sl' C', Stp H C H' C' ∧ Rl X.K B H' C' ∧ RepS X.K H' sl' σ' ∧ ∃ C2, UnlR C' C2 ∧ Dd.bk sl' C2, fun σ' H' => ∃ sl' C', Stp H C H' C' ∧ Rl X.K B H' C' ∧ RepS X.K H' sl' σ' ∧ ∃ C2, UnlR C' C2 ∧ Dd.ct sl' C2⟩ I
    ⟨sl, C, _, rs, rl, q, ⟨fun σ' sl' H' C' st rl' rs' q => ⟨sl', C', st, rl', rs', q⟩, fun v d H' C' st rl' r q => ⟨d, C', st, rl', r, q⟩, fun σ' sl' H' C' st rl' rs' q => ⟨sl', C', st, rl', rs', q⟩, fun σ' sl' H' C' st rl' rs' q => ⟨sl', C', st, rl', rs', q⟩⟩⟩) fun f s' z => ?_
  match f, z with
  | .next, ⟨σ', H', I', sl', C', st, rl', rs', C2, u, q⟩ =>
    obtain ⟨H2, I2, st2, rl2⟩ := u.go hP I' rl'
    exact ⟨σ', H2, I2, k.nx σ' sl' H2 C2 (st.trans st2) rl2 (rs'.mono st2.tx) q⟩
  | .brk, ⟨σ', H', I', sl', C', st, rl', rs', C2, u, q⟩ =>
    obtain ⟨H2, I2, st2, rl2⟩ := u.go hP I' rl'
    exact ⟨σ', H2, I2, k.bk σ' sl' H2 C2 (st.trans st2) rl2 (rs'.mono st2.tx) q⟩
  | .cont, ⟨σ', H', I', sl', C', st, rl', rs', C2, u, q⟩ =>
    obtain ⟨H2, I2, st2, rl2⟩ := u.go hP I' rl'
    exact ⟨σ', H2, I2, k.ct σ' sl' H2 C2 (st.trans st2) rl2 (rs'.mono st2.tx) q⟩
  | .ret w, ⟨v, σ', H', I', rv, d, C', st, rl', r, C2, u, q⟩ =>
    obtain ⟨H2, I2, st2, rl2⟩ := u.go hP I' rl'
    exact ⟨v, σ', H2, I2, rv, k.rt v d H2 C2 (st.trans st2) rl2 (r.mono st2.tx) q⟩⟩
theorem j_gh {e : Expr} {τ : DE} (hP : B.P = X.prog ∧ B.w = X.w) (h : JE X B e τ) : JE X B e (dGhE τ) := ⟨fun pins s σ H Q I q => by
  obtain ⟨sl, C, Qd, rs, rl, q, k⟩ := q
  refine thn (h.run pins s σ H (fun v H' => ∃ d C', Stp H C H' C' ∧ Rl X.K B H' C' ∧ Rep X.K H' d v ∧ ∃ C2, UnlR C' C2 ∧ Qd d C2) I ⟨sl, C, _, rs, rl, q, fun v d H' C' st rl' r q => ⟨d, C', st, rl', r, q⟩⟩) fun w s' z => ?_
  obtain ⟨v, H', I', rv, d, C', st, rl', r, C2, u, q⟩ := z
  obtain ⟨H2, I2, st2, rl2⟩ := u.go hP I' rl'
  exact ⟨v, H2, I2, rv, k v d H2 C2 (st.trans st2) rl2 (r.mono st2.tx) q⟩⟩
end
/-! ### the walk -/
def Itq (G : Hp → Prop) (vs : List V) : It := ⟨fun i H => G H ∧ i < vs.length, fun i H x H' => H' = H ∧ vs[i]? = some x, fun i H => G H ∧ vs.length ≤ i⟩
theorem turn_q {P : Program} {w : World} {K : PySem.W.Frag} {tg : Expr} {G : Hp → Prop} {vs : List V} (it d ep : Nat) (hG : ∀ (X : Cx) pins σ H s, X.prog = P → X.w = w → Inv X pins σ H s → G H → ∃ o es us, s.heap.get? d = some o ∧ o.data = .dict es ep ∧ es.toList.map (·.key) = us ∧ Vals vs us) :
    Turn P w K tg (Itq G vs) [it] it (fun i h => h.IsKeyIter it d i vs.length ep) where
  mem := by simp
  obj := fun i h st b hb => by
    have e : b = it := by simpa using hb
    subst e
    obtain ⟨oi, e, c, dd⟩ := st
    exact ⟨oi, e, fun v z => by rw [dd] at z; cases z⟩
  keep := fun i h h' st k => st.at fun oi e => k it (by simp) oi e
  item := by
    intro X hP hw hK hc i pins s σ H E I hf st hg
    obtain ⟨hd, hi⟩ := hg
    obtain ⟨f0, f1, f2, f3, f4, f5⟩ := hf it (by simp)
    obtain ⟨o, es, us, hgd, hdt, hks, rv⟩ := hG X pins σ H s hP hw I hd
    subst hP hw hK
    have hsz : es.size = vs.length := by rw [rv.length, ← hks, List.length_map, Array.length_toList]
    have hi2 : i < es.size := by rw [hsz]; exact hi
    have hen : es[i]? = some es[i] := Array.getElem?_eq_getElem hi2
    obtain ⟨u, hu, ru⟩ := rv.get (List.getElem?_eq_getElem hi)
    have eu : u = es[i].key := by
      rw [← hks, List.getElem?_map, Array.getElem?_toList, hen] at hu
      exact (Option.some.inj hu).symm
    subst eu
    refine next_key_item st hgd hdt hsz hen fun h' st' sb => ?_
    have I1 : Inv X pins σ H { s with heap := h' } := I.turned (t' := s.toks) (fun b ob hb e => (sb.2 b hb).trans e) f0 f1 f3 f4 f5
    obtain ⟨oi, e, c, dd⟩ := id st'
    exact ⟨es[i].key, rfl, go_of (s := { s with heap := h' }) e c dd (by decide) ⟨vs[i], H, I1, ru, ⟨rfl, List.getElem?_eq_getElem hi⟩, st', fun b hb => (hf b hb).1⟩⟩
  done := by
    intro X hP hw hK hc i pins s σ H E I hf st hg
    obtain ⟨hd, hi⟩ := hg
    obtain ⟨f0, f1, f2, f3, f4, f5⟩ := hf it (by simp)
    obtain ⟨o, es, us, hgd, hdt, hks, rv⟩ := hG X pins σ H s hP hw I hd
    subst hP hw hK
    have hsz : es.size = vs.length := by rw [rv.length, ← hks, List.length_map, Array.length_toList]
    exact next_key_end (I.ok.hd hc) st hgd hdt hsz hi fun h' eb => ⟨rfl, I.turned (t' := s.toks) (fun b ob hb e => eb b ob hb e) f0 f1 f3 f4 f5⟩
  self := fun A i s Q E st h => by
    refine wpAny_pyIter_slot st.typeIs F.slot_dict_keyiterator_iter (wpAny_call_entry F.slot_dict_keyiterator_iter st.typeIs F.entry_dict_keyiterator_iter ?_ (F.args_dict_keyiterator_iter_1 _))
    show wpAny _ _ (ret (.ref it)) _ _ s
    exact wpAny_pure ⟨_, rfl, "dict_keyiterator", _, st.typeIs, F.slot_dict_keyiterator_next.lookup, h⟩
end KB
namespace KB
open PySem PySem.Spec PyProof.Rows
open L2 hiding op_eqD op_neD call_listD
section
variable {X : Cx} {B : Bs} {pins : List (Addr × Obj)} {σ : L2.St} {H : Hp} {s : Shared} {C : Cp} {p : Addr}
theorem lk_at {ws : List (Key × V)} {ep : Nat} (I : Inv X pins σ H s) (h : H p = some (LkO X.prog X.w p ws ep)) : (p == sysModules) = false ∧ ∃ o es us, s.heap.get? p = some o ∧ o.ExactDict ∧ o.data = .dict es ep ∧ es.toList.map (·.key) = us ∧ Vals (ws.map fun q => kV q.1) us := by
  obtain ⟨⟨z, hs, vs, kv, o, es, e, hx, hd, _, pr, _⟩, _⟩ := I.hok p _ h
  refine ⟨hs, o, es, _, e, hx, hd, rfl, ?_⟩
  have : ∀ {l : List DictEntry} {vs : List (Key × Value)}, Pairs (mixKind X.prog X.w) l vs → ∀ {ws : List (Key × V)}, KV ws vs → Vals (ws.map fun q => kV q.1) (l.map (·.key)) := by
    intro l vs a
    induction a with
    | nil => intro ws b; unfold KV at b; cases b; exact .nil
    | cons r _ t ih =>
      intro ws b
      unfold KV at b
      cases b with
      | cons r2 t2 => exact .cons (relV_key (by rw [r2.1]; exact r)) (ih t2)
  exact this pr kv
theorem lg_at {xs : List (NestedKey × Addr × Value)} {ep : Nat} (I : Inv X pins σ H s) (h : H p = some (LgO X.prog X.w p xs ep)) : (p == sysModules) = false ∧ ∃ o es us, s.heap.get? p = some o ∧ o.ExactDict ∧ o.data = .dict es ep ∧ es.toList.map (·.key) = us ∧ Vals (xs.map fun q => V.ref q.2.1) us := by
  obtain ⟨⟨o, es, e, hx, hd, he, _, _, hs⟩, _⟩ := I.hok p _ h
  refine ⟨hs, o, es, _, e, hx, hd, rfl, ?_⟩
  rw [he, List.map_map]
  have : ∀ xs : List (NestedKey × Addr × Value), Vals (xs.map fun q => V.ref q.2.1) (xs.map ((·.key) ∘ entryOfKey (nestedKind X.prog X.w))) := by
    intro xs
    induction xs with
    | nil => exact .nil
    | cons x r ih => exact .cons rfl ih
  exact this xs
theorem rep_key {K : PySem.W.Frag} {H : Hp} : ∀ k : DKey, Rep K H (keyD k) (kV (keyOf k))
  | .inl i => rfl
  | .inr l => rfl
theorem repG_keys {K : PySem.W.Frag} {H : Hp} {kvs : List (D × D)} {xs : List (NestedKey × Addr × Value)} (h : RepG K H kvs xs) : Reps K H (kvs.map (·.1)) (xs.map fun q => V.ref q.2.1) := by
  unfold RepG at h
  induction h with
  | nil => exact .nil
  | cons r t ih => exact .cons r.2.1 ih
/-- over a dict's keys -/
def dOverK (t : DE) : DI := fun s C R => t s C fun x C1 => ∃ p, x = .ptr p ∧ ((∃ kvs, C1 p = some (.dk kvs) ∧ ∀ ep, R (kvs.map fun q => keyD q.1) (fun C => ∃ kvs', C p = some (.lk kvs' ep) ∧ kvs'.map (·.1) = kvs.map (·.1)) (up C1 p (.lk kvs ep))) ∨
  ∃ kvs, C1 p = some (.dg kvs) ∧ ∀ as ep, R (kvs.map (·.1)) (fun C => ∃ kvs', C p = some (.lg kvs' as ep) ∧ kvs'.map (·.1) = kvs.map (·.1)) (up C1 p (.lg kvs as ep)))
theorem ji_dict {tg e : Expr} {te : DE} (hP : B.P = X.prog ∧ B.w = X.w) (he : JE X B e te) : JI X B tg e (dOverK te) := ⟨fun pins s σ H R I h => by
  obtain ⟨sl, C, Qd, rs, rl, h, k⟩ := h
  refine thn (he.run pins s σ H (fun v H1 => ∃ d C1, Stp H C H1 C1 ∧ Rl X.K B H1 C1 ∧ Rep X.K H1 d v ∧ _) I ⟨sl, C, _, rs, rl, h, fun v d H' C' st rl' r q => ⟨d, C', st, rl', r, q⟩⟩) fun w s' z => ?_
  obtain ⟨v, H1, I1, rv, d, C1, st1, rl1, r, p, ed, q⟩ := z
  subst ed
  cases r
  obtain rfl : w = Value.ref p := rv
  rcases q with ⟨kvs, hc, q⟩ | ⟨kvs, hc, q⟩
  · obtain ⟨ep, H2, I2, st2, rl2⟩ := lock_k hP I1 rl1 hc
    obtain ⟨ws, hh, rk⟩ := rl2.ok p _ up_same
    have hh2 : H2 p = some (LkO X.prog X.w p ws ep) := by rw [← hP.1, ← hP.2]; exact hh
    obtain ⟨hs, o, es, us, hgd, hx, hdt, hks, rv⟩ := lk_at I2 hh2
    have len : (ws.map fun q => kV q.1).length = es.size := by rw [rv.length, ← hks, List.length_map, Array.length_toList]
    refine iter_keys hs hgd hx hdt (pi_one (tk := s'.toks) I2 _ (turn_q (G := fun H => ∃ ws', H p = some (LkO X.prog X.w p ws' ep) ∧ ws'.map (·.1) = ws.map (·.1)) (vs := ws.map fun q => kV q.1) _ p ep fun X' pins' σ' H' s' e1 e2 I' ⟨ws', hw, ew⟩ => ?_) ⟨_, Heap.get?_push_size _ rfl, rfl, by rw [len]; rfl⟩ (k _ _ H2 _ _ (st1.trans st2) rl2 ?_ (q ep)))
    · rw [← e1, ← e2] at hw
      obtain ⟨_, o, es, us, a, _, b, c, d⟩ := lk_at I' hw
      refine ⟨o, es, us, a, b, c, ?_⟩
      have : (ws'.map fun q => kV q.1) = ws.map fun q => kV q.1 := by
        have := congrArg (List.map kV) ew
        rw [List.map_map, List.map_map] at this
        exact this
      rw [← this]; exact d
    · have hl : (kvs.map fun q => keyD q.1).length = (ws.map fun q => kV q.1).length := by rw [List.length_map, List.length_map, Paired.length rk]
      have hG : ∀ {H' : Hp} {C' : Cp}, Rl X.K ⟨H2, up C1 p (.lk kvs ep), B.P, B.w⟩ H' C' → (∃ kvs', C' p = some (.lk kvs' ep) ∧ kvs'.map (·.1) = kvs.map (·.1)) → ∃ ws', H' p = some (LkO X.prog X.w p ws' ep) ∧ ws'.map (·.1) = ws.map (·.1) := fun rl' ⟨kvs', e1, e2⟩ => by
        obtain ⟨ws', a, b⟩ := rl'.ok p _ e1
        refine ⟨ws', by rw [← hP.1, ← hP.2]; exact a, ?_⟩
        have := congrArg (List.map keyOf) e2
        rw [List.map_map, List.map_map] at this
        exact (repK_keys b).symm.trans (this.trans (repK_keys rk))
      refine ⟨fun i H' C' hi rl' o => ⟨hG rl' o, by rw [← hl]; exact hi⟩, fun H' C' rl' o => ⟨hG rl' o, by rw [hl]; exact Nat.le_refl _⟩, fun i H' C' x H'' hi rl' o y => ?_⟩
      obtain ⟨e, hx⟩ := y
      subst e
      rw [List.length_map] at hi
      refine ⟨Stp.refl _ _, rl', keyD kvs[i].1, by rw [List.getElem?_map, List.getElem?_eq_getElem hi]; rfl, ?_⟩
      have e3 : (ws.map fun q => kV q.1) = kvs.map fun q => kV (keyOf q.1) := by
        have := congrArg (List.map kV) (repK_keys rk)
        rw [List.map_map, List.map_map] at this
        exact this.symm
      rw [e3, List.getElem?_map, List.getElem?_eq_getElem hi] at hx
      cases hx
      exact rep_key _
  · obtain ⟨as, ep, H2, I2, st2, rl2⟩ := lock_g hP I1 rl1 hc
    obtain ⟨xs, hh, eas, rk, _⟩ := rl2.ok p _ up_same
    have hh2 : H2 p = some (LgO X.prog X.w p xs ep) := by rw [← hP.1, ← hP.2]; exact hh
    obtain ⟨hs, o, es, us, hgd, hx, hdt, hks, rv⟩ := lg_at I2 hh2
    have rk := repG_keys rk
    have ev : (xs.map fun q => V.ref q.2.1) = as.map V.ref := by rw [← eas, List.map_map]; rfl
    rw [ev] at rv rk
    have len : (as.map V.ref).length = es.size := by rw [rv.length, ← hks, List.length_map, Array.length_toList]
    refine iter_keys hs hgd hx hdt (pi_one (tk := s'.toks) I2 _ (turn_q (G := fun H => ∃ xs', H p = some (LgO X.prog X.w p xs' ep) ∧ xs'.map (·.2.1) = as) (vs := as.map V.ref) _ p ep fun X' pins' σ' H' s' e1 e2 I' ⟨xs', hw, ew⟩ => ?_) ⟨_, Heap.get?_push_size _ rfl, rfl, by rw [len]; rfl⟩ (k _ _ H2 _ _ (st1.trans st2) rl2 ?_ (q as ep)))
    · rw [← e1, ← e2] at hw
      obtain ⟨_, o, es, us, a, _, b, c, d⟩ := lg_at I' hw
      refine ⟨o, es, us, a, b, c, ?_⟩
      rw [← ew, List.map_map]
      exact d
    · have hl : (kvs.map (·.1)).length = (as.map V.ref).length := rk.length
      have hG : ∀ {H' : Hp} {C' : Cp}, Rl X.K ⟨H2, up C1 p (.lg kvs as ep), B.P, B.w⟩ H' C' → (∃ kvs', C' p = some (.lg kvs' as ep) ∧ kvs'.map (·.1) = kvs.map (·.1)) → ∃ xs', H' p = some (LgO X.prog X.w p xs' ep) ∧ xs'.map (·.2.1) = as := fun rl' ⟨kvs', e1, e2⟩ => by
        obtain ⟨xs', a, b, _⟩ := rl'.ok p _ e1
        exact ⟨xs', by rw [← hP.1, ← hP.2]; exact a, b⟩
      refine ⟨fun i H' C' hi rl' o => ⟨hG rl' o, by rw [← hl]; exact hi⟩, fun H' C' rl' o => ⟨hG rl' o, by rw [hl]; exact Nat.le_refl _⟩, fun i H' C' x H'' hi rl' o y => ?_⟩
      obtain ⟨e, hx⟩ := y
      subst e
      obtain ⟨d, hd, hr⟩ := (rk.mono rl'.st.tx).getV hx
      exact ⟨Stp.refl _ _, rl', d, hd, hr⟩⟩
end
end KB

/-! KK: the module's own tuples and dicts with text keys. -/
namespace KB
open PySem PySem.Spec PyProof.Rows
open L2 hiding op_eqD op_neD call_listD
/-- a tuple of the written part -/
def KTu (K : PySem.W.Frag) (a : Addr) (vs : List V) : Prop := ∃ (o : Obj) (its : Array Value) (n : Nat), K.lookup a = some o ∧ o.cls = .type "tuple" ∧ o.data = .seq its n ∧ its.size ≤ sizeLine ∧ Vals vs its.toList
mutual
def RepC (K : PySem.W.Frag) : D → V → Prop
  | .non, v => v = .non
  | .bl b, v => v = .bl b
  | .int i, v => v = .int i
  | .str l, v => v = .str ⟨l.toArray⟩
  | .ptr _, _ => False
  | .ty _, _ => False
  | .tup ds, v => ∃ a vs, v = .ref a ∧ KTu K a vs ∧ RepCs K ds vs
def RepCs (K : PySem.W.Frag) : List D → List V → Prop
  | [], vs => vs = []
  | d :: ds, vs => ∃ v r, vs = v :: r ∧ RepC K d v ∧ RepCs K ds r
end
mutual
theorem RepC.rep {K : PySem.W.Frag} {H : Hp} : ∀ {d : D} {v : V}, RepC K d v → Rep K H d v
  | .non, _, h => h
  | .bl _, _, h => h
  | .int _, _, h => h
  | .str _, _, h => h
  | .ptr _, _, h => h.elim
  | .ty _, _, h => h.elim
  | .tup _, _, h => by
    obtain ⟨a, vs, e, k, r⟩ := h
    exact ⟨a, vs, e, .inr k, RepCs.reps r⟩
theorem RepCs.reps {K : PySem.W.Frag} {H : Hp} : ∀ {ds : List D} {vs : List V}, RepCs K ds vs → Reps K H ds vs
  | [], _, h => h
  | _ :: _, _, h => by
    obtain ⟨v, r, e, a, t⟩ := h
    exact ⟨v, r, e, RepC.rep a, RepCs.reps t⟩
end
/-- a value of the written part -/
def ValC (K : PySem.W.Frag) (d : D) (u : Value) : Prop := ∃ v, RepC K d v ∧ RelV v u
inductive ValCs (K : PySem.W.Frag) : List D → List Value → Prop
  | nil : ValCs K [] []
  | cons {d : D} {u : Value} {ds : List D} {us : List Value} : ValC K d u → ValCs K ds us → ValCs K (d :: ds) (u :: us)
theorem ValCs.out {K : PySem.W.Frag} {ds : List D} {us : List Value} (h : ValCs K ds us) : ∃ vs, RepCs K ds vs ∧ Vals vs us := by
  induction h with
  | nil => exact ⟨[], rfl, .nil⟩
  | cons a _ ih =>
    obtain ⟨v, r1, r2⟩ := a
    obtain ⟨vs, q1, q2⟩ := ih
    exact ⟨v :: vs, ⟨v, vs, rfl, r1, q1⟩, .cons r2 q2⟩
theorem vc_int {K : PySem.W.Frag} {i : Int} {t : Tok} : ValC K (.int i) (.int i t) := ⟨.int i, rfl, t, rfl⟩
theorem vc_str {K : PySem.W.Frag} {x : Str} {t : Tok} {l : List Nat} (h : x = ⟨l.toArray⟩ := by decide +kernel) : ValC K (.str l) (.str x t) := by subst h; exact ⟨.str _, rfl, t, rfl⟩
theorem keyc_is {x : Str} {t : Tok} {l : List Nat} (h : x = ⟨l.toArray⟩ := by decide +kernel) : ∃ t', Value.str x t = .str ⟨l.toArray⟩ t' := ⟨t, by rw [h]⟩
theorem vc_tup {K : PySem.W.Frag} {a : Addr} {ds : List D} {us : List Value} {dd : Option Addr} {n : Nat} {sl : Array (Option Value)} (h : K.lookup a = some ⟨.type "tuple", dd, .seq us.toArray n, sl⟩) (r : ValCs K ds us) (z : us.length ≤ 1000 := by simp) : ValC K (.tup ds) (.ref a) := by
  obtain ⟨vs, q1, q2⟩ := r.out
  exact ⟨.ref a, ⟨a, vs, rfl, ⟨_, us.toArray, n, h, rfl, rfl, by rw [List.size_toArray]; exact sz1000 z, q2⟩, q1⟩, rfl⟩
/-- a dict of the written part -/
structure KTab (K : PySem.W.Frag) (w : World) (d : Addr) (tbl : List (List Nat × D)) : Prop where
  ex : ∃ es n, KDict K w d es n ∧ Paired (fun (e : DictEntry) (kv : List Nat × D) => (∃ t, e.key = .str ⟨kv.1.toArray⟩ t) ∧ ValC K kv.2 e.val) es.toList tbl
def lookK (tbl : List (List Nat × D)) (l : List Nat) : Option D := (tbl.find? fun kv => decide (kv.1 = l)).map (·.2)
theorem ktab_find {K : PySem.W.Frag} {es : List DictEntry} {tbl : List (List Nat × D)} (h : Paired (fun (e : DictEntry) (kv : List Nat × D) => (∃ t, e.key = .str ⟨kv.1.toArray⟩ t) ∧ ValC K kv.2 e.val) es tbl) (l : List Nat) :
    match lookK tbl l with | none => (es.find? fun e => Value.isStrOf ⟨l.toArray⟩ e.key) = none | some d => ∃ e, (es.find? fun e => Value.isStrOf ⟨l.toArray⟩ e.key) = some e ∧ ValC K d e.val := by
  induction h with
  | nil => rfl
  | @cons e kv es tbl r t ih =>
    obtain ⟨⟨tk, ek⟩, vc⟩ := r
    have hk : Value.isStrOf ⟨l.toArray⟩ e.key = decide (kv.1 = l) := by
      rw [ek]
      show ((⟨kv.1.toArray⟩ : Str) == ⟨l.toArray⟩) = _
      rw [sarr_eq]
      by_cases h : kv.1 = l <;> simp [h]
    unfold lookK at ih ⊢
    rw [List.find?_cons, List.find?_cons, hk]
    by_cases h : kv.1 = l
    · simp only [h, decide_true, Option.map_some]
      exact ⟨e, rfl, vc⟩
    · simp only [h, decide_false]
      exact ih
section
variable {X : Cx} {B : Bs} {pos apos p : Pos} {e f o : Expr} {es : List Expr} {te tf : DE} {tr : DA} {d : Addr} {tbl : List (List Nat × D)} {x name : Str}
theorem ktab_map {s : Shared} {pins : List (Addr × Obj)} {σ : L2.St} {H : Hp} (T : KTab X.K X.w d tbl) (I : Inv X pins σ H s) : ∃ g : Str → Option Value, (d == sysModules) = false ∧ s.heap.MapOf (strKind X.prog X.w) d g ∧ ∀ l : List Nat, match lookK tbl l with | none => g ⟨l.toArray⟩ = none | some z => ∃ u, g ⟨l.toArray⟩ = some u ∧ ValC X.K z u := by
  obtain ⟨es, n, D, P⟩ := T.ex
  refine ⟨_, D.low, PySem.W.mapOf_K (prog := X.prog) I.kIn D.at_ D.lit, fun l => ?_⟩
  have := ktab_find P l
  cases e : lookK tbl l with
  | none =>
    rw [e] at this
    show findBy Value.isStrOf es _ = none
    unfold findBy
    obtain ⟨L⟩ := es
    rw [List.find?_toArray]
    have this : (L.find? fun e => Value.isStrOf ⟨l.toArray⟩ e.key) = none := this
    rw [this]; rfl
  | some z =>
    rw [e] at this
    obtain ⟨en, h1, h2⟩ := this
    refine ⟨en.val, ?_, h2⟩
    show findBy Value.isStrOf es _ = _
    unfold findBy
    obtain ⟨L⟩ := es
    rw [List.find?_toArray]
    have h1 : (L.find? fun e => Value.isStrOf ⟨l.toArray⟩ e.key) = some en := h1
    rw [h1]; rfl
/-- a tuple of the module by its name -/
theorem j_globT {ds : List D} {a : Addr} (hm : X.mg x = some (.ref a)) (h : ValC X.K (.tup ds) (.ref a)) (hg : Gl X x := by rfl) (hd : (x == ("__debug__" : Str)) = false := by decide) : JE X B (.Name x pos) (dC (.tup ds)) := by
  obtain ⟨v, r, rv⟩ := h
  obtain ⟨a', vs, e, _⟩ := id r
  subst e
  cases (show Value.ref a = Value.ref a' from rv)
  exact PE.imp (pe_glob (v := .ref a) hg hm rfl hd) fun σ H Q h => by
    obtain ⟨sl, C, Qd, rs, rl, q, k⟩ := h
    exact k _ _ H C (Stp.refl _ _) rl (RepC.rep r) q
/-- NAME.get(k, z) -/
def dKGet (tbl : List (List Nat × D)) (t : DA) : DE := fun s C Q => t s C fun ds C1 => ∃ l z, (ds = [.str l, z] ∨ ds = [.str l] ∧ z = .non) ∧ Q ((lookK tbl l).getD z) C1
theorem j_kget (hT : KTab X.K X.w d tbl) (hm : X.mg x = some (.ref d)) (ha : JA X B (e :: es) tr) (hg : Gl X x := by rfl) (hdb : (x == ("__debug__" : Str)) = false := by decide)
    (hbase : attributeBase (.Name x p) "get" X.env (eval (.Name x p) X.env) = eval (.Name x p) X.env := by rfl)
    (hfew : ((backTo pos (starEach (e :: es) X.env)).all (fun x => !x.1) && (backToKw pos (keywordEach [] X.env)).all (fun x => x.1.isSome)
      && decide ((e :: es).length + ([] : List Keyword).length + (if ([] : List Keyword).isEmpty then 0 else 1) < 30)) = true := by rfl)
    (hline : (apos.endLine == pos.line) = true := by rfl) (hs : starEach (e :: es) X.env = (false, eval e X.env) :: starEach es X.env := by rfl) (hplain : (backTo pos (starEach es X.env)).any (·.1) = false := by rfl) :
    JE X B (.Call (.Attribute (.Name x p) "get" apos) (e :: es) [] pos) (dKGet tbl tr) := ⟨fun pins s σ H Q I h => by
  obtain ⟨sl, C, Qd, rs, rl, h, k⟩ := h
  refine wpAny_Call_method_late hbase hfew hline rfl (thn ((pe_glob (X := X) (pos := p) (v := .ref d) hg hm rfl hdb).run pins s σ H (fun v H1 => v = V.ref d ∧ H1 = H) I ⟨rfl, rfl⟩) fun v s1 ⟨xv, H1, I1, r1, ev, eH⟩ => ?_)
  subst ev eH
  obtain rfl : v = Value.ref d := r1
  obtain ⟨g, low, hmap, hfind⟩ := ktab_map hT I1
  refine ⟨"dict", "dict.get", PySem.F.plainAttrs_dict, PySem.F.slot_dict_get, PySem.F.type_dict_get, hmap.typeIs, hmap.noDict, ?_⟩
  have hA := ha.run pos pins s1 σ H1 (fun vs H2 => ∃ ds C2, Stp H1 C H2 C2 ∧ Rl X.K B H2 C2 ∧ Reps X.K H2 ds vs ∧ ∃ l z, (ds = [.str l, z] ∨ ds = [.str l] ∧ z = .non) ∧ Qd ((lookK tbl l).getD z) C2) I1 ⟨sl, C, _, rs, rl, h, fun vs ds H' C' st rl' r q => ⟨ds, C', st, rl', r, q⟩⟩
  rw [hs] at hA ⊢
  refine Calls.callWith_builtin (by show (false || (backTo pos (starEach es X.env)).any (·.1)) = false; rw [hplain] <;> rfl) (Calls.evalArgs_plain ?_)
  refine thn hA fun us s2 ⟨vs, H2, I2, r2, ds, C2, st2, rl2, rds, l, z, eds, q2⟩ => ?_
  obtain ⟨g, low, hmap, hfind⟩ := ktab_map hT I2
  have hf := hfind l
  rcases eds with eds | ⟨eds, ez⟩
  · subst eds
    obtain ⟨v1, w1, rfl, a1, v2, w2, rfl, a2, hn⟩ := rds
    cases hn; cases a1
    obtain ⟨u1, u2, rfl, b1, b2⟩ := vals2 r2
    obtain ⟨tk, rfl⟩ := (show ∃ t, u1 = Value.str ⟨l.toArray⟩ t from b1)
    refine call_meetsIn PySem.F.slot_dict_get hmap.typeIs PySem.F.entry_dict_get (PySem.F.args_dict_get_3 _ _ _) (meets_dict_get_default (strKind X.prog X.w) d (PySem.strKind_is X.prog X.w ⟨l.toArray⟩ tk) low u2) ⟨_, hmap, ?_⟩
    cases e : lookK tbl l with
    | none =>
      rw [e] at hf q2
      rw [hf]
      exact ⟨v2, H2, I2.tok _, b2, k _ z H2 C2 st2 rl2 a2 q2⟩
    | some y =>
      rw [e] at hf q2
      obtain ⟨u, hu, v, rc, rv⟩ := hf
      rw [hu]
      exact ⟨v, H2, I2.tok _, rv, k _ y H2 C2 st2 rl2 (RepC.rep rc) q2⟩
  · subst eds ez
    obtain ⟨v1, w1, rfl, a1, hn⟩ := rds
    cases hn; cases a1
    obtain ⟨u1, rfl, b1⟩ := vals1 r2
    obtain ⟨tk, rfl⟩ := (show ∃ t, u1 = Value.str ⟨l.toArray⟩ t from b1)
    refine call_meetsIn PySem.F.slot_dict_get hmap.typeIs PySem.F.entry_dict_get (PySem.F.args_dict_get_2 _ _) (meets_dict_get (strKind X.prog X.w) d (PySem.strKind_is X.prog X.w ⟨l.toArray⟩ tk) low) ⟨_, hmap, ?_⟩
    cases e : lookK tbl l with
    | none =>
      rw [e] at hf q2
      rw [hf]
      exact ⟨.non, H2, I2.tok _, rfl, k _ .non H2 C2 st2 rl2 rfl q2⟩
    | some y =>
      rw [e] at hf q2
      obtain ⟨u, hu, v, rc, rv⟩ := hf
      rw [hu]
      exact ⟨v, H2, I2.tok _, rv, k _ y H2 C2 st2 rl2 (RepC.rep rc) q2⟩⟩
end
end KB

/-! KV: sorted(xs, reverse=True). -/
namespace KB
open PySem PySem.Spec PyProof.Rows
open L2 hiding op_eqD op_neD call_listD
section
variable {X : Cx} {B : Bs} {pos : Pos} {e : Expr} {tr : DA}
/-- greater or equal, as sorting has it -/
def geP (a b : D) : Bool := leP b a
def sortedVR : List D → Cp → DQ → Prop := fun ds C Q => ∃ d xs, ds = [d] ∧ collD C d xs ∧ SortOk xs ∧ ∀ p, C p = none → Q (.ptr p) (up C p (.lst (xs.mergeSort geP)))
theorem call_sortedVD (hB : B.P = X.prog ∧ B.w = X.w) (hr : X.A.units + 70 < cLine) (hcalm : X.calm = true) : CallRK X (.builtin "sorted") ["reverse"] (fun vs zs H Q => zs = [V.bl true] ∧ lC X.K B sortedVR vs H Q) := by
  intro pins s σ H ys zs us wss Q I rx rz hh
  obtain ⟨ez, hh⟩ := hh
  subst ez
  obtain ⟨w1, rfl, b1⟩ := vals1 rz
  obtain rfl : w1 = Value.bool true := b1
  obtain ⟨ds, C, Qd, r, rl, ⟨d, xs, e, hc, so, hq⟩, k⟩ := hh
  subst e
  obtain ⟨v, r2, rfl, hv, hn⟩ := r
  cases hn
  obtain ⟨u, rfl, ru⟩ := vals1 rx
  show wpAny _ _ (call (.builtin "sorted") [u] [(Str.ofString "reverse", .bool true)]) _ _ _
  refine call_function_entry_kw kind_sorted plain_sorted entry_sorted (args_sorted_rev _ _) ?_
  unfold Builtin.«sorted»
  refine wpAny_bind (m := checkCount "sorted" 1 1 _) (wpAny_pure ?_)
  refine wpAny_bind (collect_D (A := X.A.in1) hB (I.ok.hd hcalm) I rl hv ru hc fun its h' tk hz hk st => ?_)
  obtain ⟨vs, hr1, hr2⟩ := st
  have hl : its.length ≤ sizeLine := by rw [← hr2.length, ← hr1.length]; exact hz
  refine wpAny_bind (wpAny_newList ?_ hl)
  have hoL : (h'.push (seqObj "list" its.toArray 0)).get? h'.objs.size = some (seqObj "list" its.toArray 0) := Heap.get?_push_size _ rfl
  have I1 : Inv X pins σ H { s with heap := h', toks := tk } := I.kept hk
  have keep : ∀ b o, h'.get? b = some o → (W.sortingHeap (h'.push (seqObj "list" its.toArray 0)) h'.objs.size its).get? b = some o := fun b o e =>
    W.sortingHeap_old (Nat.ne_of_lt (Heap.lt_size e)) (Heap.get?_push_of_some _ e)
  have er : W.EachIs (fun u d => ∃ as, Reads (W.sortingHeap (h'.push (seqObj "list" its.toArray 0)) h'.objs.size its) u (toP d) as) its xs := eachIs_of hr1 hr2 fun d v u m a b => by
    obtain ⟨as, q⟩ := Dp.reads I1 (toP d) v u (dp_of d v (so.np d m).1 a) b
    exact ⟨as, PyProof.Rows.Reads.keeps keep q⟩
  show wpAny _ _ _ _ _ { s with heap := h'.push (seqObj "list" its.toArray 0), toks := tk }
  have S : W.SortsAt X.prog X.w X.A.in1.in1 { s with heap := W.sortingHeap (h'.push (seqObj "list" its.toArray 0)) h'.objs.size its, toks := tk } (W.dataKind (W.sortingHeap (h'.push (seqObj "list" its.toArray 0)) h'.objs.size its) (xs.map toP)) its :=
    sortsX (s := { s with heap := W.sortingHeap (h'.push (seqObj "list" its.toArray 0)) h'.objs.size its, toks := tk }) (W.each_map (R := fun v d => ∃ as, Reads _ v d as) toP er) so.ok fun d hd => by
      obtain ⟨b, hb, rfl⟩ := List.mem_map.mp hd
      rw [depth_toP]
      have := (so.np b hb).2
      show X.A.units + 1 + 1 + _ < cLine
      omega
  refine wpAny_bind (wpAny_holding (wpAny_call_entry_kw PyProof.Rows.slot_list_sort ⟨_, hoL, rfl⟩ PyProof.Rows.entry_list_sort
    (W.list_sort_rev_vals (b := true) (s := { s with heap := h'.push (seqObj "list" its.toArray 0), toks := tk }) hoL S hl ⟨_, rfl, ?_⟩) (args_list_sort_rev _ _)))
  have out : W.EachIs (fun u d => ∃ v, Rep X.K H d v ∧ RelV v u) _ (xs.mergeSort (W.dataLe true toP)) := valsX (R := fun u d => ∃ v, Rep X.K H d v ∧ RelV v u) true (eachIs_of hr1 hr2 fun d v u _ a b => ⟨v, a, b⟩) er so.ok
  have egp : (W.dataLe true toP : D → D → Bool) = geP := rfl
  rw [egp] at out
  obtain ⟨ws, g1, g2⟩ := stand_of (X := X) (H := H) out
  obtain ⟨e', he'⟩ := PyProof.Rows.sortedHeap_at (vs := its) (out := (W.sortVals (W.dataKind (W.sortingHeap (h'.push (seqObj "list" its.toArray 0)) h'.objs.size its) (xs.map toP)) true its its).toArray) hoL
  have hlen : ws.length ≤ sizeLine := by
    rw [← g1.length, List.length_mergeSort]
    exact hz
  have hfr : H h'.objs.size = none := I1.hok.fresh (Nat.le_refl _)
  obtain ⟨a1, a2⟩ := rl.newL (p := h'.objs.size) hfr g1
  refine wpAny_pure ⟨_, rfl, .ref h'.objs.size, upd H h'.objs.size (.lst ws), I1.laid (t' := tk) (fun b u e => ?_) (Nat.le_refl _)
    (show ObjOk X.prog X.w _ _ _ (.lst ws) from ⟨hlen, _, e', g2, he'⟩), rfl, k _ _ _ _ a1 a2 (repP _) (hq _ (rl.fresh hfr))⟩
  have hb : b < h'.objs.size := Heap.lt_size e
  rw [PyProof.Rows.sortedHeap_old (Nat.ne_of_lt hb) (by rw [size_push']; exact Nat.lt_succ_of_lt hb)]
  exact Heap.get?_push_of_some _ e
theorem j_sortedV {p kpos cp : Pos} {kj : Nat} (hB : B.P = X.prog ∧ B.w = X.w) (hr : X.A.units + 70 < cLine) (hcalm : X.calm = true) (hm : X.mg "sorted" = none) (ha : JA X B [e] tr) (hg : Gl X "sorted" := by rfl)
    (he : backTo pos (starEach [e] X.env) = (false, eval e X.env) :: backTo pos (starEach [] X.env) := by rfl) (hpl : (backTo pos (starEach [e] X.env)).any (·.1) = false := by rfl)
    (hall : (backToKw pos (keywordEach [⟨some "reverse", .Constant (.bool true) kj cp, kpos⟩] X.env)).all (·.1.isSome) = true := by rfl) (hnone : (backToKw pos (keywordEach [⟨some "reverse", .Constant (.bool true) kj cp, kpos⟩] X.env)).any (·.1.isNone) = false := by rfl) (hks : (backToKw pos (keywordEach [⟨some "reverse", .Constant (.bool true) kj cp, kpos⟩] X.env)).filterMap (·.1) = [("reverse" : Str)] := by rfl) :
    JE X B (.Call (.Name "sorted" p) [e] [⟨some "reverse", .Constant (.bool true) kj cp, kpos⟩] pos) (dCB sortedVR tr) := by
  refine PE.imp (pe_callBK (call_sortedVD hB hr hcalm) hg hm rfl ha (pk_cons pe_bl pk_nil) (he := he) (hpl := hpl) (hall := hall) (hnone := hnone) (hks := hks)) fun σ H Q h => ?_
  obtain ⟨sl, C, Qd, rs, rl, h, k⟩ := h
  exact ⟨sl, C, _, rs, rl, h, fun vs ds H1 C1 st1 rl1 r q => ⟨rfl, ds, C1, Qd, r, rl1, q, fun v d H' C' st => k v d H' C' (st1.trans st)⟩⟩
end
end KB

/-! KB33: list(d.items()). -/
namespace KB
open PySem PySem.Spec PyProof.Rows
open L2 hiding op_eqD op_neD call_listD
theorem kv_at {ws : List (Key × V)} {vs : List (Key × Value)} (h : KV ws vs) {j : Nat} {k : Key} {x : Value} (e : vs[j]? = some (k, x)) : ∃ w, ws[j]? = some w ∧ w.1 = k ∧ RelV w.2 x := by
  unfold KV at h
  induction h generalizing j with
  | nil => simp at e
  | cons r t ih =>
    cases j with
    | zero =>
      simp at e
      subst e
      exact ⟨_, rfl, r⟩
    | succ j => exact ih (by simpa using e)
theorem paired_ix2 {α β : Type} {F : α → β → Prop} : ∀ {as : List α} {bs : List β}, as.length = bs.length → (∀ (j : Nat) (a : α) (b : β), as[j]? = some a → bs[j]? = some b → F a b) → Paired F as bs
  | [], [], _, _ => .nil
  | [], _ :: _, h, _ => by cases h
  | _ :: _, [], h, _ => by cases h
  | a :: as, b :: bs, h, f => .cons (f 0 a b rfl rfl) (paired_ix2 (by simpa using h) fun j x y e1 e2 => f (j + 1) x y (by simpa using e1) (by simpa using e2))
section
variable {X : Cx} {B : Bs} {pos apos cpos p : Pos} {e : Expr} {te : DE}
theorem j_listItems (hc : X.calm = true) (hm : X.mg "list" = none) (he : JE X B e te) (hg : Gl X "list" := by rfl) (hbase : attributeBase e "items" X.env (eval e X.env) = eval e X.env := by rfl) (hline : (apos.endLine == cpos.line) = true := by rfl)
    (hs : starEach [.Call (.Attribute e "items" apos) [] [] cpos] X.env = (false, eval (.Call (.Attribute e "items" apos) [] [] cpos) X.env) :: starEach [] X.env := by rfl) :
    JE X B (.Call (.Name "list" p) [.Call (.Attribute e "items" apos) [] [] cpos] [] pos) (dListItems te) := by
  refine ⟨fun pins s σ H Q I hq => ?_⟩
  obtain ⟨sl, C, Qd, rs, rl, h, k⟩ := hq
  refine wpAny_Call_Name_kw (ld_blt I hg hm bt_list ?_)
  refine PyProof.Rows.callWith_type1 ?_ hs rfl
  rw [hs]
  show wpAny _ _ (spliced ((false, eval (.Call (.Attribute e "items" apos) [] [] cpos) X.env) :: backTo pos (starEach [] X.env))) _ _ s
  refine Calls.spliced_cons ?_
  refine wpAny_Call_method (T := "dict") (id := "dict.items") hbase rfl hline PySem.F.plainAttrs_dict PySem.F.slot_dict_items PySem.F.type_dict_items (thn (he.run pins s σ H (fun x H1 => ∃ dx C1, Stp H C H1 C1 ∧ Rl X.K B H1 C1 ∧ Rep X.K H1 dx x ∧ ∃ d kvs, dx = .ptr d ∧ C1 d = some (.dk kvs) ∧ ∀ q, C1 q = none → Qd (.ptr q) (up C1 q (.lst (kvs.map prD)))) I ⟨sl, C, _, rs, rl, h, fun v d H' C' st rl' r q => ⟨d, C', st, rl', r, q⟩⟩) fun u s1 ⟨x, H1, I1, rx, dx, C1, st1, rl1, rd, d, kvs, ed, hd, q⟩ => ?_)
  subst ed
  cases rd
  obtain rfl : u = Value.ref d := rx
  obtain ⟨ws, e1, qk⟩ := rl1.ok _ _ hd
  obtain ⟨hz, hs0, vs, kv, hdo⟩ := I1.hok d _ e1
  obtain ⟨ep, hat⟩ := hdo.dictAt
  have lk : ws.length = vs.length := Paired.length kv
  have I2 : Inv X pins σ H1 { s1 with heap := s1.heap.push { cls := .type "dict_items", data := .fields #[.ref d] } } := I1.kept (t' := s1.toks) fun b ob q => Heap.get?_push_of_some _ q
  refine ⟨hdo.typeIs, hdo.mapOf.noDict, ?_⟩
  show wpAny _ _ (callWith cpos (.builtin "dict.items") [.ref d] [] []) _ X.xe s1
  refine method_meetsIn PySem.F.slot_dict_items PySem.F.entry_dict_items rfl (PySem.evalArgs_none ⟨rfl, hdo.typeIs, PySem.F.args_dict_items_1 _, _, meets_dict_items (mixKind X.prog X.w) d hs0, ⟨vs, hdo⟩, ?_⟩)
  refine Calls.spliced_nil ?_
  refine PySem.W.kdx_call (knd := mixKind X.prog X.w) (kvs := vs) (ep := ep) (I1.ok.hd hc) ⟨_, Heap.get?_push_size _ rfl, rfl, rfl⟩ (hat.push _) (by omega) fun h' tk acc c as hk hS hl hG hacc => ?_
  generalize hs2 : s1.heap.push { cls := .type "dict_items", data := .fields #[.ref d] } = hp2 at I2 hk hS hG
  have nd : as.Nodup := hG.rise.imp fun h => Nat.ne_of_lt h
  have nS : hp2.objs.size ∉ as := fun z => Nat.lt_irrefl _ (hG.above _ z)
  have newS : H1 hp2.objs.size = none := I2.hok.fresh (Nat.le_refl _)
  have newT : ∀ t ∈ as, H1 t = none := fun t ht => I2.hok.fresh (Nat.le_of_lt (hG.above t ht))
  have rowAt : ∀ (j : Nat) (t : Addr), as[j]? = some t → ∃ w key x, ws[j]? = some w ∧ RelV (kV w.1) key ∧ RelV w.2 x ∧ h'.get? t = some { cls := .type "tuple", data := .seq #[key, x] } := fun j t e => by
    obtain ⟨key, kk, x, f1, f2, f3⟩ := hG.pairs j t e
    obtain ⟨w, g1, g2, g3⟩ := kv_at kv f1
    exact ⟨w, key, x, g1, by rw [g2]; exact relV_key f2, g3, f3⟩
  obtain ⟨H2, hH2⟩ : ∃ H2, H2 = zipH H1 hp2.objs.size as (ws.map fun w => [kV w.1, w.2]) := ⟨_, rfl⟩
  have off : ∀ b, b ≠ hp2.objs.size → b ∉ as → H2 b = H1 b := fun b hb ht => by rw [hH2]; exact zipH_off hb ht
  have atS : H2 hp2.objs.size = some (.lst (as.map V.ref)) := by rw [hH2]; exact zipH_S
  have atT : ∀ (j : Nat) (t : Addr) (w : Key × V), as[j]? = some t → ws[j]? = some w → H2 t = some (.tup [kV w.1, w.2]) := fun j t w e1 e2 => by
    rw [hH2]
    exact zipH_at nd nS e1 (by rw [List.getElem?_map, e2]; rfl)
  have kpH : ∀ b u, H1 b = some u → H2 b = some u := fun b u e => by
    rw [off b (fun z => by rw [z, newS] at e; cases e) (fun z => by rw [newT b z] at e; cases e)]
    exact e
  have cases3 : ∀ b o, H2 b = some o → (b = hp2.objs.size ∧ o = .lst (as.map V.ref)) ∨ (∃ (j : Nat) (w : Key × V), as[j]? = some b ∧ ws[j]? = some w ∧ o = .tup [kV w.1, w.2]) ∨ H1 b = some o := fun b o q => by
    by_cases hbS : b = hp2.objs.size
    · rw [hbS, atS] at q; cases q; exact .inl ⟨hbS, rfl⟩
    · by_cases hbT : b ∈ as
      · obtain ⟨j, hj, ej⟩ := List.getElem_of_mem hbT
        have e1 : as[j]? = some b := by rw [List.getElem?_eq_getElem hj, ej]
        obtain ⟨w, _, _, g1, _⟩ := rowAt j b e1
        rw [atT j b w e1 g1] at q
        cases q
        exact .inr (.inl ⟨j, w, e1, g1, rfl⟩)
      · rw [off b hbS hbT] at q; exact .inr (.inr q)
  have J : Inv X pins σ H2 { s1 with heap := h', toks := tk } := by
    refine laid_many (s := { s1 with heap := hp2 }) (H := H1) I2 (fun b hb => off b (fun z => ?_) fun z => ?_) hk fun b o hb q => ?_
    · rw [z] at hb; exact Nat.lt_irrefl _ hb
    · exact absurd (Nat.lt_trans hb (hG.above b z)) (Nat.lt_irrefl _)
    · rcases cases3 b o q with ⟨z, rfl⟩ | ⟨j, w, e1, e2, rfl⟩ | z
      · subst z
        exact ⟨by rw [List.length_map]; omega, acc.toList, c, by rw [hacc]; exact LiI.vals_refs as, by rw [Array.toArray_toList]; exact hS⟩
      · obtain ⟨w', key, x, g1, g2, g3, g4⟩ := rowAt j b e1
        rw [e2] at g1
        cases g1
        exact ⟨by show 2 ≤ sizeLine; decide, [key, x], .cons g2 (.cons g3 .nil), ⟨_, g4, rfl, _, rfl⟩⟩
      · rw [I2.hok.fresh hb] at z; cases z
  have tx : Tx H1 H2 := ⟨fun b xs e => kpH b _ e, fun b o u e => kpH b _ e⟩
  have st2 : Stp H1 C1 H2 (up C1 hp2.objs.size (.lst (kvs.map prD))) := ⟨tx, fun b u e n => ⟨kpH b _ e, by rw [up_ne (ne_of_none e newS)]; exact n⟩⟩
  have hp : Paired (fun (t : Addr) (q : Key × V) => H2 t = some (.tup [kV q.1, q.2])) as ws := paired_ix2 (by omega) fun j t w e1 e2 => atT j t w e1 e2
  refine ⟨.ref hp2.objs.size, H2, J, rfl, k _ _ H2 _ (st1.trans st2) ⟨rl1.st.trans st2, fun b cc e => ?_, fun b o e => ?_⟩ (repP _) (q _ (rl1.fresh newS))⟩
  · by_cases hb : b = hp2.objs.size
    · subst hb
      rw [up_same] at e
      cases e
      exact ⟨_, atS, items_reps tx hp qk⟩
    · rw [up_ne hb] at e
      have ok := rl1.ok b cc e
      cases hH : H1 b with
      | none => exact absurd hH ok.there
      | some u => exact ok.keep tx (by rw [hH]; exact kpH b u hH)
  · rcases cases3 b o e with ⟨_, rfl⟩ | ⟨j, w, _, _, rfl⟩ | z
    · trivial
    · refine ⟨kV w.1, List.mem_cons_self, fun r z => ?_⟩
      obtain ⟨w1, w2⟩ := w
      cases w1 <;> cases z
    · exact rl1.ti b o z
end
end KB

/-! KB34: dict(t) of a tuple of pairs. -/
namespace KB
open PySem PySem.Spec PyProof.Rows
open L2 hiding op_eqD op_neD call_listD
section
variable {X : Cx} {B : Bs}
/-- a tuple without a dict of its own -/
def PlT (K : PySem.W.Frag) (H : Hp) (a : Addr) (xs : List V) : Prop := (∃ ob, H a = some (.frz ob (.tup xs)) ∧ ob.dict = none) ∨ ∃ (o : Obj) (its : Array Value) (n : Nat), K.lookup a = some o ∧ o.cls = .type "tuple" ∧ o.data = .seq its n ∧ its.size ≤ sizeLine ∧ Vals xs its.toList ∧ o.dict = none
theorem pairs_of2 {pins : List (Addr × Obj)} {σ : L2.St} {H : Hp} {s : Shared} (I : Inv X pins σ H s) : ∀ {ps : List Addr} {kvs : List (Key × V)}, Paired (fun p kv => SqT X.K H p [kV kv.1, kv.2]) ps kvs →
    ∃ (pv : List (Value × Value)) (prs : List (Key × Value)), KV kvs prs ∧ prs.length = ps.length ∧ pv.length = ps.length ∧ ∀ (j : Nat) (u v : Value), pv[j]? = some (u, v) → ∃ (b : Addr) (k : Key), ps[j]? = some b ∧ IsTup s.heap b #[u, v] ∧ prs[j]? = some (k, v) ∧ (mixKind X.prog X.w).is k u = true
  | _, _, .nil => ⟨[], [], .nil, rfl, rfl, fun j u v e => by simp at e⟩
  | _, _, .cons (a := p) (b := kv) h t => by
    obtain ⟨pv, prs, r, hl, hl2, hp⟩ := pairs_of2 I t
    obtain ⟨its, rv, ht, _⟩ := I.tuple h
    obtain ⟨u, y, ei, ru, ry⟩ := vals2 rv
    subst ei
    refine ⟨(u, y) :: pv, (kv.1, y) :: prs, .cons ⟨rfl, ry⟩ r, by rw [List.length_cons, List.length_cons, hl], by rw [List.length_cons, List.length_cons, hl2], fun j u' v' e => ?_⟩
    cases j with
    | zero =>
      simp at e
      obtain ⟨rfl, rfl⟩ := e
      exact ⟨p, kv.1, rfl, ht, rfl, kV_is (P := X.prog) (w := X.w) ru⟩
    | succ j =>
      obtain ⟨b, k, e1, e2, e3, e4⟩ := hp j u' v' (by simpa using e)
      exact ⟨b, k, by simpa using e1, e2, by simpa using e3, e4⟩
/-- dict(t): t a tuple of pairs that has no dict of its own -/
theorem call_dictTV (hcalm : X.calm = true) : CallR X (.type "dict") (fun xs H Q => ∃ (a : Addr) (ps : List Addr) (kvs : List (Key × V)), xs = [.ref a] ∧ PlT X.K H a (ps.map V.ref) ∧ Paired (fun p kv => SqT X.K H p [kV kv.1, kv.2]) ps kvs ∧
    ∀ p, H p = none → Q (.ref p) (upd H p (.dK (mergeK [] kvs)))) := by
  intro pins s σ H xs us Q I r q
  obtain ⟨a, ps, kvs, ex, ha, hp, q⟩ := q
  subst ex
  obtain ⟨u, eu, rx⟩ := vals1 r
  subst eu
  cases rx
  obtain ⟨ob, its, n, h1, hc, hob, hd, hz, rv⟩ : ∃ (ob : Obj) (its : List Value) (n : Nat), s.heap.get? a = some ob ∧ ob.cls = .type "tuple" ∧ ob.dict = none ∧ ob.data = .seq its.toArray n ∧ (ps.map V.ref).length ≤ sizeLine ∧ Vals (ps.map V.ref) its := by
    rcases ha with ⟨ob, e, hob⟩ | ⟨o, its, n, e, hc, hd, hz, rv, hob⟩
    · obtain ⟨h1, hz, its, rv, o, h2, hc, n, hd⟩ := I.hok a _ e
      rw [h1] at h2
      cases h2
      exact ⟨ob, its, n, h1, hc, hob, hd, hz, rv⟩
    · exact ⟨o, its.toList, n, I.kIn a o e, hc, hob, by rw [Array.toArray_toList]; exact hd, by rw [rv.length, Array.length_toList]; exact hz, rv⟩
  have ei := refs_at rv
  subst ei
  rw [List.length_map] at hz
  obtain ⟨pv, prs, rel, hl, hl2, hpr⟩ := pairs_of2 I hp
  refine PySem.call_dict_pairs (knd := mixKind X.prog X.w) (kvs := prs) (PySem.PairArg.tuple a (ps.map Value.ref).toArray (fun j => ps.getD j 0) pv) (I.ok.hd hcalm) ⟨⟨ob, n, h1, hc, hob, hd⟩, by simp [hl2], fun j k v e => ?_⟩ ⟨by rw [hl, hl2], fun i key v e => ?_⟩ (by rw [hl2]; exact hz) fun h' tk hd' k => ?_
  · obtain ⟨b, kk, e1, e2, e3, e4⟩ := hpr j k v e
    refine ⟨by simp [e1], .inl ?_⟩
    show s.heap.IsTuple (ps.getD j 0) #[k, v]
    rw [show ps.getD j 0 = b by rw [List.getD_eq_getElem?_getD, e1]; rfl]
    exact e2
  · obtain ⟨b, kk, e1, e2, e3, e4⟩ := hpr i key v e
    exact ⟨kk, e3, e4⟩
  · have hm : (s.heap.objs.size == sysModules) = false := beq_eq_false_iff_ne.mpr (Nat.ne_of_gt I.big)
    have hlen : (mergeK [] kvs).length ≤ sizeLine := by
      refine Nat.le_trans (length_mergeK kvs []) ?_
      rw [List.length_nil, Nat.zero_add, rel.length, hl]
      exact hz
    exact ⟨.ref s.heap.objs.size, upd H s.heap.objs.size (.dK (mergeK [] kvs)), I.laid (t' := tk) (fun b o e => k b o (by simp) e) (Nat.le_refl _) (show ObjOk X.prog X.w _ _ _ (.dK (mergeK [] kvs)) from ⟨hlen, hm, merged [] prs, KV.merge rel .nil, hd'⟩), rfl, q _ (I.hok.fresh (Nat.le_refl _))⟩
/-- no tuple of the written part has a dict of its own -/
def tupPlain (K : PySem.W.Frag) : Bool := List.all K fun p => match p.2.cls with
  | .type n => n != "tuple" || p.2.dict.isNone
  | _ => true
def dictTR : List D → Cp → DQ → Prop := fun ds C Q => ∃ kvs, ds = [.tup (kvs.map prD)] ∧ ∀ q, C q = none → Q (.ptr q) (up C q (.dk (mergeA [] kvs)))
theorem plT_of {K : PySem.W.Frag} {H : Hp} {C : Cp} (hK : tupPlain K = true) (rl : Rl K B H C) {a : Addr} {ps : List Addr} (h : SqT K H a (ps.map V.ref)) : PlT K H a (ps.map V.ref) := by
  rcases h with (e | ⟨o, e⟩) | ⟨o, its, n, e, hc, hd, hz, rv⟩
  · obtain ⟨v, hv, hn⟩ := rl.ti a _ e
    obtain ⟨b, _, rfl⟩ := List.mem_map.mp hv
    exact absurd rfl (hn b)
  · exact .inl ⟨o, e, rl.ti a _ e⟩
  · refine .inr ⟨o, its, n, e, hc, hd, hz, rv, ?_⟩
    have := List.all_eq_true.mp hK _ (lookup_mem e)
    simp only [hc] at this
    simpa using this
theorem call_dictTD (hc : X.calm = true) (hK : tupPlain X.K = true) : CallD X B (.type "dict") dictTR := by
  intro pins s σ H xs us Q I rx h
  obtain ⟨ds, C, Qd, r, rl, ⟨kvs, e, h⟩, k⟩ := h
  subst e
  obtain ⟨v, r2, rfl, hv, hn⟩ := r
  cases hn
  obtain ⟨p, vs, rfl, hq, hr⟩ := hv
  obtain ⟨ps, ws, rfl, hp, hk⟩ := prs_of hr
  refine call_dictTV hc pins s σ H _ us Q I rx ⟨p, ps, ws, rfl, plT_of hK rl hq, hp, fun l hn => ?_⟩
  have nf : ¬ Frz (H l) := by rw [hn]; exact id
  exact k _ _ _ (up C l (.dk (mergeA [] kvs))) (stp_put nf (.inr hn)) (rl.putNew hn ⟨_, upd_same, (repK_merge hk .nil).mono (tx_upd nf)⟩) (repP l) (h l (rl.fresh hn))
end
end KB

namespace K15
open PySem PySem.Spec PyProof.Rows KB
open L2 hiding op_eqD op_neD call_listD
def topS (i : Nat) : Stmt := PySem.Challenge.pw_keptpages_k15_what_was_seen.main.body.getD i (.Pass ⟨0, 0, 0, 0⟩)
abbrev s__law_begin : Stmt := topS 3
theorem sc__law_begin : FnScope ["_law_script", "_law_seed", "_law_own", "_law_k", "_law_cell"] ["_law_script"] (defScope s__law_begin) := ⟨rfl, rfl, rfl, by decide +kernel, rfl, by decide +kernel, by decide +kernel⟩
abbrev s__law_take : Stmt := topS 4
theorem sc__law_take : FnScope ["_law_pot", "_law_many", "_law_mixed", "_law_digit"] ["_law_pot", "_law_many"] (defScope s__law_take) := ⟨rfl, rfl, rfl, by decide +kernel, rfl, by decide +kernel, by decide +kernel⟩
abbrev s__law_of : Stmt := topS 5
theorem sc__law_of : FnScope ["_law_pot", "_law_some"] ["_law_pot", "_law_some"] (defScope s__law_of) := ⟨rfl, rfl, rfl, by decide +kernel, rfl, by decide +kernel, by decide +kernel⟩
abbrev s__law_word : Stmt := topS 6
theorem sc__law_word : FnScope ["_law_pot", "_law_some", "_law_signs", "_law_k"] ["_law_pot"] (defScope s__law_word) := ⟨rfl, rfl, rfl, by decide +kernel, rfl, by decide +kernel, by decide +kernel⟩
abbrev s__law_form : Stmt := topS 7
theorem sc__law_form : FnScope ["_law_pot", "_law_some"] ["_law_pot"] (defScope s__law_form) := ⟨rfl, rfl, rfl, by decide +kernel, rfl, by decide +kernel, by decide +kernel⟩
abbrev s__law_title : Stmt := topS 8
theorem sc__law_title : FnScope ["_law_pot"] ["_law_pot"] (defScope s__law_title) := ⟨rfl, rfl, rfl, by decide +kernel, rfl, by decide +kernel, by decide +kernel⟩
abbrev s__law_doing : Stmt := topS 9
theorem sc__law_doing : FnScope ["_law_pot", "_law_known", "_law_words", "_law_makes", "_law_folder", "_law_outer", "_law_word_here", "_law_deed"] ["_law_pot", "_law_known", "_law_words"] (defScope s__law_doing) := ⟨rfl, rfl, rfl, by decide +kernel, rfl, by decide +kernel, by decide +kernel⟩
abbrev s__law_row : Stmt := topS 10
theorem sc__law_row : FnScope ["_law_pot", "_law_many", "_law_words", "_law_k", "_law_clocks", "_law_turn", "_law_places", "_law_row_here", "_law_place", "_law_gap", "_law_number", "_law_known", "_law_clock", "_law_other", "_law_spot", "_law_deed"] ["_law_pot", "_law_many", "_law_words"] (defScope s__law_row) := ⟨rfl, rfl, rfl, by decide +kernel, rfl, by decide +kernel, by decide +kernel⟩
abbrev s__law_beside : Stmt := topS 11
theorem sc__law_beside : FnScope ["_law_deed", "_law_found", "_law_place", "_law_last"] ["_law_deed"] (defScope s__law_beside) := ⟨rfl, rfl, rfl, by decide +kernel, rfl, by decide +kernel, by decide +kernel⟩
abbrev s_saw : Stmt := topS 1
theorem sc_saw : FnScope ["deed", "stamp", "number", "place"] ["deed", "stamp"] (defScope s_saw) := ⟨rfl, rfl, rfl, by decide +kernel, rfl, by decide +kernel, by decide +kernel⟩
abbrev s__law_due : Stmt := topS 12
theorem sc__law_due : FnScope ["_law_deed", "_law_stamp", "_law_place", "_law_last"] ["_law_deed", "_law_stamp"] (defScope s__law_due) := ⟨rfl, rfl, rfl, by decide +kernel, rfl, by decide +kernel, by decide +kernel⟩
abbrev s_law : Stmt := topS 13
theorem sc_law : FnScope ["_law_script", "_law_pot", "_law_row_here", "_law_at", "_law_deed", "_law_stamp", "_law_one", "_law_found", "_law_place", "_law_last"] ["_law_script"] (defScope s_law) := ⟨rfl, rfl, rfl, by decide +kernel, rfl, by decide +kernel, by decide +kernel⟩
structure Env (K : PySem.W.Frag) (mg : Str → Option Value) where
  a__law_begin : Addr
  d__law_begin : FuncData
  F__law_begin : Fun K "_law_begin" "_law_begin" s__law_begin a__law_begin d__law_begin
  b__law_begin : Binds K d__law_begin ["_law_script"] []
  m__law_begin : mg "_law_begin" = some (.ref a__law_begin)
  a__law_take : Addr
  d__law_take : FuncData
  F__law_take : Fun K "_law_take" "_law_take" s__law_take a__law_take d__law_take
  b__law_take : Binds K d__law_take ["_law_pot", "_law_many"] []
  m__law_take : mg "_law_take" = some (.ref a__law_take)
  a__law_of : Addr
  d__law_of : FuncData
  F__law_of : Fun K "_law_of" "_law_of" s__law_of a__law_of d__law_of
  b__law_of : Binds K d__law_of ["_law_pot", "_law_some"] []
  m__law_of : mg "_law_of" = some (.ref a__law_of)
  a__law_word : Addr
  d__law_word : FuncData
  F__law_word : Fun K "_law_word" "_law_word" s__law_word a__law_word d__law_word
  b__law_word : Binds K d__law_word ["_law_pot"] []
  m__law_word : mg "_law_word" = some (.ref a__law_word)
  a__law_form : Addr
  d__law_form : FuncData
  F__law_form : Fun K "_law_form" "_law_form" s__law_form a__law_form d__law_form
  b__law_form : Binds K d__law_form ["_law_pot"] []
  m__law_form : mg "_law_form" = some (.ref a__law_form)
  a__law_title : Addr
  d__law_title : FuncData
  F__law_title : Fun K "_law_title" "_law_title" s__law_title a__law_title d__law_title
  b__law_title : Binds K d__law_title ["_law_pot"] []
  m__law_title : mg "_law_title" = some (.ref a__law_title)
  a__law_doing : Addr
  d__law_doing : FuncData
  F__law_doing : Fun K "_law_doing" "_law_doing" s__law_doing a__law_doing d__law_doing
  b__law_doing : Binds K d__law_doing ["_law_pot", "_law_known", "_law_words"] []
  m__law_doing : mg "_law_doing" = some (.ref a__law_doing)
  a__law_row : Addr
  d__law_row : FuncData
  F__law_row : Fun K "_law_row" "_law_row" s__law_row a__law_row d__law_row
  b__law_row : Binds K d__law_row ["_law_pot", "_law_many", "_law_words"] []
  m__law_row : mg "_law_row" = some (.ref a__law_row)
  a__law_beside : Addr
  d__law_beside : FuncData
  F__law_beside : Fun K "_law_beside" "_law_beside" s__law_beside a__law_beside d__law_beside
  b__law_beside : Binds K d__law_beside ["_law_deed"] []
  m__law_beside : mg "_law_beside" = some (.ref a__law_beside)
  a_saw : Addr
  d_saw : FuncData
  F_saw : Fun K "saw" "saw" s_saw a_saw d_saw
  b_saw : Binds K d_saw ["deed", "stamp"] []
  m_saw : mg "saw" = some (.ref a_saw)
  a__law_due : Addr
  d__law_due : FuncData
  F__law_due : Fun K "_law_due" "_law_due" s__law_due a__law_due d__law_due
  b__law_due : Binds K d__law_due ["_law_deed", "_law_stamp"] []
  m__law_due : mg "_law_due" = some (.ref a__law_due)
  a_law : Addr
  d_law : FuncData
  F_law : Fun K "law" "law" s_law a_law d_law
  b_law : Binds K d_law ["_law_script"] []
  m_law : mg "law" = some (.ref a_law)
  z_abs : mg "abs" = none
  z_all : mg "all" = none
  z_any : mg "any" = none
  z_bool : mg "bool" = none
  z_dict : mg "dict" = none
  z_enumerate : mg "enumerate" = none
  z_isinstance : mg "isinstance" = none
  z_len : mg "len" = none
  z_list : mg "list" = none
  z_max : mg "max" = none
  z_min : mg "min" = none
  z_range : mg "range" = none
  z_sorted : mg "sorted" = none
  z_tuple : mg "tuple" = none
  kt : tupPlain K = true
section
variable {P : Program} {w : World} {K : PySem.W.Frag} {mg : Str → Option Value} {base : Heap}
def l__law_begin_1 : DS := dSeq (dAsg (dOp modD (dOp addD (dOp addD (dOp mulD (dVar 1) (dC (.int 1000003))) (dOp modD (dVar 4) (dOp powE (dC (.int 10)) (dC (.int 30))))) (dOp mulD (dC (.int 31)) (dVar 3))) (dC (.int 2305843009213693951))) (gNm 1))
  (dIf (dTest (dOp (geD) (dCB absR (dCons (dVar 4) (dNil))) (dOp powE (dC (.int 10)) (dC (.int 18))))) (dDrop (dBM "list" appendR (dVar 2) (dCons (dOp modD (dCB absR (dCons (dVar 4) (dNil))) (dOp mulD (dOp powE (dC (.int 10)) (dC (.int 60))) (dOp powE (dC (.int 10)) (dC (.int 60))))) (dNil)))) (dNext))
def r__law_begin_1 : DS := dRet (dLst (dCons (dVar 2) (dCons (dVar 1) (dCons (dC (.int 0)) (dNil)))))
def r__law_begin : DS := dSeq (dPar 1 2 (dCons (dOp addD (dCB (lenR) (dCons (dVar 0) (dNil))) (dC (.int 7))) (dCons (dLst (dNil)) (dNil))))
  (dSeq (dFor (dEnum (dCons (dSl (dVar 0) (dNoP) (dPart (dC (.int 63)))) (dNil))) (gTp 2 (gCn (gNm 3) (gCn (gNm 4) (gNl)))) (l__law_begin_1))
  (r__law_begin_1))
def D__law_begin : DSp := runD 1 5 r__law_begin
theorem ok__law_begin {P : Program} {w : World} {base : Heap} (E : Env K mg) (k : Nat) : FnG P w K mg base CX0 (k + 1) E.a__law_begin E.d__law_begin ["_law_script"] (lSp P w K 1 D__law_begin) := fnok_of E.F__law_begin sc__law_begin rfl (fun cdv A outer s H Eo B hP hw hr => by
  subst hP hw
  have hB : B.P = B.P ∧ B.w = B.w := ⟨rfl, rfl⟩
  unfold r__law_begin
  unfold r__law_begin_1
  unfold l__law_begin_1
  exact jss_cons (js_par (i := 1) (j := 2) rfl sc__law_begin.nd (jas_cons (j_op op_addD (j_callB (call_lenD0) E.z_len bt_len (jas_cons (jv 0) (jas_nil))) (j_int)) (jas_cons (j_lst (jas_nil)) (jas_nil))))
    (jss_cons (js_for PassesOwn.never rfl (ji_enum E.z_enumerate (jas_cons (j_slice (jv 0) (jo_none) (jo_some (j_int))) (jas_nil))) (jg_tup rfl (jgs_cons (jg_name (i := 3) sc__law_begin.nd) (jgs_cons (jg_name (i := 4) sc__law_begin.nd) (jgs_nil)))) (jss_cons (js_set (i := 1) sc__law_begin.nd (j_op op_modD (j_op op_addD (j_op op_addD (j_op op_mulD (jv 1) (j_int)) (j_op op_modD (jv 4) (j_op op_powE (j_int) (j_int)))) (j_op op_mulD (j_int) (jv 3))) (j_int)))
    (jss_one (js_if (jt_cmp (op_geD) (j_callB call_absD E.z_abs bt_abs (jas_cons (jv 4) (jas_nil))) (j_op op_powE (j_int) (j_int))) (jss_one (js_expr (j_bm PySem.F.plainAttrs_list PySem.F.slot_list_append PySem.F.type_list_append mt_appendD (jv 2) (jas_cons (j_op op_modD (j_callB call_absD E.z_abs bt_abs (jas_cons (jv 4) (jas_nil))) (j_op op_mulD (j_op op_powE (j_int) (j_int)) (j_op op_powE (j_int) (j_int)))) (jas_nil))))) (jss_nil)))))
    (jss_one (js_ret (j_lst (jas_cons (jv 2) (jas_cons (jv 1) (jas_cons (j_int) (jas_nil)))))))))
def l__law_take_1 : DS := dDrop (dBM "list" popAtR (dOp ixD (dVar 0) (dC (.int 0))) (dCons (dC (.int 0)) (dNil)))
def r__law_take_1 : DS := dSeq (dSetI (dVar 0) (dC (.int 2)) (dOp addD (dOp ixD (dVar 0) (dC (.int 2))) (dC (.int 1))))
  (dSeq (dAsg (dOp modD (dOp mulD (dOp addD (dOp addD (dOp ixD (dVar 0) (dC (.int 1))) (dOp mulD (dOp mulD (dC (.int 65537)) (dOp ixD (dVar 0) (dC (.int 2)))) (dOp ixD (dVar 0) (dC (.int 2))))) (dC (.int 11))) (dC (.int 48271))) (dC (.int 2305843009213693921))) (gNm 2))
  (dSeq (dAsg (dOp modD (dOp mulD (dVar 2) (dOp addD (dOp modD (dVar 2) (dC (.int 1000003))) (dOp mulD (dC (.int 99991)) (dOp ixD (dVar 0) (dC (.int 2)))))) (dC (.int 2305843009213693907))) (gNm 2))
  (dRet (dOp modD (dOp addD (dOp fdivD (dVar 2) (dC (.int 97))) (dOp fdivD (dVar 2) (dC (.int 1000033)))) (dVar 1)))))
def r__law_take_2 : DS := dSeq (dIf (dTest (dOp (eqR true) (dOp ixD (dVar 0) (dC (.int 0))) (dLst (dNil)))) (dSeq (dAsg (dOp modD (dOp ixD (dOp ixD (dVar 0) (dC (.int 0))) (dC (.int 0))) (dVar 1)) (gNm 3))
  (dSeq (dSetI (dOp ixD (dVar 0) (dC (.int 0))) (dC (.int 0)) (dOp fdivD (dOp ixD (dOp ixD (dVar 0) (dC (.int 0))) (dC (.int 0))) (dVar 1)))
  (dRet (dVar 3)))) (dNext))
  (r__law_take_1)
def r__law_take : DS := dSeq (dWhile (dAnd (dTest (dOp (eqR true) (dOp ixD (dVar 0) (dC (.int 0))) (dLst (dNil)))) (dTest (dOp (eqR false) (dOp ixD (dOp ixD (dVar 0) (dC (.int 0))) (dC (.int 0))) (dC (.int 0))))) (l__law_take_1))
  (r__law_take_2)
def D__law_take : DSp := runD 2 4 r__law_take
theorem ok__law_take {P : Program} {w : World} {base : Heap} (E : Env K mg) (k : Nat) : FnG P w K mg base CX0 (k + 1) E.a__law_take E.d__law_take ["_law_pot", "_law_many"] (lSp P w K 2 D__law_take) := fnok_of E.F__law_take sc__law_take rfl (fun cdv A outer s H Eo B hP hw hr => by
  subst hP hw
  have hB : B.P = B.P ∧ B.w = B.w := ⟨rfl, rfl⟩
  unfold r__law_take
  unfold r__law_take_2
  unfold r__law_take_1
  unfold l__law_take_1
  exact jss_cons (js_while PassesOwn.never (jt_w (jw_and (jt_cmp (op_neD (room70 hr)) (j_ix (jv 0) (j_int)) (j_lst (jas_nil))) (jw_and1 (jt_cmp (op_eqD (room70 hr)) (j_ix (j_ix (jv 0) (j_int)) (j_int)) (j_int))))) (jss_one (js_expr (j_bm PySem.F.plainAttrs_list PySem.F.slot_list_pop PySem.F.type_list_pop mt_popAtD (j_ix (jv 0) (j_int)) (jas_cons (j_int) (jas_nil))))))
    (jss_cons (js_if (jt_cmp (op_neD (room70 hr)) (j_ix (jv 0) (j_int)) (j_lst (jas_nil))) (jss_cons (js_set (i := 3) sc__law_take.nd (j_op op_modD (j_ix (j_ix (jv 0) (j_int)) (j_int)) (jv 1)))
    (jss_cons (js_sset hB (room20 hr) (j_ix (jv 0) (j_int)) (j_int) (j_op op_fdivD (j_ix (j_ix (jv 0) (j_int)) (j_int)) (jv 1)))
    (jss_one (js_ret (jv 3))))) (jss_nil))
    (jss_cons (js_sset hB (room20 hr) (jv 0) (j_int) (j_op op_addD (j_ix (jv 0) (j_int)) (j_int)))
    (jss_cons (js_set (i := 2) sc__law_take.nd (j_op op_modD (j_op op_mulD (j_op op_addD (j_op op_addD (j_ix (jv 0) (j_int)) (j_op op_mulD (j_op op_mulD (j_int) (j_ix (jv 0) (j_int))) (j_ix (jv 0) (j_int)))) (j_int)) (j_int)) (j_int)))
    (jss_cons (js_set (i := 2) sc__law_take.nd (j_op op_modD (j_op op_mulD (jv 2) (j_op op_addD (j_op op_modD (jv 2) (j_int)) (j_op op_mulD (j_int) (j_ix (jv 0) (j_int))))) (j_int)))
    (jss_one (js_ret (j_op op_modD (j_op op_addD (j_op op_fdivD (jv 2) (j_int)) (j_op op_fdivD (jv 2) (j_int))) (jv 1)))))))))
def r__law_of : DS := dRet (dOp ixD (dVar 1) (dCall D__law_take [] (dCons (dVar 0) (dCons (dCB (lenR) (dCons (dVar 1) (dNil))) (dNil)))))
def D__law_of : DSp := runD 2 2 r__law_of
theorem ok__law_of {P : Program} {w : World} {base : Heap} (E : Env K mg) (k : Nat) : FnG P w K mg base CX0 (k + 2) E.a__law_of E.d__law_of ["_law_pot", "_law_some"] (lSp P w K 2 D__law_of) := fnok_of E.F__law_of sc__law_of rfl (fun cdv A outer s H Eo B hP hw hr => by
  subst hP hw
  have hB : B.P = B.P ∧ B.w = B.w := ⟨rfl, rfl⟩
  unfold r__law_of
  exact jss_one (js_ret (j_ix (jv 1) (j_call [] (ok__law_take E k) (hr.mono (by omega)) E.m__law_take E.F__law_take.kp E.b__law_take (fun _ _ _ _ q => q.1) .nil (fun _ => .nil) (jas_cons (jv 0) (jas_cons (j_callB (call_lenD0) E.z_len bt_len (jas_cons (jv 1) (jas_nil))) (jas_nil)))))))
def r__law_word_1 : DS := dSeq (dAsg (dC (.str [97, 98, 99, 100, 101, 102, 103, 104, 105, 106, 107, 108, 109, 110, 111, 112, 113, 114, 115, 116, 117, 118, 119, 120, 121, 122, 48, 49, 50, 51, 52, 53, 54, 55, 56, 57, 45])) (gNm 2))
  (dRet (dBM "str" joinR (dC (.str [])) (dCons (dLc (dRng1 (dCons (dOp addD (dC (.int 1)) (dCall D__law_take [] (dCons (dVar 0) (dCons (dC (.int 12)) (dNil))))) (dNil))) (gNm 3) (dYes) (dCall D__law_of [] (dCons (dVar 0) (dCons (dVar 2) (dNil)))) [3]) (dNil))))
def r__law_word : DS := dSeq (dAsg (dLst (dCons (dC (.str [97])) (dCons (dC (.str [98])) (dCons (dC (.str [97, 45, 98])) (dCons (dC (.str [109, 97, 114, 107, 105, 110, 103, 45, 97, 98, 99, 100])) (dCons (dC (.str [109, 97, 114, 107, 105, 110, 103, 45, 97, 98, 99, 101])) (dCons (dC (.str [48])) (dCons (dC (.str [57])) (dCons (dC (.str [49, 48])) (dCons (dC (.str [119, 97, 108, 108, 115])) (dCons (dC (.str [45])) (dNil)))))))))))) (gNm 1))
  (dSeq (dIf (dTest (dOp (gtD) (dCall D__law_take [] (dCons (dVar 0) (dCons (dC (.int 6)) (dNil)))) (dC (.int 0)))) (dRet (dCall D__law_of [] (dCons (dVar 0) (dCons (dVar 1) (dNil))))) (dNext))
  (r__law_word_1))
def D__law_word : DSp := runD 1 4 r__law_word
theorem ok__law_word {P : Program} {w : World} {base : Heap} (E : Env K mg) (k : Nat) : FnG P w K mg base CX0 (k + 3) E.a__law_word E.d__law_word ["_law_pot"] (lSp P w K 1 D__law_word) := fnok_of E.F__law_word sc__law_word rfl (fun cdv A outer s H Eo B hP hw hr => by
  subst hP hw
  have hB : B.P = B.P ∧ B.w = B.w := ⟨rfl, rfl⟩
  unfold r__law_word
  unfold r__law_word_1
  exact jss_cons (js_set (i := 1) sc__law_word.nd (j_lst (jas_cons (j_str [97]) (jas_cons (j_str [98]) (jas_cons (j_str [97, 45, 98]) (jas_cons (j_str [109, 97, 114, 107, 105, 110, 103, 45, 97, 98, 99, 100]) (jas_cons (j_str [109, 97, 114, 107, 105, 110, 103, 45, 97, 98, 99, 101]) (jas_cons (j_str [48]) (jas_cons (j_str [57]) (jas_cons (j_str [49, 48]) (jas_cons (j_str [119, 97, 108, 108, 115]) (jas_cons (j_str [45]) (jas_nil)))))))))))))
    (jss_cons (js_if (jt_cmp (op_gtD) (j_call [] (ok__law_take E k) (hr.mono (by omega)) E.m__law_take E.F__law_take.kp E.b__law_take (fun _ _ _ _ q => q.1) .nil (fun _ => .nil) (jas_cons (jv 0) (jas_cons (j_int) (jas_nil)))) (j_int)) (jss_one (js_ret (j_call [] (ok__law_of E k) (hr.mono (by omega)) E.m__law_of E.F__law_of.kp E.b__law_of (fun _ _ _ _ q => q.1) .nil (fun _ => .nil) (jas_cons (jv 0) (jas_cons (jv 1) (jas_nil)))))) (jss_nil))
    (jss_cons (js_set (i := 2) sc__law_word.nd (j_str [97, 98, 99, 100, 101, 102, 103, 104, 105, 106, 107, 108, 109, 110, 111, 112, 113, 114, 115, 116, 117, 118, 119, 120, 121, 122, 48, 49, 50, 51, 52, 53, 54, 55, 56, 57, 45]))
    (jss_one (js_ret (j_bm PySem.F.plainAttrs_str PySem.F.slot_str_join PySem.F.type_str_join mt_joinD (j_str []) (jas_cons (j_lc [("_law_k", 3)] rfl sc__law_word.nd (ji_range1 E.z_range (jas_cons (j_op op_addD (j_int) (j_call [] (ok__law_take E k) (hr.mono (by omega)) E.m__law_take E.F__law_take.kp E.b__law_take (fun _ _ _ _ q => q.1) .nil (fun _ => .nil) (jas_cons (jv 0) (jas_cons (j_int) (jas_nil))))) (jas_nil))) (gl_name) (fun _ _ _ _ _ => pg_name (i := 3) sc__law_word.nd rfl (.inl rfl)) (fun _ _ _ _ _ => jts_nil) (fun _ _ _ _ _ => j_call [] (ok__law_of E k) (hr.mono (by omega)) E.m__law_of E.F__law_of.kp E.b__law_of (fun _ _ _ _ q => q.1) .nil (fun _ => .nil) (jas_cons (jv 0) (jas_cons (jv 2) (jas_nil)))) (ok := by kernel_rfl)) (jas_nil))))))))
def r__law_form : DS := dSeq (dAsg (dLst (dCons (dC (.str [108, 101, 97, 102, 58, 47, 47, 97])) (dCons (dC (.str [108, 101, 97, 102, 58, 47, 47, 97, 47, 66])) (dCons (dC (.str [108, 101, 97, 102, 58, 47, 47, 97, 47, 98])) (dCons (dC (.str [115, 101, 97, 108, 58, 47, 47, 98, 46, 99, 58, 49, 63, 120, 61, 49])) (dCons (dC (.str [108, 101, 97, 102, 58, 47, 47, 97, 46, 98, 46, 99, 47, 100, 47, 101, 63, 97, 38, 98, 61, 50])) (dCons (dC (.str [108, 101, 97, 102, 58, 47, 47, 48, 58, 48, 47, 126, 50, 102])) (dNil)))))))) (gNm 1))
  (dRet (dCall D__law_of [] (dCons (dVar 0) (dCons (dVar 1) (dNil)))))
def D__law_form : DSp := runD 1 2 r__law_form
theorem ok__law_form {P : Program} {w : World} {base : Heap} (E : Env K mg) (k : Nat) : FnG P w K mg base CX0 (k + 3) E.a__law_form E.d__law_form ["_law_pot"] (lSp P w K 1 D__law_form) := fnok_of E.F__law_form sc__law_form rfl (fun cdv A outer s H Eo B hP hw hr => by
  subst hP hw
  have hB : B.P = B.P ∧ B.w = B.w := ⟨rfl, rfl⟩
  unfold r__law_form
  exact jss_cons (js_set (i := 1) sc__law_form.nd (j_lst (jas_cons (j_str [108, 101, 97, 102, 58, 47, 47, 97]) (jas_cons (j_str [108, 101, 97, 102, 58, 47, 47, 97, 47, 66]) (jas_cons (j_str [108, 101, 97, 102, 58, 47, 47, 97, 47, 98]) (jas_cons (j_str [115, 101, 97, 108, 58, 47, 47, 98, 46, 99, 58, 49, 63, 120, 61, 49]) (jas_cons (j_str [108, 101, 97, 102, 58, 47, 47, 97, 46, 98, 46, 99, 47, 100, 47, 101, 63, 97, 38, 98, 61, 50]) (jas_cons (j_str [108, 101, 97, 102, 58, 47, 47, 48, 58, 48, 47, 126, 50, 102]) (jas_nil)))))))))
    (jss_one (js_ret (j_call [] (ok__law_of E k) (hr.mono (by omega)) E.m__law_of E.F__law_of.kp E.b__law_of (fun _ _ _ _ q => q.1) .nil (fun _ => .nil) (jas_cons (jv 0) (jas_cons (jv 1) (jas_nil)))))))
def r__law_title : DS := dRet (dCall D__law_of [] (dCons (dVar 0) (dCons (dLst (dCons (dC (.str [84])) (dCons (dC (.str [119, 97, 108, 108, 115, 32, 111, 102, 32, 97])) (dCons (dC (.str [126])) (dCons (dC (.str [120, 32, 32, 121])) (dCons (dOp mulSD (dC (.str [97])) (dC (.int 60))) (dCons (dC (.str [116])) (dNil)))))))) (dNil))))
def D__law_title : DSp := runD 1 1 r__law_title
theorem ok__law_title {P : Program} {w : World} {base : Heap} (E : Env K mg) (k : Nat) : FnG P w K mg base CX0 (k + 3) E.a__law_title E.d__law_title ["_law_pot"] (lSp P w K 1 D__law_title) := fnok_of E.F__law_title sc__law_title rfl (fun cdv A outer s H Eo B hP hw hr => by
  subst hP hw
  have hB : B.P = B.P ∧ B.w = B.w := ⟨rfl, rfl⟩
  unfold r__law_title
  exact jss_one (js_ret (j_call [] (ok__law_of E k) (hr.mono (by omega)) E.m__law_of E.F__law_of.kp E.b__law_of (fun _ _ _ _ q => q.1) .nil (fun _ => .nil) (jas_cons (jv 0) (jas_cons (j_lst (jas_cons (j_str [84]) (jas_cons (j_str [119, 97, 108, 108, 115, 32, 111, 102, 32, 97]) (jas_cons (j_str [126]) (jas_cons (j_str [120, 32, 32, 121]) (jas_cons (j_op op_mulSD (j_str [97]) (j_int)) (jas_cons (j_str [116]) (jas_nil)))))))) (jas_nil))))))
def r__law_doing_1 : DS := dSeq (dAsg (dCall D__law_of [] (dCons (dVar 0) (dCons (dOp addD (dSl (dVar 3) (dPart (dNeg (dC (.int 2)))) (dNoP)) (dVar 3)) (dNil)))) (gNm 4))
  (dRet (dTup (dCons (dVar 6) (dCons (dVar 4) (dCons (dGetI (dDisp ((dC (.str [109, 111, 118, 101]), dVar 5) :: ((dC (.str [99, 97, 108, 108]), dCall D__law_word [] (dCons (dVar 0) (dNil))) :: ((dC (.str [100, 114, 111, 112]), dC .non) :: ([]))))) (dVar 6)) (dNil))))))
def r__law_doing_2 : DS := dSeq (dIf (dTest (dOp (inR false) (dVar 6) (dTup (dCons (dC (.str [108, 97, 121])) (dCons (dC (.str [108, 105, 102, 116])) (dNil)))))) (dRet (dOp addD (dTup (dCons (dVar 6) (dNil))) (dCall D__law_of [] (dCons (dVar 0) (dCons (dLst (dCons (dTup (dCons (dC (.str [97])) (dCons (dC (.str [98])) (dNil)))) (dCons (dTup (dCons (dC (.str [98])) (dCons (dC (.str [97])) (dNil)))) (dCons (dTup (dCons (dC (.str [98])) (dCons (dC (.str [99])) (dNil)))) (dCons (dTup (dCons (dC (.str [99])) (dCons (dC (.str [97])) (dNil)))) (dCons (dTup (dCons (dC (.str [57])) (dCons (dC (.str [49, 48])) (dNil)))) (dNil))))))) (dNil)))))) (dNext))
  (r__law_doing_1)
def r__law_doing_3 : DS := dSeq (dIf (dTest (dOp (inR false) (dVar 6) (dTup (dCons (dC (.str [109, 97, 114, 107])) (dCons (dC (.str [117, 110, 109, 97, 114, 107])) (dNil)))))) (dRet (dTup (dCons (dVar 6) (dCons (dCall D__law_form [] (dCons (dVar 0) (dNil))) (dCons (dCall D__law_of [] (dCons (dVar 0) (dCons (dLst (dCons (dC (.str [97])) (dCons (dC (.str [98])) (dCons (dCall D__law_word [] (dCons (dVar 0) (dNil))) (dNil))))) (dNil)))) (dNil)))))) (dNext))
  (r__law_doing_2)
def r__law_doing_4 : DS := dSeq (dIf (dTest (dOp (eqR false) (dVar 6) (dC (.str [116, 105, 116, 108, 101])))) (dRet (dTup (dCons (dVar 6) (dCons (dCall D__law_form [] (dCons (dVar 0) (dNil))) (dCons (dCall D__law_title [] (dCons (dVar 0) (dNil))) (dNil)))))) (dNext))
  (r__law_doing_3)
def r__law_doing_5 : DS := dSeq (dIf (dTest (dOp (inR false) (dVar 6) (dTup (dCons (dC (.str [112, 117, 116])) (dCons (dC (.str [116, 97, 107, 101])) (dNil)))))) (dRet (dTup (dCons (dVar 6) (dCons (dCall D__law_form [] (dCons (dVar 0) (dNil))) (dCons (dVar 5) (dNil)))))) (dNext))
  (r__law_doing_4)
def r__law_doing_6 : DS := dSeq (dIf (dTest (dOp (eqR false) (dVar 6) (dC (.str [117, 110, 100, 111])))) (dRet (dTup (dCons (dC (.str [117, 110, 100, 111])) (dCons (dCall D__law_of [] (dCons (dVar 0) (dCons (dLc (dOver (dOp addD (dSl (dVar 1) (dPart (dNeg (dC (.int 2)))) (dNoP)) (dVar 1))) (gNm 7) (dYes) (dOp ixD (dVar 7) (dC (.int 0))) [7]) (dNil)))) (dCons (dC .non) (dNil)))))) (dNext))
  (r__law_doing_5)
def r__law_doing_7 : DS := dSeq (dIf (dTest (dOp (eqR false) (dVar 6) (dC (.str [109, 97, 107, 101])))) (dRet (dTup (dCons (dC (.str [109, 97, 107, 101])) (dCons (dVar 5) (dCons (dCall D__law_word [] (dCons (dVar 0) (dNil))) (dNil)))))) (dNext))
  (r__law_doing_6)
def r__law_doing : DS := dSeq (dAsg (dLc (dOver (dVar 1)) (gNm 7) (dTest (dOp (eqR false) (dOp ixD (dVar 7) (dC (.int 2))) (dC (.str [109, 97, 107, 101])))) (dOp ixD (dVar 7) (dC (.int 0))) [7]) (gNm 3))
  (dSeq (dPar 5 6 (dCons (dCall D__law_of [] (dCons (dVar 0) (dCons (dOp addD (dOp addD (dLst (dCons (dTup (dCons (dC (.int 0)) (dCons (dC (.str [])) (dNil)))) (dNil))) (dSl (dVar 3) (dPart (dNeg (dC (.int 2)))) (dNoP))) (dVar 3)) (dNil)))) (dCons (dCall D__law_of [] (dCons (dVar 0) (dCons (dVar 2) (dNil)))) (dNil))))
  (dSeq (dIf (dOr (dAnd (dTest (dOp (inR false) (dVar 6) (dTup (dCons (dC (.str [109, 111, 118, 101])) (dCons (dC (.str [99, 97, 108, 108])) (dCons (dC (.str [100, 114, 111, 112])) (dNil))))))) (dTest (dOp (eqR false) (dVar 3) (dLst (dNil))))) (dAnd (dTest (dOp (eqR false) (dVar 6) (dC (.str [117, 110, 100, 111])))) (dTest (dOp (eqR false) (dVar 1) (dLst (dNil)))))) (dAsg (dC (.str [109, 97, 107, 101])) (gNm 6)) (dNext))
  (r__law_doing_7)))
def D__law_doing : DSp := runD 3 8 r__law_doing
theorem ok__law_doing {P : Program} {w : World} {base : Heap} (E : Env K mg) (k : Nat) : FnG P w K mg base CX0 (k + 4) E.a__law_doing E.d__law_doing ["_law_pot", "_law_known", "_law_words"] (lSp P w K 3 D__law_doing) := fnok_of E.F__law_doing sc__law_doing rfl (fun cdv A outer s H Eo B hP hw hr => by
  subst hP hw
  have hB : B.P = B.P ∧ B.w = B.w := ⟨rfl, rfl⟩
  unfold r__law_doing
  unfold r__law_doing_7
  unfold r__law_doing_6
  unfold r__law_doing_5
  unfold r__law_doing_4
  unfold r__law_doing_3
  unfold r__law_doing_2
  unfold r__law_doing_1
  exact jss_cons (js_setLc (i := 3) [("_law_deed", 7)] rfl sc__law_doing.nd (ji_list (jv 1)) (gl_name) (fun _ _ _ _ _ => pg_name (i := 7) sc__law_doing.nd rfl (.inl rfl)) (fun _ _ _ _ _ => jts_one (jt_cmp (op_eqD (room70 hr)) (j_ix (jv 7) (j_int)) (j_str [109, 97, 107, 101]))) (fun _ _ _ _ _ => j_ix (jv 7) (j_int)) (ok := by kernel_rfl) (by rfl))
    (jss_cons (js_par (i := 5) (j := 6) rfl sc__law_doing.nd (jas_cons (j_call [] (ok__law_of E k) (hr.mono (by omega)) E.m__law_of E.F__law_of.kp E.b__law_of (fun _ _ _ _ q => q.1) .nil (fun _ => .nil) (jas_cons (jv 0) (jas_cons (j_op op_addD (j_op op_addD (j_lst (jas_cons (j_tup (jas_cons (j_int) (jas_cons (j_str []) (jas_nil)))) (jas_nil))) (j_slice (jv 3) (jo_some (j_neg (j_int))) (jo_none))) (jv 3)) (jas_nil)))) (jas_cons (j_call [] (ok__law_of E k) (hr.mono (by omega)) E.m__law_of E.F__law_of.kp E.b__law_of (fun _ _ _ _ q => q.1) .nil (fun _ => .nil) (jas_cons (jv 0) (jas_cons (jv 2) (jas_nil)))) (jas_nil))))
    (jss_cons (js_if (jt_w (jw_or (jt_w (jw_and (jt_cmp (op_inD (room80 hr)) (jv 6) (j_tup (jas_cons (j_str [109, 111, 118, 101]) (jas_cons (j_str [99, 97, 108, 108]) (jas_cons (j_str [100, 114, 111, 112]) (jas_nil)))))) (jw_and1 (jt_cmp (op_eqD (room70 hr)) (jv 3) (j_lst (jas_nil)))))) (jw_or1 (jt_w (jw_and (jt_cmp (op_eqD (room70 hr)) (jv 6) (j_str [117, 110, 100, 111])) (jw_and1 (jt_cmp (op_eqD (room70 hr)) (jv 1) (j_lst (jas_nil))))))))) (jss_one (js_set (i := 6) sc__law_doing.nd (j_str [109, 97, 107, 101]))) (jss_nil))
    (jss_cons (js_if (jt_cmp (op_eqD (room70 hr)) (jv 6) (j_str [109, 97, 107, 101])) (jss_one (js_ret (j_tup (jas_cons (j_str [109, 97, 107, 101]) (jas_cons (jv 5) (jas_cons (j_call [] (ok__law_word E k) (hr.mono (by omega)) E.m__law_word E.F__law_word.kp E.b__law_word (fun _ _ _ _ q => q.1) .nil (fun _ => .nil) (jas_cons (jv 0) (jas_nil))) (jas_nil))))))) (jss_nil))
    (jss_cons (js_if (jt_cmp (op_eqD (room70 hr)) (jv 6) (j_str [117, 110, 100, 111])) (jss_one (js_ret (j_tup (jas_cons (j_str [117, 110, 100, 111]) (jas_cons (j_call [] (ok__law_of E k) (hr.mono (by omega)) E.m__law_of E.F__law_of.kp E.b__law_of (fun _ _ _ _ q => q.1) .nil (fun _ => .nil) (jas_cons (jv 0) (jas_cons (j_lc [("_law_deed", 7)] rfl sc__law_doing.nd (ji_list (j_op op_addD (j_slice (jv 1) (jo_some (j_neg (j_int))) (jo_none)) (jv 1))) (gl_name) (fun _ _ _ _ _ => pg_name (i := 7) sc__law_doing.nd rfl (.inl rfl)) (fun _ _ _ _ _ => jts_nil) (fun _ _ _ _ _ => j_ix (jv 7) (j_int)) (ok := by kernel_rfl)) (jas_nil)))) (jas_cons (j_non) (jas_nil))))))) (jss_nil))
    (jss_cons (js_if (jt_cmp (op_inD (room80 hr)) (jv 6) (j_tup (jas_cons (j_str [112, 117, 116]) (jas_cons (j_str [116, 97, 107, 101]) (jas_nil))))) (jss_one (js_ret (j_tup (jas_cons (jv 6) (jas_cons (j_call [] (ok__law_form E k) (hr.mono (by omega)) E.m__law_form E.F__law_form.kp E.b__law_form (fun _ _ _ _ q => q.1) .nil (fun _ => .nil) (jas_cons (jv 0) (jas_nil))) (jas_cons (jv 5) (jas_nil))))))) (jss_nil))
    (jss_cons (js_if (jt_cmp (op_eqD (room70 hr)) (jv 6) (j_str [116, 105, 116, 108, 101])) (jss_one (js_ret (j_tup (jas_cons (jv 6) (jas_cons (j_call [] (ok__law_form E k) (hr.mono (by omega)) E.m__law_form E.F__law_form.kp E.b__law_form (fun _ _ _ _ q => q.1) .nil (fun _ => .nil) (jas_cons (jv 0) (jas_nil))) (jas_cons (j_call [] (ok__law_title E k) (hr.mono (by omega)) E.m__law_title E.F__law_title.kp E.b__law_title (fun _ _ _ _ q => q.1) .nil (fun _ => .nil) (jas_cons (jv 0) (jas_nil))) (jas_nil))))))) (jss_nil))
    (jss_cons (js_if (jt_cmp (op_inD (room80 hr)) (jv 6) (j_tup (jas_cons (j_str [109, 97, 114, 107]) (jas_cons (j_str [117, 110, 109, 97, 114, 107]) (jas_nil))))) (jss_one (js_ret (j_tup (jas_cons (jv 6) (jas_cons (j_call [] (ok__law_form E k) (hr.mono (by omega)) E.m__law_form E.F__law_form.kp E.b__law_form (fun _ _ _ _ q => q.1) .nil (fun _ => .nil) (jas_cons (jv 0) (jas_nil))) (jas_cons (j_call [] (ok__law_of E k) (hr.mono (by omega)) E.m__law_of E.F__law_of.kp E.b__law_of (fun _ _ _ _ q => q.1) .nil (fun _ => .nil) (jas_cons (jv 0) (jas_cons (j_lst (jas_cons (j_str [97]) (jas_cons (j_str [98]) (jas_cons (j_call [] (ok__law_word E k) (hr.mono (by omega)) E.m__law_word E.F__law_word.kp E.b__law_word (fun _ _ _ _ q => q.1) .nil (fun _ => .nil) (jas_cons (jv 0) (jas_nil))) (jas_nil))))) (jas_nil)))) (jas_nil))))))) (jss_nil))
    (jss_cons (js_if (jt_cmp (op_inD (room80 hr)) (jv 6) (j_tup (jas_cons (j_str [108, 97, 121]) (jas_cons (j_str [108, 105, 102, 116]) (jas_nil))))) (jss_one (js_ret (j_op op_addD (j_tup (jas_cons (jv 6) (jas_nil))) (j_call [] (ok__law_of E k) (hr.mono (by omega)) E.m__law_of E.F__law_of.kp E.b__law_of (fun _ _ _ _ q => q.1) .nil (fun _ => .nil) (jas_cons (jv 0) (jas_cons (j_lst (jas_cons (j_tup (jas_cons (j_str [97]) (jas_cons (j_str [98]) (jas_nil)))) (jas_cons (j_tup (jas_cons (j_str [98]) (jas_cons (j_str [97]) (jas_nil)))) (jas_cons (j_tup (jas_cons (j_str [98]) (jas_cons (j_str [99]) (jas_nil)))) (jas_cons (j_tup (jas_cons (j_str [99]) (jas_cons (j_str [97]) (jas_nil)))) (jas_cons (j_tup (jas_cons (j_str [57]) (jas_cons (j_str [49, 48]) (jas_nil)))) (jas_nil))))))) (jas_nil))))))) (jss_nil))
    (jss_cons (js_set (i := 4) sc__law_doing.nd (j_call [] (ok__law_of E k) (hr.mono (by omega)) E.m__law_of E.F__law_of.kp E.b__law_of (fun _ _ _ _ q => q.1) .nil (fun _ => .nil) (jas_cons (jv 0) (jas_cons (j_op op_addD (j_slice (jv 3) (jo_some (j_neg (j_int))) (jo_none)) (jv 3)) (jas_nil)))))
    (jss_one (js_ret (j_tup (jas_cons (jv 6) (jas_cons (jv 4) (jas_cons (j_dget hB (room20 hr) (j_disp (jps_cons (j_str [109, 111, 118, 101]) (jv 5) (jps_cons (j_str [99, 97, 108, 108]) (j_call [] (ok__law_word E k) (hr.mono (by omega)) E.m__law_word E.F__law_word.kp E.b__law_word (fun _ _ _ _ q => q.1) .nil (fun _ => .nil) (jas_cons (jv 0) (jas_nil))) (jps_cons (j_str [100, 114, 111, 112]) (j_non) (jps_nil))))) (jv 6)) (jas_nil)))))))))))))))))
def l__law_row_1 : DS := dDrop (dBM "list" appendR (dVar 6) (dCons (dOp ixD (dLst (dCons (dC (.str [98])) (dCons (dC (.str [97])) (dCons (dC (.str [112, 108, 97, 99, 101, 45, 97, 98, 99, 100, 101, 102])) (dCons (dC (.str [112, 108, 97, 99, 101, 45, 97, 98, 99, 100, 101, 103])) (dCons (dC (.str [57])) (dCons (dC (.str [49, 48])) (dCons (dC (.str [122, 122])) (dNil))))))))) (dOp modD (dOp addD (dOp mulD (dC (.int 3)) (dVar 3)) (dCall D__law_take [] (dCons (dVar 0) (dCons (dC (.int 3)) (dNil))))) (dC (.int 7)))) (dNil)))
def l__law_row_2 : DS := dSetI (dVar 12) (dVar 14) (dCB max2R (dCons (dBMd getR (dVar 12) (dCons (dVar 14) (dCons (dC (.int 0)) (dNil)))) (dCons (dGetI (dVar 13) (dVar 14)) (dNil))))
def r__law_row_1 : DS := dSeq (dAsg (dCall D__law_of [] (dCons (dVar 0) (dCons (dLst (dCons (dC (.int 0)) (dCons (dC (.int 0)) (dCons (dC (.int 0)) (dCons (dC (.int 0)) (dCons (dC (.int 1)) (dCons (dC (.int 7)) (dCons (dC (.int 90)) (dCons (dCall D__law_take [] (dCons (dVar 0) (dCons (dOp powE (dC (.int 10)) (dC (.int 9))) (dNil)))) (dCons (dOp powE (dC (.int 10)) (dC (.int 28))) (dNil))))))))))) (dNil)))) (gNm 9))
  (dSeq (dAsg (dOp addD (dOp addD (dC (.int 1)) (dVar 9)) (dCB maxLR (dCons (dOp addD (dListValues (dVar 12)) (dLst (dCons (dC (.int 0)) (dNil)))) (dNil)))) (gNm 10))
  (dSeq (dAsg (dLc (dOver (dVar 7)) (gNm 15) (dTest (dOp (geD) (dBMd getR (dVar 12) (dCons (dOp ixD (dOp ixD (dVar 15) (dC (.int 0))) (dC (.int 1))) (dCons (dC (.int 0)) (dNil)))) (dOp ixD (dOp ixD (dVar 15) (dC (.int 0))) (dC (.int 0))))) (dVar 15) [15]) (gNm 11))
  (dSeq (dDrop (dBM "list" appendR (dVar 7) (dCons (dOp addD (dTup (dCons (dTup (dCons (dVar 10) (dCons (dVar 8) (dNil)))) (dCons (dCB tupleR (dCons (dCB sortedR (dCons (dListItems (dVar 12)) (dNil))) (dNil))) (dNil)))) (dCall D__law_doing [] (dCons (dVar 0) (dCons (dVar 11) (dCons (dVar 2) (dNil)))))) (dNil))))
  (dSetI (dVar 12) (dVar 8) (dVar 10)))))
def r__law_row_2 : DS := dSeq (dIf (dTest (dOp (eqR false) (dCall D__law_take [] (dCons (dVar 0) (dCons (dC (.int 9)) (dNil)))) (dC (.int 0)))) (dSetI (dVar 12) (dC (.str [103, 104, 111, 115, 116])) (dOp addD (dOp addD (dBMd getR (dVar 12) (dCons (dC (.str [103, 104, 111, 115, 116])) (dCons (dC (.int 0)) (dNil)))) (dC (.int 1))) (dCall D__law_take [] (dCons (dVar 0) (dCons (dC (.int 3)) (dNil)))))) (dNext))
  (r__law_row_1)
def l__law_row_3 : DS := dSeq (dAsg (dCall D__law_of [] (dCons (dVar 0) (dCons (dVar 6) (dNil)))) (gNm 8))
  (dSeq (dAsg (dTup (dCons (dGetI (dVar 4) (dVar 8)) (dCons (dGetI (dVar 4) (dCall D__law_of [] (dCons (dVar 0) (dCons (dVar 6) (dNil))))) (dNil)))) (gTp 2 (gCn (gNm 12) (gCn (gNm 13) (gNl)))))
  (dSeq (dIf (dTest (dOp (eqR false) (dCall D__law_take [] (dCons (dVar 0) (dCons (dC (.int 3)) (dNil)))) (dC (.int 0)))) (dGh (dFor (dOverK (dVar 13)) (gNm 14) (l__law_row_2))) (dNext))
  (r__law_row_2)))
def r__law_row_3 : DS := dRet (dVar 7)
def r__law_row_4 : DS := dSeq (dAsg (dCB dictPR (dCons (dLc (dOver (dVar 6)) (gNm 8) (dYes) (dTup (dCons (dVar 8) (dCons (dEmp) (dNil)))) [8]) (dNil))) (gNm 4))
  (dSeq (dFor (dRng1 (dCons (dVar 1) (dNil))) (gNm 5) (l__law_row_3))
  (r__law_row_3))
def r__law_row : DS := dSeq (dPar 6 7 (dCons (dLst (dNil)) (dCons (dLst (dNil)) (dNil))))
  (dSeq (dFor (dRng1 (dCons (dOp addD (dC (.int 1)) (dCall D__law_take [] (dCons (dVar 0) (dCons (dC (.int 4)) (dNil))))) (dNil))) (gNm 3) (l__law_row_1))
  (r__law_row_4))
def D__law_row : DSp := runD 3 16 r__law_row
theorem ok__law_row {P : Program} {w : World} {base : Heap} (E : Env K mg) (k : Nat) : FnG P w K mg base CX0 (k + 5) E.a__law_row E.d__law_row ["_law_pot", "_law_many", "_law_words"] (lSp P w K 3 D__law_row) := fnok_of E.F__law_row sc__law_row rfl (fun cdv A outer s H Eo B hP hw hr => by
  subst hP hw
  have hB : B.P = B.P ∧ B.w = B.w := ⟨rfl, rfl⟩
  unfold r__law_row
  unfold r__law_row_4
  unfold r__law_row_3
  unfold l__law_row_3
  unfold r__law_row_2
  unfold r__law_row_1
  unfold l__law_row_2
  unfold l__law_row_1
  exact jss_cons (js_par (i := 6) (j := 7) rfl sc__law_row.nd (jas_cons (j_lst (jas_nil)) (jas_cons (j_lst (jas_nil)) (jas_nil))))
    (jss_cons (js_for PassesOwn.never rfl (ji_range1 E.z_range (jas_cons (j_op op_addD (j_int) (j_call [] (ok__law_take E k) (hr.mono (by omega)) E.m__law_take E.F__law_take.kp E.b__law_take (fun _ _ _ _ q => q.1) .nil (fun _ => .nil) (jas_cons (jv 0) (jas_cons (j_int) (jas_nil))))) (jas_nil))) (jg_name (i := 3) sc__law_row.nd) (jss_one (js_expr (j_bm PySem.F.plainAttrs_list PySem.F.slot_list_append PySem.F.type_list_append mt_appendD (jv 6) (jas_cons (j_ix (j_lst (jas_cons (j_str [98]) (jas_cons (j_str [97]) (jas_cons (j_str [112, 108, 97, 99, 101, 45, 97, 98, 99, 100, 101, 102]) (jas_cons (j_str [112, 108, 97, 99, 101, 45, 97, 98, 99, 100, 101, 103]) (jas_cons (j_str [57]) (jas_cons (j_str [49, 48]) (jas_cons (j_str [122, 122]) (jas_nil))))))))) (j_op op_modD (j_op op_addD (j_op op_mulD (j_int) (jv 3)) (j_call [] (ok__law_take E k) (hr.mono (by omega)) E.m__law_take E.F__law_take.kp E.b__law_take (fun _ _ _ _ q => q.1) .nil (fun _ => .nil) (jas_cons (jv 0) (jas_cons (j_int) (jas_nil))))) (j_int))) (jas_nil))))))
    (jss_cons (js_set (i := 4) sc__law_row.nd (j_callTy (call_dictPD rfl) E.z_dict bt_dict (jas_cons (j_lc [("_law_place", 8)] rfl sc__law_row.nd (ji_list (jv 6)) (gl_name) (fun _ _ _ _ _ => pg_name (i := 8) sc__law_row.nd rfl (.inl rfl)) (fun _ _ _ _ _ => jts_nil) (fun _ _ _ _ _ => j_tup (jas_cons (jv 8) (jas_cons (j_emp) (jas_nil)))) (ok := by kernel_rfl)) (jas_nil))))
    (jss_cons (js_for PassesOwn.never rfl (ji_range1 E.z_range (jas_cons (jv 1) (jas_nil))) (jg_name (i := 5) sc__law_row.nd) (jss_cons (js_set (i := 8) sc__law_row.nd (j_call [] (ok__law_of E k) (hr.mono (by omega)) E.m__law_of E.F__law_of.kp E.b__law_of (fun _ _ _ _ q => q.1) .nil (fun _ => .nil) (jas_cons (jv 0) (jas_cons (jv 6) (jas_nil)))))
    (jss_cons (js_asg (j_tup (jas_cons (j_dget hB (room20 hr) (jv 4) (jv 8)) (jas_cons (j_dget hB (room20 hr) (jv 4) (j_call [] (ok__law_of E k) (hr.mono (by omega)) E.m__law_of E.F__law_of.kp E.b__law_of (fun _ _ _ _ q => q.1) .nil (fun _ => .nil) (jas_cons (jv 0) (jas_cons (jv 6) (jas_nil))))) (jas_nil)))) (jg_tup rfl (jgs_cons (jg_name (i := 12) sc__law_row.nd) (jgs_cons (jg_name (i := 13) sc__law_row.nd) (jgs_nil)))))
    (jss_cons (js_if (jt_cmp (op_eqD (room70 hr)) (j_call [] (ok__law_take E k) (hr.mono (by omega)) E.m__law_take E.F__law_take.kp E.b__law_take (fun _ _ _ _ q => q.1) .nil (fun _ => .nil) (jas_cons (jv 0) (jas_cons (j_int) (jas_nil)))) (j_int)) (jss_one (js_gh hB (js_for PassesOwn.never rfl (ji_dict hB (jv 13)) (jg_name (i := 14) sc__law_row.nd) (jss_one (js_sset hB (room20 hr) (jv 12) (jv 14) (j_callB (call_max2D rfl) E.z_max bt_max (jas_cons (j_bmd hB PySem.F.slot_dict_get PySem.F.type_dict_get (mt_getD hB (room20 hr)) (jv 12) (jas_cons (jv 14) (jas_cons (j_int) (jas_nil)))) (jas_cons (j_dget hB (room20 hr) (jv 13) (jv 14)) (jas_nil))))))))) (jss_nil))
    (jss_cons (js_if (jt_cmp (op_eqD (room70 hr)) (j_call [] (ok__law_take E k) (hr.mono (by omega)) E.m__law_take E.F__law_take.kp E.b__law_take (fun _ _ _ _ q => q.1) .nil (fun _ => .nil) (jas_cons (jv 0) (jas_cons (j_int) (jas_nil)))) (j_int)) (jss_one (js_sset hB (room20 hr) (jv 12) (j_str [103, 104, 111, 115, 116]) (j_op op_addD (j_op op_addD (j_bmd hB PySem.F.slot_dict_get PySem.F.type_dict_get (mt_getD hB (room20 hr)) (jv 12) (jas_cons (j_str [103, 104, 111, 115, 116]) (jas_cons (j_int) (jas_nil)))) (j_int)) (j_call [] (ok__law_take E k) (hr.mono (by omega)) E.m__law_take E.F__law_take.kp E.b__law_take (fun _ _ _ _ q => q.1) .nil (fun _ => .nil) (jas_cons (jv 0) (jas_cons (j_int) (jas_nil))))))) (jss_nil))
    (jss_cons (js_set (i := 9) sc__law_row.nd (j_call [] (ok__law_of E k) (hr.mono (by omega)) E.m__law_of E.F__law_of.kp E.b__law_of (fun _ _ _ _ q => q.1) .nil (fun _ => .nil) (jas_cons (jv 0) (jas_cons (j_lst (jas_cons (j_int) (jas_cons (j_int) (jas_cons (j_int) (jas_cons (j_int) (jas_cons (j_int) (jas_cons (j_int) (jas_cons (j_int) (jas_cons (j_call [] (ok__law_take E k) (hr.mono (by omega)) E.m__law_take E.F__law_take.kp E.b__law_take (fun _ _ _ _ q => q.1) .nil (fun _ => .nil) (jas_cons (jv 0) (jas_cons (j_op op_powE (j_int) (j_int)) (jas_nil)))) (jas_cons (j_op op_powE (j_int) (j_int)) (jas_nil))))))))))) (jas_nil)))))
    (jss_cons (js_set (i := 10) sc__law_row.nd (j_op op_addD (j_op op_addD (j_int) (jv 9)) (j_callB (call_maxLD rfl) E.z_max bt_max (jas_cons (j_op op_addD (j_listValues rfl E.z_list (jv 12)) (j_lst (jas_cons (j_int) (jas_nil)))) (jas_nil)))))
    (jss_cons (js_setLc (i := 11) [("_law_deed", 15)] rfl sc__law_row.nd (ji_list (jv 7)) (gl_name) (fun _ _ _ _ _ => pg_name (i := 15) sc__law_row.nd rfl (.inl rfl)) (fun _ _ _ _ _ => jts_one (jt_cmp (op_geD) (j_bmd hB PySem.F.slot_dict_get PySem.F.type_dict_get (mt_getD hB (room20 hr)) (jv 12) (jas_cons (j_ix (j_ix (jv 15) (j_int)) (j_int)) (jas_cons (j_int) (jas_nil)))) (j_ix (j_ix (jv 15) (j_int)) (j_int)))) (fun _ _ _ _ _ => jv 15) (ok := by kernel_rfl) (by rfl))
    (jss_cons (js_expr (j_bm PySem.F.plainAttrs_list PySem.F.slot_list_append PySem.F.type_list_append mt_appendD (jv 7) (jas_cons (j_op op_addD (j_tup (jas_cons (j_tup (jas_cons (jv 10) (jas_cons (jv 8) (jas_nil)))) (jas_cons (j_callTy call_tupleD E.z_tuple bt_tuple (jas_cons (j_callB (call_sortedD hB (room70 hr) rfl) E.z_sorted bt_sorted (jas_cons (j_listItems rfl E.z_list (jv 12)) (jas_nil))) (jas_nil))) (jas_nil)))) (j_call [] (ok__law_doing E k) (hr.mono (by omega)) E.m__law_doing E.F__law_doing.kp E.b__law_doing (fun _ _ _ _ q => q.1) .nil (fun _ => .nil) (jas_cons (jv 0) (jas_cons (jv 11) (jas_cons (jv 2) (jas_nil)))))) (jas_nil))))
    (jss_one (js_sset hB (room20 hr) (jv 12) (jv 8) (jv 10))))))))))))
    (jss_one (js_ret (jv 7)))))))
def l__law_beside_1 : DS := dDrop (dBM "list" extendR (dVar 1) (dCons (dLst (dCons (dTup (dCons (dVar 3) (dCons (dVar 2) (dNil)))) (dCons (dTup (dCons (dOp addD (dVar 3) (dC (.int 1))) (dCons (dVar 2) (dNil)))) (dCons (dTup (dCons (dCB max2R (dCons (dC (.int 1)) (dCons (dOp subD (dVar 3) (dC (.int 1))) (dNil)))) (dCons (dVar 2) (dNil)))) (dCons (dTup (dCons (dVar 3) (dCons (dOp addD (dSl (dVar 2) (dNoP) (dPart (dNeg (dC (.int 1))))) (dC (.str [113]))) (dNil)))) (dNil)))))) (dNil)))
def r__law_beside_1 : DS := dRet (dVar 1)
def r__law_beside : DS := dSeq (dAsg (dLst (dCons (dTup (dCons (dC (.int 1)) (dCons (dC (.str [110, 111, 116, 45, 115, 101, 101, 110])) (dNil)))) (dCons (dTup (dCons (dOp powE (dC (.int 10)) (dC (.int 29))) (dCons (dC (.str [110, 111, 116, 45, 115, 101, 101, 110])) (dNil)))) (dCons (dOp ixD (dVar 0) (dC (.int 0))) (dCons (dTup (dCons (dOp addD (dOp ixD (dOp ixD (dVar 0) (dC (.int 0))) (dC (.int 0))) (dC (.int 1))) (dCons (dOp ixD (dOp ixD (dVar 0) (dC (.int 0))) (dC (.int 1))) (dNil)))) (dNil)))))) (gNm 1))
  (dSeq (dFor (dAltI (dAltI (dOverT (dOp ixD (dVar 0) (dC (.int 1)))) (dOverS (dOp ixD (dVar 0) (dC (.int 1))))) (dOver (dOp ixD (dVar 0) (dC (.int 1))))) (gTp 2 (gCn (gNm 2) (gCn (gNm 3) (gNl)))) (l__law_beside_1))
  (r__law_beside_1))
def D__law_beside : DSp := runD 1 4 r__law_beside
theorem ok__law_beside {P : Program} {w : World} {base : Heap} (E : Env K mg) (k : Nat) : FnG P w K mg base CX0 (k + 1) E.a__law_beside E.d__law_beside ["_law_deed"] (lSp P w K 1 D__law_beside) := fnok_of E.F__law_beside sc__law_beside rfl (fun cdv A outer s H Eo B hP hw hr => by
  subst hP hw
  have hB : B.P = B.P ∧ B.w = B.w := ⟨rfl, rfl⟩
  unfold r__law_beside
  unfold r__law_beside_1
  unfold l__law_beside_1
  exact jss_cons (js_set (i := 1) sc__law_beside.nd (j_lst (jas_cons (j_tup (jas_cons (j_int) (jas_cons (j_str [110, 111, 116, 45, 115, 101, 101, 110]) (jas_nil)))) (jas_cons (j_tup (jas_cons (j_op op_powE (j_int) (j_int)) (jas_cons (j_str [110, 111, 116, 45, 115, 101, 101, 110]) (jas_nil)))) (jas_cons (j_ix (jv 0) (j_int)) (jas_cons (j_tup (jas_cons (j_op op_addD (j_ix (j_ix (jv 0) (j_int)) (j_int)) (j_int)) (jas_cons (j_ix (j_ix (jv 0) (j_int)) (j_int)) (jas_nil)))) (jas_nil)))))))
    (jss_cons (js_for PassesOwn.never rfl (ji_alt (ji_alt (ji_tup (j_ix (jv 0) (j_int))) (ji_str (j_ix (jv 0) (j_int)))) (ji_list (j_ix (jv 0) (j_int)))) (jg_tup rfl (jgs_cons (jg_name (i := 2) sc__law_beside.nd) (jgs_cons (jg_name (i := 3) sc__law_beside.nd) (jgs_nil)))) (jss_one (js_expr (j_bm PySem.F.plainAttrs_list PySem.F.slot_list_extend PySem.F.type_list_extend mt_extendD (jv 1) (jas_cons (j_lst (jas_cons (j_tup (jas_cons (jv 3) (jas_cons (jv 2) (jas_nil)))) (jas_cons (j_tup (jas_cons (j_op op_addD (jv 3) (j_int)) (jas_cons (jv 2) (jas_nil)))) (jas_cons (j_tup (jas_cons (j_callB (call_max2D rfl) E.z_max bt_max (jas_cons (j_int) (jas_cons (j_op op_subD (jv 3) (j_int)) (jas_nil)))) (jas_cons (jv 2) (jas_nil)))) (jas_cons (j_tup (jas_cons (jv 3) (jas_cons (j_op op_addD (j_slice (jv 2) (jo_none) (jo_some (j_neg (j_int)))) (j_str [113])) (jas_nil)))) (jas_nil)))))) (jas_nil))))))
    (jss_one (js_ret (jv 1)))))
def r_saw : DS := dSeq (dAsg (dVar 1) (gTp 2 (gCn (gNm 2) (gCn (gNm 3) (gNl)))))
  (dRet (dOp (geD) (dBMd getR (dCB dictTR (dCons (dOp ixD (dVar 0) (dC (.int 1))) (dNil))) (dCons (dVar 3) (dCons (dC (.int 0)) (dNil)))) (dVar 2)))
def D_saw : DSp := runD 2 4 r_saw
theorem ok_saw {P : Program} {w : World} {base : Heap} (E : Env K mg) (k : Nat) : FnG P w K mg base CX0 (k + 1) E.a_saw E.d_saw ["deed", "stamp"] (lSp P w K 2 D_saw) := fnok_of E.F_saw sc_saw rfl (fun cdv A outer s H Eo B hP hw hr => by
  subst hP hw
  have hB : B.P = B.P ∧ B.w = B.w := ⟨rfl, rfl⟩
  unfold r_saw
  exact jss_cons (js_asg (jv 1) (jg_tup rfl (jgs_cons (jg_name (i := 2) sc_saw.nd) (jgs_cons (jg_name (i := 3) sc_saw.nd) (jgs_nil)))))
    (jss_one (js_ret (j_cmp (op_geD) (j_bmd hB PySem.F.slot_dict_get PySem.F.type_dict_get (mt_getD hB (room20 hr)) (j_callTy (call_dictTD rfl E.kt) E.z_dict bt_dict (jas_cons (j_ix (jv 0) (j_int)) (jas_nil))) (jas_cons (jv 3) (jas_cons (j_int) (jas_nil)))) (jv 2)))))
def l__law_due_1 : DS := dIf (dTest (dOp (eqR false) (dVar 2) (dOp ixD (dVar 1) (dC (.int 1))))) (dRet (dOp (geD) (dVar 3) (dOp ixD (dVar 1) (dC (.int 0))))) (dNext)
def r__law_due_1 : DS := dRet (dC (.bl false))
def r__law_due : DS := dSeq (dFor (dAltI (dAltI (dOverT (dOp ixD (dVar 0) (dC (.int 1)))) (dOverS (dOp ixD (dVar 0) (dC (.int 1))))) (dOver (dOp ixD (dVar 0) (dC (.int 1))))) (gTp 2 (gCn (gNm 2) (gCn (gNm 3) (gNl)))) (l__law_due_1))
  (r__law_due_1)
def D__law_due : DSp := runD 2 4 r__law_due
theorem ok__law_due {P : Program} {w : World} {base : Heap} (E : Env K mg) (k : Nat) : FnG P w K mg base CX0 (k + 1) E.a__law_due E.d__law_due ["_law_deed", "_law_stamp"] (lSp P w K 2 D__law_due) := fnok_of E.F__law_due sc__law_due rfl (fun cdv A outer s H Eo B hP hw hr => by
  subst hP hw
  have hB : B.P = B.P ∧ B.w = B.w := ⟨rfl, rfl⟩
  unfold r__law_due
  unfold r__law_due_1
  unfold l__law_due_1
  exact jss_cons (js_for PassesOwn.never rfl (ji_alt (ji_alt (ji_tup (j_ix (jv 0) (j_int))) (ji_str (j_ix (jv 0) (j_int)))) (ji_list (j_ix (jv 0) (j_int)))) (jg_tup rfl (jgs_cons (jg_name (i := 2) sc__law_due.nd) (jgs_cons (jg_name (i := 3) sc__law_due.nd) (jgs_nil)))) (jss_one (js_if (jt_cmp (op_eqD (room70 hr)) (jv 2) (j_ix (jv 1) (j_int))) (jss_one (js_ret (j_cmp (op_geD) (jv 3) (j_ix (jv 1) (j_int))))) (jss_nil))))
    (jss_one (js_ret (j_bl))))
def l_law_1 : DS := dSeq (dAsg (dCall D_saw [] (dCons (dVar 4) (dCons (dVar 5) (dNil)))) (gNm 7))
  (dIf (dOr (dNot (dTru (dCB isiR (dCons (dVar 7) (dCons (dC (.ty "bool")) dNil))))) (dTest (dOp (eqR true) (dVar 7) (dCall D__law_due [] (dCons (dVar 4) (dCons (dVar 5) (dNil))))))) (dRet (dC (.bl false))) (dNext))
def r_law_1 : DS := dIf (dAnd (dTru (dCall D_saw [] (dCons (dVar 4) (dCons (dOp ixD (dVar 6) (dC (.int 0))) (dNil))))) (dNot (dTru (dCB allR (dCons (dLc (dAltI (dAltI (dOverT (dOp ixD (dVar 6) (dC (.int 1)))) (dOverS (dOp ixD (dVar 6) (dC (.int 1))))) (dOver (dOp ixD (dVar 6) (dC (.int 1))))) (gTp 2 (gCn (gNm 8) (gCn (gNm 9) (gNl)))) (dYes) (dCall D_saw [] (dCons (dVar 4) (dCons (dTup (dCons (dVar 9) (dCons (dVar 8) (dNil)))) (dNil)))) [8, 9]) (dNil)))))) (dRet (dC (.bl false))) (dNext)
def l_law_2 : DS := dSeq (dIf (dAnd (dTest (dOp (eqR false) (dOp ixD (dOp ixD (dVar 6) (dC (.int 0))) (dC (.int 1))) (dOp ixD (dOp ixD (dVar 4) (dC (.int 0))) (dC (.int 1))))) (dNot (dTru (dCall D_saw [] (dCons (dVar 4) (dCons (dOp ixD (dVar 6) (dC (.int 0))) (dNil))))))) (dRet (dC (.bl false))) (dNext))
  (r_law_1)
def r_law_2 : DS := dFor (dOver (dSl (dVar 2) (dNoP) (dPart (dVar 3)))) (gNm 6) (l_law_2)
def r_law_3 : DS := dSeq (dIf (dTru (dCB anyR (dCons (dLc (dOver (dSl (dVar 2) (dPart (dVar 3)) (dNoP))) (gNm 6) (dYes) (dCall D_saw [] (dCons (dVar 4) (dCons (dOp ixD (dVar 6) (dC (.int 0))) (dNil)))) [6]) (dNil)))) (dRet (dC (.bl false))) (dNext))
  (r_law_2)
def l_law_3 : DS := dSeq (dFor (dOver (dOp addD (dCall D__law_beside [] (dCons (dVar 4) (dNil))) (dLc (dOver (dVar 2)) (gNm 6) (dYes) (dOp ixD (dVar 6) (dC (.int 0))) [6]))) (gNm 5) (l_law_1))
  (r_law_3)
def r_law_4 : DS := dRet (dC (.bl true))
def r_law : DS := dSeq (dAsg (dCall D__law_begin [] (dCons (dVar 0) (dNil))) (gNm 1))
  (dSeq (dAsg (dCall D__law_row [] (dCons (dVar 1) (dCons (dOp addD (dC (.int 4)) (dCB min2R (dCons (dC (.int 10)) (dCons (dCB (lenR) (dCons (dVar 0) (dNil))) (dNil))))) (dCons (dLst (dCons (dC (.str [109, 97, 107, 101])) (dCons (dC (.str [112, 117, 116])) (dCons (dC (.str [109, 97, 114, 107])) (dCons (dC (.str [117, 110, 100, 111])) (dCons (dC (.str [108, 97, 121])) (dNil))))))) (dNil))))) (gNm 2))
  (dSeq (dFor (dEnum (dCons (dVar 2) (dNil))) (gTp 2 (gCn (gNm 3) (gCn (gNm 4) (gNl)))) (l_law_3))
  (r_law_4)))
def D_law : DSp := runD 1 10 r_law
theorem ok_law {P : Program} {w : World} {base : Heap} (E : Env K mg) (k : Nat) : FnG P w K mg base CX0 (k + 6) E.a_law E.d_law ["_law_script"] (lSp P w K 1 D_law) := fnok_of E.F_law sc_law rfl (fun cdv A outer s H Eo B hP hw hr => by
  subst hP hw
  have hB : B.P = B.P ∧ B.w = B.w := ⟨rfl, rfl⟩
  unfold r_law
  unfold r_law_4
  unfold l_law_3
  unfold r_law_3
  unfold r_law_2
  unfold l_law_2
  unfold r_law_1
  unfold l_law_1
  exact jss_cons (js_set (i := 1) sc_law.nd (j_call [] (ok__law_begin E k) (hr.mono (by omega)) E.m__law_begin E.F__law_begin.kp E.b__law_begin (fun _ _ _ _ q => q.1) .nil (fun _ => .nil) (jas_cons (jv 0) (jas_nil))))
    (jss_cons (js_set (i := 2) sc_law.nd (j_call [] (ok__law_row E k) (hr.mono (by omega)) E.m__law_row E.F__law_row.kp E.b__law_row (fun _ _ _ _ q => q.1) .nil (fun _ => .nil) (jas_cons (jv 1) (jas_cons (j_op op_addD (j_int) (j_callB (call_min2D rfl) E.z_min bt_min (jas_cons (j_int) (jas_cons (j_callB (call_lenD0) E.z_len bt_len (jas_cons (jv 0) (jas_nil))) (jas_nil))))) (jas_cons (j_lst (jas_cons (j_str [109, 97, 107, 101]) (jas_cons (j_str [112, 117, 116]) (jas_cons (j_str [109, 97, 114, 107]) (jas_cons (j_str [117, 110, 100, 111]) (jas_cons (j_str [108, 97, 121]) (jas_nil))))))) (jas_nil))))))
    (jss_cons (js_for PassesOwn.never rfl (ji_enum E.z_enumerate (jas_cons (jv 2) (jas_nil))) (jg_tup rfl (jgs_cons (jg_name (i := 3) sc_law.nd) (jgs_cons (jg_name (i := 4) sc_law.nd) (jgs_nil)))) (jss_cons (js_for PassesOwn.never rfl (ji_list (j_op op_addD (j_call [] (ok__law_beside E k) (hr.mono (by omega)) E.m__law_beside E.F__law_beside.kp E.b__law_beside (fun _ _ _ _ q => q.1) .nil (fun _ => .nil) (jas_cons (jv 4) (jas_nil))) (j_lc [("_law_one", 6)] rfl sc_law.nd (ji_list (jv 2)) (gl_name) (fun _ _ _ _ _ => pg_name (i := 6) sc_law.nd rfl (.inl rfl)) (fun _ _ _ _ _ => jts_nil) (fun _ _ _ _ _ => j_ix (jv 6) (j_int)) (ok := by kernel_rfl)))) (jg_name (i := 5) sc_law.nd) (jss_cons (js_set (i := 7) sc_law.nd (j_call [] (ok_saw E k) (hr.mono (by omega)) E.m_saw E.F_saw.kp E.b_saw (fun _ _ _ _ q => q.1) .nil (fun _ => .nil) (jas_cons (jv 4) (jas_cons (jv 5) (jas_nil)))))
    (jss_one (js_if (jt_w (jw_or (jt_not (jt_tru (j_callB call_isiD E.z_isinstance bt_isinstance (jas_cons (jv 7) (jas_cons (j_tyName "bool" E.z_bool bt_bool) jas_nil))))) (jw_or1 (jt_cmp (op_neD (room70 hr)) (jv 7) (j_call [] (ok__law_due E k) (hr.mono (by omega)) E.m__law_due E.F__law_due.kp E.b__law_due (fun _ _ _ _ q => q.1) .nil (fun _ => .nil) (jas_cons (jv 4) (jas_cons (jv 5) (jas_nil)))))))) (jss_one (js_ret (j_bl))) (jss_nil)))))
    (jss_cons (js_if (jt_tru (j_callB (call_anyD rfl) E.z_any bt_any (jas_cons (j_lc [("_law_one", 6)] rfl sc_law.nd (ji_list (j_slice (jv 2) (jo_some (jv 3)) (jo_none))) (gl_name) (fun _ _ _ _ _ => pg_name (i := 6) sc_law.nd rfl (.inl rfl)) (fun _ _ _ _ _ => jts_nil) (fun _ _ _ _ _ => j_call [] (ok_saw E k) (hr.mono (by omega)) E.m_saw E.F_saw.kp E.b_saw (fun _ _ _ _ q => q.1) .nil (fun _ => .nil) (jas_cons (jv 4) (jas_cons (j_ix (jv 6) (j_int)) (jas_nil)))) (ok := by kernel_rfl)) (jas_nil)))) (jss_one (js_ret (j_bl))) (jss_nil))
    (jss_one (js_for PassesOwn.never rfl (ji_list (j_slice (jv 2) (jo_none) (jo_some (jv 3)))) (jg_name (i := 6) sc_law.nd) (jss_cons (js_if (jt_w (jw_and (jt_cmp (op_eqD (room70 hr)) (j_ix (j_ix (jv 6) (j_int)) (j_int)) (j_ix (j_ix (jv 4) (j_int)) (j_int))) (jw_and1 (jt_not (jt_tru (j_call [] (ok_saw E k) (hr.mono (by omega)) E.m_saw E.F_saw.kp E.b_saw (fun _ _ _ _ q => q.1) .nil (fun _ => .nil) (jas_cons (jv 4) (jas_cons (j_ix (jv 6) (j_int)) (jas_nil))))))))) (jss_one (js_ret (j_bl))) (jss_nil))
    (jss_one (js_if (jt_w (jw_and (jt_tru (j_call [] (ok_saw E k) (hr.mono (by omega)) E.m_saw E.F_saw.kp E.b_saw (fun _ _ _ _ q => q.1) .nil (fun _ => .nil) (jas_cons (jv 4) (jas_cons (j_ix (jv 6) (j_int)) (jas_nil))))) (jw_and1 (jt_not (jt_tru (j_callB (call_allD rfl) E.z_all bt_all (jas_cons (j_lc [("_law_place", 8), ("_law_last", 9)] rfl sc_law.nd (ji_alt (ji_alt (ji_tup (j_ix (jv 6) (j_int))) (ji_str (j_ix (jv 6) (j_int)))) (ji_list (j_ix (jv 6) (j_int)))) (gl_tup (gls_cons (gl_name) (gls_cons (gl_name) (gls_nil)))) (fun _ _ _ _ _ => pg_tup rfl (pgs_cons (pg_name (i := 8) sc_law.nd rfl (.inl rfl)) (pgs_cons (pg_name (i := 9) sc_law.nd rfl (.inl rfl)) (pgs_nil)))) (fun _ _ _ _ _ => jts_nil) (fun _ _ _ _ _ => j_call [] (ok_saw E k) (hr.mono (by omega)) E.m_saw E.F_saw.kp E.b_saw (fun _ _ _ _ q => q.1) .nil (fun _ => .nil) (jas_cons (jv 4) (jas_cons (j_tup (jas_cons (jv 9) (jas_cons (jv 8) (jas_nil)))) (jas_nil)))) (ok := by kernel_rfl)) (jas_nil)))))))) (jss_one (js_ret (j_bl))) (jss_nil)))))))))
    (jss_one (js_ret (j_bl))))))
end
theorem all_mk {l : PySem.W.OpenLaw} {w : World} {K : PySem.W.Frag} {h : Heap} {mg : Str → Option Value} {fa : Addr} (X : K.In h) (G : h.Ns mainGlobals mg) (hfa : mg "law" = some (.ref fa))
    {f1 f2 f3 f4 f5 f6 f7 f8 f9 f10 f11 f12 : Addr} {od1 an1 od2 an2 od3 an3 od4 an4 od5 an5 od6 an6 od7 an7 od8 an8 od9 an9 od10 an10 od11 an11 od12 an12 : Option Addr} {sl1 sl2 sl3 sl4 sl5 sl6 sl7 sl8 sl9 sl10 sl11 sl12 : Array (Option Value)} {oc1 kV1 dc1 pm1 cd1 ct1 oc2 kV2 dc2 pm2 cd2 ct2 oc3 kV3 dc3 pm3 cd3 ct3 oc4 kV4 dc4 pm4 cd4 ct4 oc5 kV5 dc5 pm5 cd5 ct5 oc6 kV6 dc6 pm6 cd6 ct6 oc7 kV7 dc7 pm7 cd7 ct7 oc8 kV8 dc8 pm8 cd8 ct8 oc9 kV9 dc9 pm9 cd9 ct9 oc10 kV10 dc10 pm10 cd10 ct10 oc11 kV11 dc11 pm11 cd11 ct11 oc12 kV12 dc12 pm12 cd12 ct12 : Value}
    (a1 : PySem.W.nsIn K mainGlobals "_law_begin" = some (some (.ref f1))) (l1 : K.lookup f1 = some ⟨oc1, od1, .func (PySem.W.fnOf "_law_begin" "_law_begin" (defArgs s__law_begin) (defBody s__law_begin) (defScope s__law_begin) .none kV1 dc1 pm1 an1 cd1 ct1), sl1⟩) (c1 : PySem.W.codeIn K cd1 "_law_begin" = true) (k1 : PySem.W.keepIn K (.ref f1) = true)
    (a2 : PySem.W.nsIn K mainGlobals "_law_take" = some (some (.ref f2))) (l2 : K.lookup f2 = some ⟨oc2, od2, .func (PySem.W.fnOf "_law_take" "_law_take" (defArgs s__law_take) (defBody s__law_take) (defScope s__law_take) .none kV2 dc2 pm2 an2 cd2 ct2), sl2⟩) (c2 : PySem.W.codeIn K cd2 "_law_take" = true) (k2 : PySem.W.keepIn K (.ref f2) = true)
    (a3 : PySem.W.nsIn K mainGlobals "_law_of" = some (some (.ref f3))) (l3 : K.lookup f3 = some ⟨oc3, od3, .func (PySem.W.fnOf "_law_of" "_law_of" (defArgs s__law_of) (defBody s__law_of) (defScope s__law_of) .none kV3 dc3 pm3 an3 cd3 ct3), sl3⟩) (c3 : PySem.W.codeIn K cd3 "_law_of" = true) (k3 : PySem.W.keepIn K (.ref f3) = true)
    (a4 : PySem.W.nsIn K mainGlobals "_law_word" = some (some (.ref f4))) (l4 : K.lookup f4 = some ⟨oc4, od4, .func (PySem.W.fnOf "_law_word" "_law_word" (defArgs s__law_word) (defBody s__law_word) (defScope s__law_word) .none kV4 dc4 pm4 an4 cd4 ct4), sl4⟩) (c4 : PySem.W.codeIn K cd4 "_law_word" = true) (k4 : PySem.W.keepIn K (.ref f4) = true)
    (a5 : PySem.W.nsIn K mainGlobals "_law_form" = some (some (.ref f5))) (l5 : K.lookup f5 = some ⟨oc5, od5, .func (PySem.W.fnOf "_law_form" "_law_form" (defArgs s__law_form) (defBody s__law_form) (defScope s__law_form) .none kV5 dc5 pm5 an5 cd5 ct5), sl5⟩) (c5 : PySem.W.codeIn K cd5 "_law_form" = true) (k5 : PySem.W.keepIn K (.ref f5) = true)
    (a6 : PySem.W.nsIn K mainGlobals "_law_title" = some (some (.ref f6))) (l6 : K.lookup f6 = some ⟨oc6, od6, .func (PySem.W.fnOf "_law_title" "_law_title" (defArgs s__law_title) (defBody s__law_title) (defScope s__law_title) .none kV6 dc6 pm6 an6 cd6 ct6), sl6⟩) (c6 : PySem.W.codeIn K cd6 "_law_title" = true) (k6 : PySem.W.keepIn K (.ref f6) = true)
    (a7 : PySem.W.nsIn K mainGlobals "_law_doing" = some (some (.ref f7))) (l7 : K.lookup f7 = some ⟨oc7, od7, .func (PySem.W.fnOf "_law_doing" "_law_doing" (defArgs s__law_doing) (defBody s__law_doing) (defScope s__law_doing) .none kV7 dc7 pm7 an7 cd7 ct7), sl7⟩) (c7 : PySem.W.codeIn K cd7 "_law_doing" = true) (k7 : PySem.W.keepIn K (.ref f7) = true)
    (a8 : PySem.W.nsIn K mainGlobals "_law_row" = some (some (.ref f8))) (l8 : K.lookup f8 = some ⟨oc8, od8, .func (PySem.W.fnOf "_law_row" "_law_row" (defArgs s__law_row) (defBody s__law_row) (defScope s__law_row) .none kV8 dc8 pm8 an8 cd8 ct8), sl8⟩) (c8 : PySem.W.codeIn K cd8 "_law_row" = true) (k8 : PySem.W.keepIn K (.ref f8) = true)
    (a9 : PySem.W.nsIn K mainGlobals "_law_beside" = some (some (.ref f9))) (l9 : K.lookup f9 = some ⟨oc9, od9, .func (PySem.W.fnOf "_law_beside" "_law_beside" (defArgs s__law_beside) (defBody s__law_beside) (defScope s__law_beside) .none kV9 dc9 pm9 an9 cd9 ct9), sl9⟩) (c9 : PySem.W.codeIn K cd9 "_law_beside" = true) (k9 : PySem.W.keepIn K (.ref f9) = true)
    (a10 : PySem.W.nsIn K mainGlobals "saw" = some (some (.ref f10))) (l10 : K.lookup f10 = some ⟨oc10, od10, .func (PySem.W.fnOf "saw" "saw" (defArgs s_saw) (defBody s_saw) (defScope s_saw) .none kV10 dc10 pm10 an10 cd10 ct10), sl10⟩) (c10 : PySem.W.codeIn K cd10 "saw" = true) (k10 : PySem.W.keepIn K (.ref f10) = true)
    (a11 : PySem.W.nsIn K mainGlobals "_law_due" = some (some (.ref f11))) (l11 : K.lookup f11 = some ⟨oc11, od11, .func (PySem.W.fnOf "_law_due" "_law_due" (defArgs s__law_due) (defBody s__law_due) (defScope s__law_due) .none kV11 dc11 pm11 an11 cd11 ct11), sl11⟩) (c11 : PySem.W.codeIn K cd11 "_law_due" = true) (k11 : PySem.W.keepIn K (.ref f11) = true)
    (a12 : PySem.W.nsIn K mainGlobals "law" = some (some (.ref f12))) (l12 : K.lookup f12 = some ⟨oc12, od12, .func (PySem.W.fnOf "law" "law" (defArgs s_law) (defBody s_law) (defScope s_law) .none kV12 dc12 pm12 an12 cd12 ct12), sl12⟩) (c12 : PySem.W.codeIn K cd12 "law" = true) (k12 : PySem.W.keepIn K (.ref f12) = true)
    (z_abs : PySem.W.nsIn K mainGlobals "abs" = some none)
    (z_all : PySem.W.nsIn K mainGlobals "all" = some none)
    (z_any : PySem.W.nsIn K mainGlobals "any" = some none)
    (z_bool : PySem.W.nsIn K mainGlobals "bool" = some none)
    (z_dict : PySem.W.nsIn K mainGlobals "dict" = some none)
    (z_enumerate : PySem.W.nsIn K mainGlobals "enumerate" = some none)
    (z_isinstance : PySem.W.nsIn K mainGlobals "isinstance" = some none)
    (z_len : PySem.W.nsIn K mainGlobals "len" = some none)
    (z_list : PySem.W.nsIn K mainGlobals "list" = some none)
    (z_max : PySem.W.nsIn K mainGlobals "max" = some none)
    (z_min : PySem.W.nsIn K mainGlobals "min" = some none)
    (z_range : PySem.W.nsIn K mainGlobals "range" = some none)
    (z_sorted : PySem.W.nsIn K mainGlobals "sorted" = some none)
    (z_tuple : PySem.W.nsIn K mainGlobals "tuple" = some none)
    (kt : tupPlain K = true)
    : ∃ fd : FuncData, (∀ (s : Shared) (v : Value), BindsTo s fd ⟨[v], []⟩ [("_law_script", v)]) ∧ ∀ base : Heap, K.In base → base.Ns mainGlobals mg → FnG l.prog w K mg base CX0 6 fa fd ["_law_script"] (lSp l.prog w K 1 D_law) := by
  have e := hfa.symm.trans (PySem.W.mg_of X G a12)
  cases e
  have F1 := fun_mk (st := s__law_begin) l1 c1 k1
  have F2 := fun_mk (st := s__law_take) l2 c2 k2
  have F3 := fun_mk (st := s__law_of) l3 c3 k3
  have F4 := fun_mk (st := s__law_word) l4 c4 k4
  have F5 := fun_mk (st := s__law_form) l5 c5 k5
  have F6 := fun_mk (st := s__law_title) l6 c6 k6
  have F7 := fun_mk (st := s__law_doing) l7 c7 k7
  have F8 := fun_mk (st := s__law_row) l8 c8 k8
  have F9 := fun_mk (st := s__law_beside) l9 c9 k9
  have F10 := fun_mk (st := s_saw) l10 c10 k10
  have F11 := fun_mk (st := s__law_due) l11 c11 k11
  have F12 := fun_mk (st := s_law) l12 c12 k12
  have b1 := F1.binds (ps := ["_law_script"]) fun _ _ _ _ _ _ us hl => match us, hl with | [_], _ => rfl
  have b2 := F2.binds (ps := ["_law_pot", "_law_many"]) fun _ _ _ _ _ _ us hl => match us, hl with | [_, _], _ => rfl
  have b3 := F3.binds (ps := ["_law_pot", "_law_some"]) fun _ _ _ _ _ _ us hl => match us, hl with | [_, _], _ => rfl
  have b4 := F4.binds (ps := ["_law_pot"]) fun _ _ _ _ _ _ us hl => match us, hl with | [_], _ => rfl
  have b5 := F5.binds (ps := ["_law_pot"]) fun _ _ _ _ _ _ us hl => match us, hl with | [_], _ => rfl
  have b6 := F6.binds (ps := ["_law_pot"]) fun _ _ _ _ _ _ us hl => match us, hl with | [_], _ => rfl
  have b7 := F7.binds (ps := ["_law_pot", "_law_known", "_law_words"]) fun _ _ _ _ _ _ us hl => match us, hl with | [_, _, _], _ => rfl
  have b8 := F8.binds (ps := ["_law_pot", "_law_many", "_law_words"]) fun _ _ _ _ _ _ us hl => match us, hl with | [_, _, _], _ => rfl
  have b9 := F9.binds (ps := ["_law_deed"]) fun _ _ _ _ _ _ us hl => match us, hl with | [_], _ => rfl
  have b10 := F10.binds (ps := ["deed", "stamp"]) fun _ _ _ _ _ _ us hl => match us, hl with | [_, _], _ => rfl
  have b11 := F11.binds (ps := ["_law_deed", "_law_stamp"]) fun _ _ _ _ _ _ us hl => match us, hl with | [_, _], _ => rfl
  have b12 := F12.binds (ps := ["_law_script"]) fun _ _ _ _ _ _ us hl => match us, hl with | [_], _ => rfl
  refine ⟨PySem.W.fnOf "law" "law" (defArgs s_law) (defBody s_law) (defScope s_law) .none kV12 dc12 pm12 an12 cd12 ct12, fun s v => .of_eq rfl, fun base _ _ => ?_⟩
  -- the environment
  have g : FnG l.prog w K mg base CX0 (0 + 6) _ _ ["_law_script"] (lSp l.prog w K 1 D_law) := ok_law (⟨f1, _, F1, b1, PySem.W.mg_of X G a1, f2, _, F2, b2, PySem.W.mg_of X G a2, f3, _, F3, b3, PySem.W.mg_of X G a3, f4, _, F4, b4, PySem.W.mg_of X G a4, f5, _, F5, b5, PySem.W.mg_of X G a5, f6, _, F6, b6, PySem.W.mg_of X G a6, f7, _, F7, b7, PySem.W.mg_of X G a7, f8, _, F8, b8, PySem.W.mg_of X G a8, f9, _, F9, b9, PySem.W.mg_of X G a9, f10, _, F10, b10, PySem.W.mg_of X G a10, f11, _, F11, b11, PySem.W.mg_of X G a11, _, _, F12, b12, PySem.W.mg_of X G a12, PySem.W.mg_none_of X G z_abs, PySem.W.mg_none_of X G z_all, PySem.W.mg_none_of X G z_any, PySem.W.mg_none_of X G z_bool, PySem.W.mg_none_of X G z_dict, PySem.W.mg_none_of X G z_enumerate, PySem.W.mg_none_of X G z_isinstance, PySem.W.mg_none_of X G z_len, PySem.W.mg_none_of X G z_list, PySem.W.mg_none_of X G z_max, PySem.W.mg_none_of X G z_min, PySem.W.mg_none_of X G z_range, PySem.W.mg_none_of X G z_sorted, PySem.W.mg_none_of X G z_tuple, kt⟩ : Env K mg) 0
  exact g
end K15

/-! KS0: the store told by a list of places. -/
namespace KB
open PySem PySem.Spec PyProof.Rows
open L2 hiding op_eqD op_neD call_listD
/-- a place, what stands there, whether it may be written -/
abbrev Ent := Addr × Cell × Bool
structure St (S : Addr → Prop) (C0 C : Cp) (L : List Ent) : Prop where
  kp : Kp S C0 C
  at_ : ∀ e ∈ L, C e.1 = some e.2.1
  nd : (L.map (·.1)).Nodup
  wr : ∀ e ∈ L, e.2.2 = true → S e.1 ∨ C0 e.1 = none
inductive At : List Ent → Addr → Cell → Prop
  | here {p : Addr} {c : Cell} {b : Bool} {L : List Ent} : At ((p, c, b) :: L) p c
  | there {e : Ent} {L : List Ent} {p : Addr} {c : Cell} : At L p c → At (e :: L) p c
inductive Upd : List Ent → Addr → Cell → Cell → List Ent → Prop
  | here {p : Addr} {c c' : Cell} {L : List Ent} : Upd ((p, c, true) :: L) p c c' ((p, c', true) :: L)
  | there {e : Ent} {L L' : List Ent} {p : Addr} {c c' : Cell} : Upd L p c c' L' → Upd (e :: L) p c c' (e :: L')
inductive Del : List Ent → Addr → Cell → Bool → List Ent → Prop
  | here {p : Addr} {c : Cell} {b : Bool} {L : List Ent} : Del ((p, c, b) :: L) p c b L
  | there {e : Ent} {L L' : List Ent} {p : Addr} {c : Cell} {b : Bool} : Del L p c b L' → Del (e :: L) p c b (e :: L')
theorem At.mem {L : List Ent} {p : Addr} {c : Cell} (h : At L p c) : ∃ b, (p, c, b) ∈ L := by
  induction h with
  | here => exact ⟨_, List.mem_cons_self⟩
  | there _ ih => obtain ⟨b, h⟩ := ih; exact ⟨b, List.mem_cons_of_mem _ h⟩
theorem Upd.at {L L' : List Ent} {p : Addr} {c c' : Cell} (h : Upd L p c c' L') : At L p c := by
  induction h with
  | here => exact .here
  | there _ ih => exact .there ih
theorem Upd.keys {L L' : List Ent} {p : Addr} {c c' : Cell} (h : Upd L p c c' L') : L'.map (·.1) = L.map (·.1) := by
  induction h with
  | here => rfl
  | there _ ih => rw [List.map_cons, List.map_cons, ih]
theorem Upd.own {L L' : List Ent} {p : Addr} {c c' : Cell} (h : Upd L p c c' L') : (p, c, true) ∈ L := by
  induction h with
  | here => exact List.mem_cons_self
  | there _ ih => exact List.mem_cons_of_mem _ ih
theorem Upd.mem {L L' : List Ent} {p : Addr} {c c' : Cell} (h : Upd L p c c' L') (nd : (L.map (·.1)).Nodup) : ∀ e ∈ L', e = (p, c', true) ∨ (e ∈ L ∧ e.1 ≠ p) := by
  induction h with
  | @here p c c' L =>
    intro e he
    rcases List.mem_cons.mp he with h | h
    · exact .inl h
    · refine .inr ⟨List.mem_cons_of_mem _ h, fun z => ?_⟩
      have := (List.nodup_cons.mp nd).1
      exact this (by rw [← z]; exact List.mem_map.mpr ⟨e, h, rfl⟩)
  | @there e0 L L' p c c' u ih =>
    intro e he
    have nd2 := List.nodup_cons.mp nd
    rcases List.mem_cons.mp he with h | h
    · subst h
      refine .inr ⟨List.mem_cons_self, fun z => ?_⟩
      exact nd2.1 (show e.1 ∈ _ by rw [z]; exact List.mem_map.mpr ⟨_, u.own, rfl⟩)
    · rcases ih nd2.2 e h with h | ⟨h1, h2⟩
      · exact .inl h
      · exact .inr ⟨List.mem_cons_of_mem _ h1, h2⟩
theorem Del.mem {L L' : List Ent} {p : Addr} {c : Cell} {b : Bool} (h : Del L p c b L') : (p, c, b) ∈ L ∧ L.Perm ((p, c, b) :: L') := by
  induction h with
  | here => exact ⟨List.mem_cons_self, .refl _⟩
  | @there e L L' p c b _ ih => exact ⟨List.mem_cons_of_mem _ ih.1, (ih.2.cons e).trans (.swap _ _ _)⟩
section
variable {S : Addr → Prop} {C0 C : Cp} {L L' L1 : List Ent} {p q : Addr} {c c' : Cell}
theorem St.get (h : St S C0 C L) (a : At L p c) : C p = some c := by
  obtain ⟨b, m⟩ := a.mem
  exact h.at_ _ m
theorem St.put (h : St S C0 C L) (u : Upd L p c c' L') : St S C0 (up C p c') L' := by
  have hp := h.wr _ u.own rfl
  refine ⟨fun r c2 hr e => ?_, fun e he => ?_, by rw [u.keys]; exact h.nd, fun e he hb => ?_⟩
  · have : r ≠ p := fun z => by
      subst z
      rcases hp with hp | hp
      · exact hr hp
      · rw [hp] at e; cases e
    rw [up_ne this]
    exact h.kp r c2 hr e
  · rcases u.mem h.nd e he with z | ⟨z1, z2⟩
    · subst z; exact up_same
    · rw [up_ne z2]; exact h.at_ e z1
  · rcases u.mem h.nd e he with z | ⟨z1, z2⟩
    · subst z; exact hp
    · exact h.wr e z1 hb
theorem St.new (h : St S C0 C L) (hp : C p = none) : St S C0 (up C p c) ((p, c, true) :: L) := by
  have ne : ∀ e ∈ L, e.1 ≠ p := fun e he z => by
    have := h.at_ e he
    rw [z, hp] at this
    cases this
  refine ⟨h.kp.new hp, fun e he => ?_, ?_, fun e he hb => ?_⟩
  · rcases List.mem_cons.mp he with z | z
    · subst z; exact up_same
    · rw [up_ne (ne e z)]; exact h.at_ e z
  · rw [List.map_cons]
    refine List.nodup_cons.mpr ⟨fun m => ?_, h.nd⟩
    obtain ⟨e, he, z⟩ := List.mem_map.mp m
    exact ne e he z
  · rcases List.mem_cons.mp he with z | z
    · subst z
      show S p ∨ C0 p = none
      rcases Classical.em (S p) with s | s
      · exact .inl s
      · refine .inr ?_
        cases e : C0 p with
        | none => rfl
        | some c0 => rw [h.kp p c0 s e] at hp; cases hp
    · exact h.wr e z hb
theorem St.perm (h : St S C0 C L) (m : L.Perm L') : St S C0 C L' := ⟨h.kp, fun e he => h.at_ e (m.mem_iff.mpr he), (m.map _).nodup_iff.mp h.nd, fun e he => h.wr e (m.mem_iff.mpr he)⟩
theorem St.front {b : Bool} (h : St S C0 C L) (d : Del L p c b L') : St S C0 C ((p, c, b) :: L') := h.perm d.mem.2
theorem St.tail {e : Ent} (h : St S C0 C (e :: L)) : St S C0 C L := ⟨h.kp, fun x hx => h.at_ x (List.mem_cons_of_mem _ hx), by have := h.nd; rw [List.map_cons] at this; exact (List.nodup_cons.mp this).2, fun x hx => h.wr x (List.mem_cons_of_mem _ hx)⟩
theorem St.drop {b : Bool} (h : St S C0 C L) (d : Del L p c b L') : St S C0 C L' := (h.front d).tail
theorem St.snd {e f : Ent} (h : St S C0 C (e :: f :: L)) : St S C0 C (e :: L) := (h.perm (.swap _ _ _)).tail
theorem St.swap {e f : Ent} (h : St S C0 C (e :: f :: L)) : St S C0 C (f :: e :: L) := h.perm (.swap _ _ _)
/-- nothing is told at first -/
theorem St.init : St S C C [] := ⟨Kp.refl C, fun e he => (by cases he), List.nodup_nil, fun e he => (by cases he)⟩
theorem St.add {b : Bool} (h : St S C0 C L) (e : C p = some c) (n : ∀ x ∈ L, x.1 ≠ p) (w : b = true → S p ∨ C0 p = none) : St S C0 C ((p, c, b) :: L) := by
  refine ⟨h.kp, fun x hx => ?_, ?_, fun x hx hb => ?_⟩
  · rcases List.mem_cons.mp hx with z | z
    · subst z; exact e
    · exact h.at_ x z
  · rw [List.map_cons]
    refine List.nodup_cons.mpr ⟨fun m => ?_, h.nd⟩
    obtain ⟨x, hx, z⟩ := List.mem_map.mp m
    exact n x hx z
  · rcases List.mem_cons.mp hx with z | z
    · subst z; exact w hb
    · exact h.wr x z hb
/-- from another beginning -/
theorem St.from {S' : Addr → Prop} {C1 : Cp} {L2 : List Ent} (h : St S C0 C L) (h' : St S' C C1 L2) (hs : ∀ r, S' r → S r ∨ C0 r = none) : St S C0 C1 L2 := by
  refine ⟨fun r c2 hr e => ?_, h'.at_, h'.nd, fun e he hb => ?_⟩
  · refine h'.kp r c2 (fun z => ?_) (h.kp r c2 hr e)
    rcases hs r z with z | z
    · exact hr z
    · rw [z] at e; cases e
  · rcases h'.wr e he hb with z | z
    · exact hs _ z
    · rcases Classical.em (S e.1) with s | s
      · exact .inl s
      · refine .inr ?_
        cases e0 : C0 e.1 with
        | none => rfl
        | some c0 => rw [h.kp _ c0 s e0] at z; cases z
/-! ### steps -/
variable {Q : DQ} {R : Cp → Prop} {i : Int} {d v y : D} {xs ys : List D}
/-- a new thing is made -/
def alloc (c : Cell) (C : Cp) (Q : DQ) : Prop := ∀ p, C p = none → Q (.ptr p) (up C p c)
theorem alloc_st (h : St S C0 C L) (k : ∀ p C', St S C0 C' ((p, c, true) :: L) → Q (.ptr p) C') : alloc c C Q := fun p hp => k p _ (h.new hp)
theorem dLst_e {t : DA} {s : Sl} : dLst t s C Q = t s C fun ds C1 => ds.length ≤ 1000 ∧ alloc (.lst ds) C1 Q := rfl
theorem dEmp_e {s : Sl} : dEmp s C Q = alloc (.dk []) C Q := rfl
theorem dEmpG_e {s : Sl} : dEmpG s C Q = alloc (.dg []) C Q := rfl
theorem dDisp_e {trs : List (DE × DE)} {s : Sl} : dDisp trs s C Q = dPairs trs s C fun ps C2 => ∃ kvs : List (DKey × D), ps = kvs.map (fun kv => (keyD kv.1, kv.2)) ∧ kvs.length ≤ 15 ∧ alloc (.dk (mergeA [] kvs)) C2 Q := rfl
theorem ix_st (h : St S C0 C L) (a : At L p (.lst xs)) (e : atI xs i = some d) (k : Q d C) : ixD (.ptr p) (.int i) C Q := ix_l (.inl (h.get a)) e k
theorem ixf_st (h : St S C0 C L) (a : At L p (.fz xs)) (e : atI xs i = some d) (k : Q d C) : ixD (.ptr p) (.int i) C Q := ix_l (.inr (h.get a)) e k
theorem ix_t (e : atI xs i = some d) (k : Q d C) : ixD (.tup xs) (.int i) C Q := ⟨d, e, k⟩
theorem ix_s {l : List Nat} {a : Nat} (z : l.length ≤ sizeLine) (e : atI l i = some a) (k : Q (.str [a]) C) : ixD (.str l) (.int i) C Q := ⟨z, a, e, k⟩
theorem set_st {j : Nat} (h : St S C0 C L) (e : ixN xs.length i = some j) (u : Upd L p (.lst xs) (.lst (xs.set j v)) L') (k : ∀ C', St S C0 C' L' → R C') : setR (.ptr p) (.int i) v C R := set_l (h.get u.at) e (k _ (h.put u))
theorem len_st (h : St S C0 C L) (a : At L p (.lst xs)) (k : Q (.int (xs.length : Int)) C) : lenR [.ptr p] C Q := len_l (.inl (h.get a)) k
theorem lenf_st (h : St S C0 C L) (a : At L p (.fz xs)) (k : Q (.int (xs.length : Int)) C) : lenR [.ptr p] C Q := len_l (.inr (h.get a)) k
theorem app_st (h : St S C0 C L) (z : xs.length < sizeLine) (u : Upd L p (.lst xs) (.lst (xs ++ [y])) L') (k : ∀ C', St S C0 C' L' → Q .non C') : appendR (.ptr p) [y] C Q := app_l (h.get u.at) z (k _ (h.put u))
theorem ext_st (h : St S C0 C L) (a : At L q (.lst ys)) (z : xs.length + ys.length ≤ sizeLine) (u : Upd L p (.lst xs) (.lst (xs ++ ys)) L') (k : ∀ C', St S C0 C' L' → Q .non C') : extendR (.ptr p) [.ptr q] C Q := ⟨p, q, xs, ys, rfl, rfl, h.get u.at, h.get a, z, k _ (h.put u)⟩
theorem pop_st (h : St S C0 C L) (e : xs[xs.length - 1]? = some d) (u : Upd L p (.lst xs) (.lst xs.dropLast) L') (k : ∀ C', St S C0 C' L' → Q d C') : popR (.ptr p) [] C Q := pop_l (h.get u.at) e (k _ (h.put u))
theorem rev_st (h : St S C0 C L) (u : Upd L p (.lst xs) (.lst xs.reverse) L') (k : ∀ C', St S C0 C' L' → Q .non C') : revR (.ptr p) [] C Q := ⟨p, xs, rfl, rfl, h.get u.at, k _ (h.put u)⟩
theorem ty_st (h : St S C0 C L) (a : At L p (.lst xs)) : tyD C "list" (.ptr p) := tyL (.inl (h.get a))
theorem add_st (h : St S C0 C L) (a : At L p (.lst xs)) (b : At L q (.lst ys)) (z : xs.length + ys.length ≤ sizeLine) (k : ∀ r C', St S C0 C' ((r, .lst (xs ++ ys), true) :: L) → Q (.ptr r) C') : addD (.ptr p) (.ptr q) C Q := ⟨xs, ys, h.get a, h.get b, z, fun r hr => k r _ (h.new hr)⟩
theorem mul_st {m : Int} (h : St S C0 C L) (a : At L p (.lst xs)) (z : 0 ≤ m ∧ m < 2 ^ 20 ∧ xs.length * m.toNat ≤ sizeLine) (k : ∀ r C', St S C0 C' ((r, .lst (List.replicate m.toNat xs).flatten, true) :: L) → Q (.ptr r) C') : mulD (.ptr p) (.int m) C Q := ⟨xs, h.get a, by omega, by omega, z.2.2, fun r hr => k r _ (h.new hr)⟩
theorem mulS_st {l : List Nat} {m : Int} (z : 0 ≤ m ∧ m < 2 ^ 20 ∧ l.length * m.toNat ≤ sizeLine) (k : Q (.str (List.replicate m.toNat l).flatten) C) : mulSD (.str l) (.int m) C Q := ⟨l, m, rfl, rfl, by omega, by omega, z.2.2, k⟩
theorem sl_st {lo hi : Option Int} (h : St S C0 C L) (a : At L p (.lst xs)) (k : ∀ r C', St S C0 C' ((r, .lst (cutL xs lo hi), true) :: L) → Q (.ptr r) C') : slD (.ptr p) lo hi C Q := sl_l (.inl (h.get a)) fun r hr => k r _ (h.new hr)
theorem slf_st {lo hi : Option Int} (h : St S C0 C L) (a : At L p (.fz xs)) (k : ∀ r C', St S C0 C' ((r, .lst (cutL xs lo hi), true) :: L) → Q (.ptr r) C') : slD (.ptr p) lo hi C Q := sl_l (.inr (h.get a)) fun r hr => k r _ (h.new hr)
theorem listL_st (h : St S C0 C L) (a : At L p (.lst xs)) (k : ∀ r C', St S C0 C' ((r, .lst xs, true) :: L) → Q (.ptr r) C') : listR [.ptr p] C Q := list_l (show itemsD C (.ptr p) xs from .inl (h.get a)) fun r hr => k r _ (h.new hr)
theorem listT_st (h : St S C0 C L) (k : ∀ r C', St S C0 C' ((r, .lst xs, true) :: L) → Q (.ptr r) C') : listR [.tup xs] C Q := list_l (show itemsD C (.tup xs) xs from rfl) fun r hr => k r _ (h.new hr)
theorem tup_st (h : St S C0 C L) (a : At L p (.lst xs)) (k : Q (.tup xs) C) : tupleR [.ptr p] C Q := tuple_l (show itemsD C (.ptr p) xs from .inl (h.get a)) k
theorem tupT (k : Q (.tup xs) C) : tupleR [.tup xs] C Q := tuple_l (show itemsD C (.tup xs) xs from rfl) k
theorem sorted_st (h : St S C0 C L) (a : At L p (.lst xs)) (o : SortOk xs) (k : ∀ r C', St S C0 C' ((r, .lst (xs.mergeSort leP), true) :: L) → Q (.ptr r) C') : sortedR [.ptr p] C Q := sorted_l (show collD C (.ptr p) xs from .inl (.inl (h.get a))) o fun r hr => k r _ (h.new hr)
theorem sortedT_st (h : St S C0 C L) (o : SortOk xs) (k : ∀ r C', St S C0 C' ((r, .lst (xs.mergeSort leP), true) :: L) → Q (.ptr r) C') : sortedR [.tup xs] C Q := sorted_l (show collD C (.tup xs) xs from rfl) o fun r hr => k r _ (h.new hr)
theorem setL_st (h : St S C0 C L) (a : At L p (.lst xs)) (o : SetOk xs) (k : ∀ r ys C', ys.Nodup → (∀ x, x ∈ ys ↔ x ∈ xs) → ys.length ≤ xs.length → St S C0 C' ((r, .st ys, true) :: L) → Q (.ptr r) C') : setNR [.ptr p] C Q := ⟨.ptr p, xs, rfl, .inl (h.get a), o, fun ys r n m z hr => k r ys _ n m z (h.new hr)⟩
theorem setT_st (h : St S C0 C L) (o : SetOk xs) (k : ∀ r ys C', ys.Nodup → (∀ x, x ∈ ys ↔ x ∈ xs) → ys.length ≤ xs.length → St S C0 C' ((r, .st ys, true) :: L) → Q (.ptr r) C') : setNR [.tup xs] C Q := ⟨.tup xs, xs, rfl, rfl, o, fun ys r n m z hr => k r ys _ n m z (h.new hr)⟩
theorem sortedS_st (h : St S C0 C L) (a : At L p (.st ys)) (o : ∀ zs : List D, zs.Perm ys → SortOk zs) (k : ∀ (zs : List D) r C', zs.Perm ys → St S C0 C' ((r, .lst (zs.mergeSort leP), true) :: L) → Q (.ptr r) C') : sortedSR [.ptr p] C Q := ⟨p, ys, rfl, h.get a, o, fun zs r m hr => k zs r _ m (h.new hr)⟩
theorem zipL_st {ta : DA} {s : Sl} (h : ta s C fun ds C1 => ∃ pa pb xs ys, ds = [.ptr pa, .ptr pb] ∧ isL C1 pa xs ∧ isL C1 pb ys ∧ NRz xs ys ∧ alloc (.lst (pairD xs ys)) C1 Q) : dListZip ta s C Q := h
theorem dListZip_e {ta : DA} {s : Sl} : dListZip ta s C Q = ta s C fun ds C1 => ∃ pa pb xs ys, ds = [.ptr pa, .ptr pb] ∧ isL C1 pa xs ∧ isL C1 pb ys ∧ NRz xs ys ∧ alloc (.lst (pairD xs ys)) C1 Q := rfl
theorem inL_st {n : Bool} (h : St S C0 C L) (a : At L p (.lst xs)) (o : npt d = true) (b : okEqs xs) (k : Q (.bl (if n then !memD xs d else memD xs d)) C) : inR n d (.ptr p) C Q := inR_l (.inl (h.get a)) o b k
theorem eqL_st {n : Bool} (h : St S C0 C L) (a : At L p (.lst xs)) (b : At L q (.lst ys)) (o : okEqs xs) (o2 : npts ys = true) (k : Q (.bl (if n then !eqDs xs ys else eqDs xs ys)) C) : eqR n (.ptr p) (.ptr q) C Q := eqR_pp (.inl (h.get a)) (.inl (h.get b)) o o2 k
theorem any_st {bs : List Bool} (h : St S C0 C L) (a : At L p (.lst (bs.map D.bl))) (k : Q (.bl (bs.any id)) C) : anyR [.ptr p] C Q := ⟨p, bs, rfl, .inl (h.get a), k⟩
theorem all_st {bs : List Bool} (h : St S C0 C L) (a : At L p (.lst (bs.map D.bl))) (k : Q (.bl (bs.all id)) C) : allR [.ptr p] C Q := ⟨p, bs, rfl, .inl (h.get a), k⟩
theorem join_st {a : List Nat} {zs : List (List Nat)} (h : St S C0 C L) (m : At L p (.lst (zs.map D.str))) (z : (zs.map List.length).sum + zs.length * a.length ≤ 16777216) (k : Q (.str (joinD a zs)) C) : joinR (.str a) [.ptr p] C Q := ⟨a, .ptr p, zs, rfl, rfl, .inl (h.get m), z, k⟩
theorem joinT {a : List Nat} {zs : List (List Nat)} (z : (zs.map List.length).sum + zs.length * a.length ≤ 16777216) (k : Q (.str (joinD a zs)) C) : joinR (.str a) [.tup (zs.map D.str)] C Q := ⟨a, .tup (zs.map D.str), zs, rfl, rfl, rfl, z, k⟩
theorem int_b {b : Bool} (k : Q (.int (if b = true then 1 else 0)) C) : intR [.bl b] C Q := .inr ⟨b, rfl, k⟩
theorem int_i (k : Q (.int i) C) : intR [.int i] C Q := .inl ⟨i, rfl, k⟩
theorem intR_b {b : Bool} : intR [.bl b] C Q = Q (.int (if b = true then 1 else 0)) C := by
  unfold intR
  refine propext ⟨?_, fun h => .inr ⟨b, rfl, h⟩⟩
  rintro (⟨i, e, h⟩ | ⟨b', e, h⟩)
  · cases e
  · cases e; exact h
theorem intR_i : intR [.int i] C Q = Q (.int i) C := by
  unfold intR
  refine propext ⟨?_, fun h => .inl ⟨i, rfl, h⟩⟩
  rintro (⟨j, e, h⟩ | ⟨b', e, h⟩)
  · cases e; exact h
  · cases e
theorem lenR_t : lenR [.tup xs] C Q = Q (.int (xs.length : Int)) C := by
  refine propext ⟨?_, fun h => len_t h⟩
  rintro ⟨d, n, e, hl, h⟩
  cases e
  have hl : n = xs.length := hl
  rw [hl] at h; exact h
theorem lenR_s {l : List Nat} : lenR [.str l] C Q = (l.length ≤ sizeLine ∧ Q (.int (l.length : Int)) C) := by
  refine propext ⟨?_, fun h => len_s h.1 h.2⟩
  rintro ⟨d, n, e, hl, h⟩
  cases e
  obtain ⟨z, hl⟩ : l.length ≤ sizeLine ∧ n = l.length := hl
  rw [hl] at h; exact ⟨z, h⟩
theorem tupleR_t : tupleR [.tup xs] C Q = Q (.tup xs) C := by
  refine propext ⟨?_, fun h => tupT h⟩
  rintro ⟨d, ys, e, hl, h⟩
  cases e
  have hl : ys = xs := hl
  rw [hl] at h; exact h
/-! loops -/
def forK (items : List D) (ok : Cp → Prop) (g : DG) (tb : DS) (D : DEnds) (s : Sl) (C1 : Cp) : Prop := ∃ Pv : Nat → Sl → Cp → Prop, Pv 0 s C1 ∧ (∀ i s C, i ≤ items.length → Pv i s C → ok C) ∧
  (∀ i x s C, items[i]? = some x → Pv i s C → g x s C fun s2 C2 => tb { D with nx := fun s' C' => ∃ C'', Sub C'' C' ∧ Pv (i + 1) s' C'', ct := fun s' C' => ∃ C'', Sub C'' C' ∧ Pv (i + 1) s' C'', bk := D.nx } s2 C2) ∧ ∀ s C, Pv items.length s C → D.nx s C
theorem dFor_e {src : DI} {g : DG} {tb : DS} {D : DEnds} {s : Sl} : dFor src g tb D s C = src s C fun items ok C1 => forK items ok g tb D s C1 := rfl
def lcK (items : List D) (ok : Cp → Prop) (g : DG) (tt : DT) (te : DE) (vs : List Nat) (s : Sl) (C1 : Cp) (Q : DQ) : Prop := ∃ Pv : Nat → List D → Cp → Prop, Pv 0 [] C1 ∧ (∀ i acc C, i ≤ items.length → Pv i acc C → ok C) ∧
  (∀ i x acc C, items[i]? = some x → Pv i acc C → acc.length ≤ i → g x (wipeD s vs) C fun s2 C2 => tt s2 C2 fun b C3 => if b = true then te s2 C3 fun y C4 => ∃ C'', Sub C'' C4 ∧ Pv (i + 1) (acc ++ [y]) C'' else ∃ C'', Sub C'' C3 ∧ Pv (i + 1) acc C'') ∧
  items.length < sizeLine ∧ ∀ acc C p, Pv items.length acc C → C p = none → Q (.ptr p) (up C p (.lst acc))
theorem dLc_e {src : DI} {g : DG} {tt : DT} {te : DE} {vs : List Nat} {s : Sl} : dLc src g tt te vs s C Q = src s C fun items ok C1 => lcK items ok g tt te vs s C1 Q := rfl
def whK (c : DT) (tb : DS) (D : DEnds) (s : Sl) (C : Cp) : Prop := ∃ W : Nat → Sl → Cp → Prop, (∃ m, W m s C) ∧ ∀ m s C, W m s C → c s C fun b C1 => if b = true then tb { D with nx := fun s' C' => ∃ m', m' < m ∧ ∃ C'', Sub C'' C' ∧ W m' s' C'', ct := fun s' C' => ∃ m', m' < m ∧ ∃ C'', Sub C'' C' ∧ W m' s' C'', bk := D.nx } s C1 else D.nx s C1
theorem dWhile_e {c : DT} {tb : DS} {D : DEnds} {s : Sl} : dWhile c tb D s C = whK c tb D s C := rfl
theorem for_st {items : List D} {ok : Cp → Prop} {g : DG} {tb : DS} {D : DEnds} {s : Sl} (I : Nat → Sl → Cp → Prop) (h0 : I 0 s C) (hok : ∀ i s C, I i s C → ok C)
    (hs : ∀ i x s C, i < items.length → items[i]? = some x → I i s C → g x s C fun s2 C2 => tb { D with nx := fun s' C' => ∃ C'', Sub C'' C' ∧ I (i + 1) s' C'', ct := fun s' C' => ∃ C'', Sub C'' C' ∧ I (i + 1) s' C'', bk := D.nx } s2 C2) (hd : ∀ s C, I items.length s C → D.nx s C) : forK items ok g tb D s C :=
  ⟨I, h0, fun i s C _ h => hok i s C h, fun i x s C e h => hs i x s C (List.getElem?_eq_some_iff.mp e).1 e h, hd⟩
theorem forR_st {ok : Cp → Prop} {g : DG} {tb : DS} {D : DEnds} {s : Sl} (n : Nat) (I : Nat → Sl → Cp → Prop) (h0 : I 0 s C) (hok : ∀ C, ok C)
    (hs : ∀ i s C, i < n → I i s C → g (.int (i : Int)) s C fun s2 C2 => tb { D with nx := fun s' C' => ∃ C'', Sub C'' C' ∧ I (i + 1) s' C'', ct := fun s' C' => ∃ C'', Sub C'' C' ∧ I (i + 1) s' C'', bk := D.nx } s2 C2) (hd : ∀ s C, I n s C → D.nx s C) : forK (rngD 0 n) ok g tb D s C := by
  refine for_st I h0 (fun _ _ C _ => hok C) (fun i x s C hi e h => ?_) fun s C h => hd s C (by rw [rngD_len] at h; exact h)
  obtain ⟨h1, h2⟩ := rng_at e
  subst h2
  exact hs i s C h1 h
theorem lc_st {items : List D} {ok : Cp → Prop} {g : DG} {tt : DT} {te : DE} {vs : List Nat} {s : Sl} (I : Nat → List D → Cp → Prop) (h0 : I 0 [] C) (hok : ∀ i acc C, I i acc C → ok C)
    (hs : ∀ i x acc C, i < items.length → items[i]? = some x → acc.length ≤ i → I i acc C → g x (wipeD s vs) C fun s2 C2 => tt s2 C2 fun b C3 => if b = true then te s2 C3 fun y C4 => ∃ C'', Sub C'' C4 ∧ I (i + 1) (acc ++ [y]) C'' else ∃ C'', Sub C'' C3 ∧ I (i + 1) acc C'') (hz : items.length < sizeLine)
    (hd : ∀ acc C, I items.length acc C → alloc (.lst acc) C Q) : lcK items ok g tt te vs s C Q :=
  ⟨I, h0, fun i s C _ h => hok i s C h, fun i x acc C e h ha => hs i x acc C (List.getElem?_eq_some_iff.mp e).1 e ha h, hz, fun acc C p h hp => hd acc C h p hp⟩
theorem lcR_st {ok : Cp → Prop} {g : DG} {tt : DT} {te : DE} {vs : List Nat} {s : Sl} (n : Nat) (I : Nat → List D → Cp → Prop) (h0 : I 0 [] C) (hok : ∀ C, ok C)
    (hs : ∀ i acc C, i < n → acc.length ≤ i → I i acc C → g (.int (i : Int)) (wipeD s vs) C fun s2 C2 => tt s2 C2 fun b C3 => if b = true then te s2 C3 fun y C4 => ∃ C'', Sub C'' C4 ∧ I (i + 1) (acc ++ [y]) C'' else ∃ C'', Sub C'' C3 ∧ I (i + 1) acc C'') (hz : n < sizeLine)
    (hd : ∀ acc C, I n acc C → alloc (.lst acc) C Q) : lcK (rngD 0 n) ok g tt te vs s C Q := by
  refine lc_st I h0 (fun _ _ C _ => hok C) (fun i x acc C hi e ha h => ?_) (by rw [rngD_len]; exact hz) fun acc C h => hd acc C (by rw [rngD_len] at h; exact h)
  obtain ⟨h1, h2⟩ := rng_at e
  subst h2
  exact hs i acc C h1 ha h
/-- a comprehension that changes nothing: f of each -/
theorem lc_map {α : Type} {items : List D} {ok : Cp → Prop} {g : DG} {te : DE} {vs : List Nat} {s : Sl} (xs : List α) (f : α → D) (e : α → D) (hi : items = xs.map e) (h : St S C0 C L) (hok : ∀ C, St S C0 C L → ok C)
    (hs : ∀ x C, x ∈ xs → St S C0 C L → ∀ Q' : DQ, (∀ C', St S C0 C' L → Q' (f x) C') → g (e x) (wipeD s vs) C fun s2 C2 => te s2 C2 Q') (hz : xs.length < sizeLine) (k : ∀ r C', St S C0 C' ((r, .lst (xs.map f), true) :: L) → Q (.ptr r) C') : lcK items ok g dYes te vs s C Q := by
  subst hi
  refine lc_st (fun i acc C => acc = (xs.map f).take i ∧ St S C0 C L) ⟨by simp, h⟩ (fun _ _ C ⟨_, h⟩ => hok C h) (fun i x acc C hi ex ha ⟨e1, h⟩ => ?_) (by rw [List.length_map]; exact hz) fun acc C ⟨e1, h⟩ => ?_
  · rw [List.length_map] at hi
    rw [List.getElem?_map, List.getElem?_eq_getElem hi] at ex
    cases ex
    have := hs xs[i] C (List.getElem_mem hi) h (fun y C4 => ∃ C'', Sub C'' C4 ∧ acc ++ [y] = (xs.map f).take (i + 1) ∧ St S C0 C'' L) fun C' h' => ⟨C', Sub.refl _, by rw [e1, List.take_add_one, List.getElem?_map, List.getElem?_eq_getElem hi]; rfl, h'⟩
    simp only [dYes, if_true]
    exact this
  · subst e1
    rw [List.length_map, List.take_of_length_le (by rw [List.length_map]; exact Nat.le_refl _)]
    exact alloc_st h k
theorem ret_k (k : Q d C) : ∃ C'', Sub C'' C ∧ Q d C'' := ⟨C, Sub.refl C, k⟩
theorem retN_k {G : Sl → Cp → Prop} {s : Sl} (k : G s C) : ∃ C'', Sub C'' C ∧ G s C'' := ⟨C, Sub.refl C, k⟩
theorem fld_st {n f : Str} {fs : Fs} {s : Sl} {to : DE} (h : to s C fun x C1 => ∃ p fs v, x = .ptr p ∧ C1 p = some (.ins n fs) ∧ lookF fs f = some v ∧ Q v C1) : dFld n f to s C Q := h
end
end KB

/-! KP: the readings' equations as lemmas that are not definitional. -/
namespace KB
open PySem PySem.Spec PyProof.Rows
open L2 hiding op_eqD op_neD call_listD
variable {C : Cp} {Q : DQ} {d : D} {xs ys : List D}
theorem dRng1_p {t : DA} {s} {C} {R} : dRng1 t s C R = (t s C fun ds C1 => ∃ j : Int, ds = [.int j] ∧ -(2 ^ 62) ≤ j ∧ j < 2 ^ 62 ∧ R (rngD 0 j.toNat) (fun _ => True) C1) := propext Iff.rfl
theorem dRng2_p {t : DA} {s} {C} {R} : dRng2 t s C R = (t s C fun ds C1 => ∃ i j : Int, ds = [.int i, .int j] ∧ (-(2 ^ 62) ≤ i ∧ i < 2 ^ 62 ∧ -(2 ^ 62) ≤ j ∧ j < 2 ^ 62) ∧ R (rngD i (j - i).toNat) (fun _ => True) C1) := propext Iff.rfl
theorem dOver_p {t : DE} {s} {C} {R} : dOver t s C R = (t s C fun x C1 => match x with
  | .ptr p => ∃ ds, isL C1 p ds ∧ R ds (fun C => isL C p ds) C1
  | _ => False) := propext Iff.rfl
theorem dOverT_p {t : DE} {s} {C} {R} : dOverT t s C R = (t s C fun x C1 => match x with
  | .tup ds => R ds (fun _ => True) C1
  | _ => False) := propext Iff.rfl
theorem dOverS_p {t : DE} {s} {C} {R} : dOverS t s C R = (t s C fun x C1 => match x with
  | .str l => R (l.map fun c => .str [c]) (fun _ => True) C1
  | _ => False) := propext Iff.rfl
theorem dAltI_p {t u : DI} {s} {C} {Q} : dAltI t u s C Q = (t s C Q ∨ u s C Q) := propext Iff.rfl
theorem dEnum_p {t : DA} {s} {C} {R} : dEnum t s C R = (t s C fun ds C1 => ∃ p xs, ds = [.ptr p] ∧ isL C1 p xs ∧ R (pairD (rngD 0 xs.length) xs) (fun C => isL C p xs) C1) := propext Iff.rfl
theorem dZip_p {t : DA} {s} {C} {R} : dZip t s C R = (t s C fun ds C1 => ∃ p q xs ys, ds = [.ptr p, .ptr q] ∧ isL C1 p xs ∧ isL C1 q ys ∧ NRz xs ys ∧ R (pairD xs ys) (fun C => isL C p xs ∧ isL C q ys) C1) := propext Iff.rfl
theorem dSeq_p {t u : DS} {D} {s} {C} : dSeq t u D s C = (t { D with nx := u D } s C) := propext Iff.rfl
theorem dChain_p {r r' : D → D → Cp → DQ → Prop} {ta tb tc : DE} {s} {C} {Q} : dChain r r' ta tb tc s C Q = (ta s C fun x C1 => tb s C1 fun y C2 => r x y C2 fun z C3 => ∃ k, z = .bl k ∧ (if k = true then tc s C3 fun w C4 => r' y w C4 Q else Q (.bl false) C3)) := propext Iff.rfl
theorem dOrT_p {ta tb : DE} {s} {C} {Q} : dOrT ta tb s C Q = (ta s C fun x C1 => ∃ k, truD C1 x k ∧ if k = true then Q x C1 else tb s C1 Q) := propext Iff.rfl
theorem dAndT_p {ta tb : DE} {s} {C} {Q} : dAndT ta tb s C Q = (ta s C fun x C1 => ∃ k, truD C1 x k ∧ if k = true then tb s C1 Q else Q x C1) := propext Iff.rfl
theorem dNotT_p {ta : DE} {s} {C} {Q} : dNotT ta s C Q = (ta s C fun x C1 => ∃ k, truD C1 x k ∧ Q (.bl (!k)) C1) := propext Iff.rfl
theorem dAsg_p {te : DE} {g : DG} {D} {s} {C} : dAsg te g D s C = (te s C fun x C1 => g x s C1 D.nx) := propext Iff.rfl
theorem dOp_p {r : D → D → Cp → DQ → Prop} {ta tb : DE} {s} {C} {Q} : dOp r ta tb s C Q = (ta s C fun x C1 => tb s C1 fun y C2 => r x y C2 Q) := propext Iff.rfl
theorem dVar_p {i : Nat} {s} {C} {Q} : dVar i s C Q = (∃ d, s[i]? = some (some d) ∧ Q d C) := propext Iff.rfl
theorem dC_p {d : D} {u0} {C} {Q} : dC d u0 C Q = (Q d C) := propext Iff.rfl
theorem gNm_p {i : Nat} {d} {s} {C} {Q} : gNm i d s C Q = (Q (s.set i (some d)) C) := propext Iff.rfl
theorem gTp_p {n : Nat} {t : DGs} {d} {s} {C} {Q} : gTp n t d s C Q = (∃ ds, d = .tup ds ∧ ds.length = n ∧ t ds s C Q) := propext Iff.rfl
theorem gCn_p {t : DG} {u : DGs} {ds} {s} {C} {Q} : gCn t u ds s C Q = (∃ d r, ds = d :: r ∧ t d s C fun s' C' => u r s' C' Q) := propext Iff.rfl
theorem gNl_p {ds} {s} {C} {Q} : gNl  ds s C Q = (ds = [] ∧ Q s C) := propext Iff.rfl
theorem dRet_p {t : DE} {D} {s} {C} : dRet t D s C = (t s C D.rt) := propext Iff.rfl
theorem dIf_p {c : DT} {t u : DS} {D} {s} {C} : dIf c t u D s C = (c s C fun b C1 => if b = true then t D s C1 else u D s C1) := propext Iff.rfl
theorem dTest_p {t : DE} {s} {C} {Q} : dTest t s C Q = (t s C fun d C1 => ∃ b, d = .bl b ∧ Q b C1) := propext Iff.rfl
theorem dTru_p {t : DE} {s} {C} {Q} : dTru t s C Q = (t s C fun d C1 => ∃ k, truD C1 d k ∧ Q k C1) := propext Iff.rfl
theorem dNot_p {t : DT} {s} {C} {Q} : dNot t s C Q = (t s C fun c C1 => Q (!c) C1) := propext Iff.rfl
theorem dAnd_p {t u : DT} {s} {C} {Q} : dAnd t u s C Q = (t s C fun c C1 => if c = true then u s C1 Q else Q false C1) := propext Iff.rfl
theorem dOr_p {t u : DT} {s} {C} {Q} : dOr t u s C Q = (t s C fun c C1 => if c = true then Q true C1 else u s C1 Q) := propext Iff.rfl
theorem dNext_p {D} {s} {C} : dNext  D s C = (D.nx s C) := propext Iff.rfl
theorem dDrop_p {t : DE} {D} {s} {C} : dDrop t D s C = (t s C fun _ C1 => D.nx s C1) := propext Iff.rfl
theorem dCons_p {t : DE} {u : DA} {s} {C} {Q} : dCons t u s C Q = (t s C fun x C1 => u s C1 fun xs C2 => Q (x :: xs) C2) := propext Iff.rfl
theorem dNil_p {u0} {C} {Q} : dNil  u0 C Q = (Q [] C) := propext Iff.rfl
theorem dTup_p {t : DA} {s} {C} {Q} : dTup t s C Q = (t s C fun ds C1 => ds.length ≤ 1000 ∧ Q (.tup ds) C1) := propext Iff.rfl
theorem dFld_p {n f : Str} {to : DE} {s} {C} {Q} : dFld n f to s C Q = (to s C fun x C1 => ∃ p fs v, x = .ptr p ∧ C1 p = some (.ins n fs) ∧ lookF fs f = some v ∧ Q v C1) := propext Iff.rfl
theorem dPar_p {i j : Nat} {ta : DA} {D} {s} {C} : dPar i j ta D s C = (ta s C fun ds C1 => ∃ v w, ds = [v, w] ∧ D.nx ((s.set i (some v)).set j (some w)) C1) := propext Iff.rfl
theorem dPar3_p {i j l : Nat} {ta : DA} {D} {s} {C} : dPar3 i j l ta D s C = (ta s C fun ds C1 => ∃ u v w, ds = [u, v, w] ∧ D.nx (((s.set i (some u)).set j (some v)).set l (some w)) C1) := propext Iff.rfl
theorem dSetI_p {to ti tv : DE} {D} {s} {C} : dSetI to ti tv D s C = (tv s C fun v C1 => to s C1 fun x C2 => ti s C2 fun y C3 => setR x y v C3 fun C4 => D.nx s C4) := propext Iff.rfl
theorem dCall_p {F : DSp} {dd : List D} {t : DA} {s} {C} {Q} : dCall F dd t s C Q = (t s C fun ds C1 => F (ds ++ dd) C1 Q fun _ _ => False) := propext Iff.rfl
theorem dCB_p {r : List D → Cp → DQ → Prop} {t : DA} {s} {C} {Q} : dCB r t s C Q = (t s C fun ds C1 => r ds C1 Q) := propext Iff.rfl
theorem dBM_p {T : String} {r : D → List D → Cp → DQ → Prop} {to : DE} {t : DA} {s} {C} {Q} : dBM T r to t s C Q = (to s C fun d C1 => tyD C1 T d ∧ t s C1 fun ds C2 => r d ds C2 Q) := propext Iff.rfl
theorem dBM0_p {T : String} {r : D → List D → Cp → DQ → Prop} {to : DE} {s} {C} {Q} : dBM0 T r to s C Q = (to s C fun d C1 => tyD C1 T d ∧ r d [] C1 Q) := propext Iff.rfl
theorem dIfE_p {t : DT} {ta tb : DE} {s} {C} {Q} : dIfE t ta tb s C Q = (t s C fun c C1 => if c = true then ta s C1 Q else tb s C1 Q) := propext Iff.rfl
theorem dNeg_p {ta : DE} {s} {C} {Q} : dNeg ta s C Q = (ta s C fun x C1 => ∃ i, x = .int i ∧ Q (.int (-i)) C1) := propext Iff.rfl
theorem dSl_p {te : DE} {tl th : DO} {s} {C} {Q} : dSl te tl th s C Q = (te s C fun x C1 => tl s C1 fun l C2 => th s C2 fun u C3 => slD x l u C3 Q) := propext Iff.rfl
theorem dPart_p {t : DE} {s} {C} {Q} : dPart t s C Q = (t s C fun x C1 => ∃ i, x = .int i ∧ Q (some i) C1) := propext Iff.rfl
theorem dNoP_p {u0} {C} {Q} : dNoP  u0 C Q = (Q none C) := propext Iff.rfl
theorem dAug_p {i : Nat} {te : DE} {r : D → D → Cp → DQ → Prop} {D} {s} {C} : dAug i te r D s C = (∃ x, s[i]? = some (some x) ∧ te s C fun y C1 => r x y C1 fun z C2 => D.nx (s.set i (some z)) C2) := propext Iff.rfl
theorem addI_p {x} {y} {C} {Q} : addI  x y C Q = (∃ i j, x = .int i ∧ y = .int j ∧ Q (.int (i + j)) C) := propext Iff.rfl
theorem dBreak_p {D} {s} {C} : dBreak  D s C = (D.bk s C) := propext Iff.rfl
theorem dCont_p {D} {s} {C} : dCont  D s C = (D.ct s C) := propext Iff.rfl
theorem dAlt_p {t u : DE} {s} {C} {Q} : dAlt t u s C Q = (t s C Q ∨ u s C Q) := propext Iff.rfl
theorem dYes_p {u0} {C} {Q} : dYes  u0 C Q = (Q true C) := propext Iff.rfl
theorem gSubD_p {to ti : DE} {d} {s} {C} {Q} : gSubD to ti d s C Q = (to s C fun x C1 => ti s C1 fun y C2 => setR x y d C2 fun C3 => Q s C3) := propext Iff.rfl
theorem dBMd_p {r : D → List D → Cp → DQ → Prop} {to : DE} {t : DA} {s} {C} {Q} : dBMd r to t s C Q = (to s C fun d C1 => (∃ p, d = .ptr p ∧ isDk C1 p) ∧ t s C1 fun ds C2 => r d ds C2 Q) := propext Iff.rfl
theorem isNR_p {neg : Bool} {x} {y} {C} {Q} : isNR neg x y C Q = (y = .non ∧ Q (.bl (match x with | .non => !neg | _ => neg)) C) := propext Iff.rfl
theorem dFor_e_p {src : DI} {g : DG} {tb : DS} {D : DEnds} {s : Sl} : dFor src g tb D s C = src s C fun items ok C1 => forK items ok g tb D s C1 := propext Iff.rfl
theorem dLc_e_p {src : DI} {g : DG} {tt : DT} {te : DE} {vs : List Nat} {s : Sl} : dLc src g tt te vs s C Q = src s C fun items ok C1 => lcK items ok g tt te vs s C1 Q := propext Iff.rfl
theorem dWhile_e_p {c : DT} {tb : DS} {D : DEnds} {s : Sl} : dWhile c tb D s C = whK c tb D s C := propext Iff.rfl
theorem dGetI_eq_p {to ti : DE} {s : Sl} : dGetI to ti s C Q = to s C fun x C1 => ti s C1 fun y C2 => getX x y C2 Q := propext Iff.rfl
theorem dLst_e_p {t : DA} {s : Sl} : dLst t s C Q = t s C fun ds C1 => ds.length ≤ 1000 ∧ alloc (.lst ds) C1 Q := propext Iff.rfl
theorem dEmp_e_p {s : Sl} : dEmp s C Q = alloc (.dk []) C Q := propext Iff.rfl
theorem dEmpG_e_p {s : Sl} : dEmpG s C Q = alloc (.dg []) C Q := propext Iff.rfl
theorem dDisp_e_p {trs : List (DE × DE)} {s : Sl} : dDisp trs s C Q = dPairs trs s C fun ps C2 => ∃ kvs : List (DKey × D), ps = kvs.map (fun kv => (keyD kv.1, kv.2)) ∧ kvs.length ≤ 15 ∧ alloc (.dk (mergeA [] kvs)) C2 Q := propext Iff.rfl
theorem dListZip_e_p {ta : DA} {s : Sl} : dListZip ta s C Q = ta s C fun ds C1 => ∃ pa pb xs ys, ds = [.ptr pa, .ptr pb] ∧ isL C1 pa xs ∧ isL C1 pb ys ∧ NRz xs ys ∧ alloc (.lst (pairD xs ys)) C1 Q := propext Iff.rfl
theorem addD_ii_p {a b : Int} : addD (.int a) (.int b) C Q = Q (.int (a + b)) C := propext Iff.rfl
theorem addD_ss_p {a b : List Nat} : addD (.str a) (.str b) C Q = (a.length + b.length ≤ sizeLine ∧ Q (.str (a ++ b)) C) := propext Iff.rfl
theorem addD_tt_p {a b : List D} : addD (.tup a) (.tup b) C Q = (a.length + b.length ≤ sizeLine ∧ Q (.tup (a ++ b)) C) := propext Iff.rfl
theorem subD_ii_p {a b : Int} : subD (.int a) (.int b) C Q = Q (.int (a - b)) C := propext Iff.rfl
theorem mulD_ii_p {a b : Int} : mulD (.int a) (.int b) C Q = (CMulW a b ∧ Q (.int (a * b)) C) := propext Iff.rfl
theorem modD_ii_p {a b : Int} : modD (.int a) (.int b) C Q = (0 < b ∧ Q (.int (a % b)) C) := propext Iff.rfl
theorem fdivD_ii_p {a b : Int} : fdivD (.int a) (.int b) C Q = (CDivW a b ∧ Q (.int (a / b)) C) := propext Iff.rfl
theorem powE_ii_p {a b : Int} {C : Cp} {Q : DQ} : powE (.int a) (.int b) C Q = (PowOk a b ∧ Q (.int (a ^ b.toNat)) C) := propext Iff.rfl
theorem ltD_ii_p {a b : Int} : ltD (.int a) (.int b) C Q = Q (.bl (decide (a < b))) C := propext Iff.rfl
theorem leD_ii_p {a b : Int} : leD (.int a) (.int b) C Q = Q (.bl (decide (a ≤ b))) C := propext Iff.rfl
theorem gtD_ii_p {a b : Int} : gtD (.int a) (.int b) C Q = Q (.bl (decide (b < a))) C := propext Iff.rfl
theorem geD_ii_p {a b : Int} : geD (.int a) (.int b) C Q = Q (.bl (decide (b ≤ a))) C := propext Iff.rfl
theorem ltD_ss_p {a b : List Nat} : ltD (.str a) (.str b) C Q = Q (.bl (decide (a < b))) C := propext Iff.rfl
theorem leD_ss_p {a b : List Nat} : leD (.str a) (.str b) C Q = Q (.bl (!decide (b < a))) C := propext Iff.rfl
theorem eqR_tt_p {n : Bool} {a b : List D} : eqR n (.tup a) (.tup b) C Q = (okEq (.tup a) ∧ npt (.tup b) = true ∧ Q (.bl (if n then !(eqD (.tup a) (.tup b)) else eqD (.tup a) (.tup b))) C) := propext Iff.rfl
theorem truD_b_p {a k : Bool} : truD C (.bl a) k = (k = a) := propext Iff.rfl
theorem slD_t_p {lo hi : Option Int} : slD (.tup xs) lo hi C Q = Q (.tup (cutL xs lo hi)) C := propext Iff.rfl
theorem slD_s_p {l : List Nat} {lo hi : Option Int} : slD (.str l) lo hi C Q = (l.length ≤ sizeLine ∧ Q (.str (cutL l lo hi)) C) := propext Iff.rfl
theorem dPairs_n {s : Sl} {K : List (D × D) → Cp → Prop} : dPairs [] s C K = K [] C := propext Iff.rfl
theorem dPairs_c {tk tv : DE} {r : List (DE × DE)} {s : Sl} {K : List (D × D) → Cp → Prop} : dPairs ((tk, tv) :: r) s C K = tk s C fun x C1 => tv s C1 fun y C2 => dPairs r s C2 fun ps C3 => K ((x, y) :: ps) C3 := propext Iff.rfl
end KB

/-! KS1: sorted lists of things of one kind; paths. -/
namespace KB
open PySem PySem.Spec PyProof.Rows
open L2 hiding op_eqD op_neD call_listD
theorem img_of {α : Type} {f : α → D} {P : α → Prop} : ∀ {xs : List D}, (∀ d ∈ xs, ∃ b, d = f b ∧ P b) → ∃ bs : List α, xs = bs.map f ∧ ∀ b ∈ bs, P b
  | [], _ => ⟨[], rfl, fun b h => by cases h⟩
  | x :: r, h => by
    obtain ⟨b, rfl, p⟩ := h x List.mem_cons_self
    obtain ⟨bs, rfl, q⟩ := img_of fun d hd => h d (List.mem_cons_of_mem _ hd)
    refine ⟨b :: bs, rfl, fun z hz => ?_⟩
    rcases List.mem_cons.mp hz with e | e
    · subst e; exact p
    · exact q z e
theorem sort_img {α : Type} (f : α → D) (as : List α) : ∃ bs : List α, (as.map f).mergeSort leP = bs.map f ∧ bs.Perm as :=
  ⟨as.mergeSort fun a b => leP (f a) (f b), (W.sort_maps f fun _ _ _ _ => rfl).symm, List.mergeSort_perm _ _⟩
section
variable {S : Addr → Prop} {C0 C : Cp} {L L' L1 : List Ent} {p q : Addr} {Q : DQ} {α : Type} {f : α → D} {as : List α}
theorem sortedM_st (h : St S C0 C L) (a : At L p (.lst (as.map f))) (o : SortOk (as.map f)) (k : ∀ (bs : List α) r C', bs.Perm as → St S C0 C' ((r, .lst (bs.map f), true) :: L) → Q (.ptr r) C') : sortedR [.ptr p] C Q := by
  obtain ⟨bs, e, hp⟩ := sort_img f as
  refine sorted_st h a o fun r C h => ?_
  rw [e] at h
  exact k bs r C hp h
/-- sorted(set(xs)) -/
theorem sset_st (h : St S C0 C L) (a : At L p (.lst (as.map f))) (o : SetOk (as.map f)) (so : ∀ bs : List α, SortOk (bs.map f)) (k : ∀ (bs : List α) r C', (∀ b ∈ bs, b ∈ as) → bs.length ≤ as.length → (bs.map f).Nodup → St S C0 C' ((r, .lst (bs.map f), true) :: L) → Q (.ptr r) C') : setNR [.ptr p] C fun d C1 => sortedSR [d] C1 Q := by
  refine setL_st h a o fun r ys C nd mem len h => ?_
  have im : ∀ zs : List D, zs.Perm ys → ∃ bs : List α, zs = bs.map f ∧ ∀ b ∈ bs, b ∈ as := fun zs hz => img_of fun d hd => by
    obtain ⟨b, m, e⟩ := List.mem_map.mp ((mem d).mp (hz.mem_iff.mp hd))
    exact ⟨b, e.symm, m⟩
  refine sortedS_st h .here (fun zs hz => ?_) fun zs r2 C hz h => ?_
  · obtain ⟨bs, rfl, _⟩ := im zs hz
    exact so bs
  · obtain ⟨bs, rfl, hb⟩ := im zs hz
    obtain ⟨cs, e, hp⟩ := sort_img f bs
    rw [e] at h
    refine k cs r2 C (fun b hb' => hb b (hp.mem_iff.mp hb')) ?_ ?_ h.snd
    · rw [hp.length_eq, ← List.length_map (f := f), hz.length_eq]
      rw [List.length_map] at len
      exact len
    · exact ((hp.map f).trans hz).nodup_iff.mpr nd
/-- what is picked by a test that changes nothing -/
theorem lc_pick {items : List D} {ok : Cp → Prop} {g : DG} {tt : DT} {te : DE} {vs : List Nat} {s : Sl} (xs : List α) (P : α → Bool) (f : α → D) (e : α → D) (hi : items = xs.map e) (h : St S C0 C L) (hok : ∀ C, St S C0 C L → ok C)
    (hs : ∀ x C, x ∈ xs → St S C0 C L → ∀ (Qt : Sl → Bool → Cp → Prop) (Q' : DQ), (P x = true → ∀ C', St S C0 C' L → Q' (f x) C') → (P x = false → ∀ s' C', St S C0 C' L → Qt s' false C') → g (e x) (wipeD s vs) C fun s2 C2 => tt s2 C2 fun b C3 => if b = true then te s2 C3 Q' else Qt s2 false C3)
    (hz : xs.length < sizeLine) (k : ∀ r C', St S C0 C' ((r, .lst ((xs.filter P).map f), true) :: L) → Q (.ptr r) C') : lcK items ok g tt te vs s C Q := by
  subst hi
  refine lc_st (fun i acc C => acc = ((xs.take i).filter P).map f ∧ St S C0 C L) ⟨by simp, h⟩ (fun _ _ C ⟨_, h⟩ => hok C h) (fun i x acc C hi ex ha ⟨e1, h⟩ => ?_) (by rw [List.length_map]; exact hz) fun acc C ⟨e1, h⟩ => ?_
  · rw [List.length_map] at hi
    rw [List.getElem?_map, List.getElem?_eq_getElem hi] at ex
    cases ex
    refine hs xs[i] C (List.getElem_mem hi) h (fun _ _ C3 => ∃ C'', Sub C'' C3 ∧ acc = ((xs.take (i + 1)).filter P).map f ∧ St S C0 C'' L) (fun y C4 => ∃ C'', Sub C'' C4 ∧ acc ++ [y] = ((xs.take (i + 1)).filter P).map f ∧ St S C0 C'' L) (fun hp C' h' => ⟨C', Sub.refl _, ?_, h'⟩) fun hp s' C' h' => ⟨C', Sub.refl _, ?_, h'⟩
    · rw [e1, List.take_add_one, List.getElem?_eq_getElem hi, List.filter_append, List.map_append]
      simp [hp]
    · rw [e1, List.take_add_one, List.getElem?_eq_getElem hi, List.filter_append, List.map_append]
      simp [hp]
  · subst e1
    rw [List.length_map, List.take_of_length_le (Nat.le_refl _)]
    exact alloc_st h k
end
theorem cut_drop {α : Type} (xs : List α) (n : Nat) : cutL xs (some (n : Int)) none = xs.drop n := by
  unfold cutL
  rw [HT.sIx_nat, HT.sIx_none]
  rcases Nat.le_total n xs.length with h | h
  · rw [Nat.min_eq_left h, List.take_of_length_le (by rw [List.length_drop]; exact Nat.le_refl _)]
  · rw [Nat.min_eq_right h, Nat.sub_self, List.drop_of_length_le h, List.take_zero]
theorem cut_last {α : Type} (xs : List α) : cutL xs none (some (-1)) = xs.take (xs.length - 1) := by
  unfold cutL
  have : HT.sIx xs.length xs.length (some (-1)) = xs.length - 1 := by
    unfold HT.sIx
    simp
    omega
  rw [this, HT.sIx_none, Nat.sub_zero, List.drop_zero]
theorem cut_one {α : Type} (xs : List α) : cutL xs (some 1) none = xs.drop 1 := cut_drop xs 1
theorem at_map {α : Type} {f : α → D} {as : List α} {j : Nat} (hj : j < as.length) : atI (as.map f) (j : Int) = some (f as[j]) := atI_nat (by rw [List.getElem?_map, List.getElem?_eq_getElem hj]; rfl)
theorem atI_end {α : Type} {xs : List α} {x : α} (h : xs[xs.length - 1]? = some x) : atI xs (-1) = some x := by
  have h0 : xs.length ≠ 0 := fun z => by rw [List.length_eq_zero_iff] at z; subst z; cases h
  have e : ixN xs.length (-1) = some (xs.length - 1) := by
    unfold ixN
    simp
    omega
  unfold atI
  rw [e]
  exact h
theorem join_le (a : List Nat) {n : Nat} : ∀ {ys : List (List Nat)}, (∀ y ∈ ys, y.length ≤ n) → (joinD a ys).length ≤ ys.length * (n + a.length)
  | [], _ => by simp [joinD, TL.joinL]
  | [y], h => by
    have := h y List.mem_cons_self
    simp only [joinD, TL.joinL, List.length_cons, List.length_nil]
    omega
  | y :: z :: r, h => by
    have h1 := h y List.mem_cons_self
    have h2 := join_le a (ys := z :: r) fun v hv => h v (List.mem_cons_of_mem _ hv)
    have e : joinD a (y :: z :: r) = y ++ a ++ joinD a (z :: r) := by simp [joinD, TL.joinL]
    rw [e, List.length_append, List.length_append, List.length_cons, Nat.succ_mul]
    omega
theorem join_mem {a : List Nat} {c : Nat} : ∀ {ys : List (List Nat)}, c ∈ joinD a ys → c ∈ a ∨ ∃ y ∈ ys, c ∈ y
  | [], h => by simp [joinD, TL.joinL] at h
  | [y], h => .inr ⟨y, List.mem_cons_self, by simpa [joinD, TL.joinL] using h⟩
  | y :: z :: r, h => by
    have e : joinD a (y :: z :: r) = y ++ a ++ joinD a (z :: r) := by simp [joinD, TL.joinL]
    rw [e, List.mem_append, List.mem_append] at h
    rcases h with (h | h) | h
    · exact .inr ⟨y, List.mem_cons_self, h⟩
    · exact .inl h
    · rcases join_mem (ys := z :: r) h with h | ⟨v, hv, h⟩
      · exact .inl h
      · exact .inr ⟨v, List.mem_cons_of_mem _ hv, h⟩
/-- plain signs -/
def Sg (l : List Nat) : Prop := ∀ c ∈ l, c < 256
theorem Sg.app {a b : List Nat} (x : Sg a) (y : Sg b) : Sg (a ++ b) := fun c h => (List.mem_append.mp h).elim (x c) (y c)
theorem Sg.con {a : Nat} {b : List Nat} (x : a < 256) (y : Sg b) : Sg (a :: b) := fun c h => (List.mem_cons.mp h).elim (fun e => by subst e; exact x) (y c)
theorem Sg.nil : Sg [] := fun c h => by cases h
theorem Sg.rep {n : Nat} {a : List Nat} (x : Sg a) : Sg (List.replicate n a).flatten := fun c h => by
  obtain ⟨l, h1, h2⟩ := List.mem_flatten.mp h
  rw [List.eq_of_mem_replicate h1] at h2
  exact x c h2
theorem sum_le {n : Nat} : ∀ {ys : List (List Nat)}, (∀ y ∈ ys, y.length ≤ n) → (ys.map List.length).sum ≤ ys.length * n
  | [], _ => Nat.zero_le _
  | y :: r, h => by
    have h1 := h y List.mem_cons_self
    have h2 := sum_le (ys := r) fun v hv => h v (List.mem_cons_of_mem _ hv)
    rw [List.map_cons, List.sum_cons, List.length_cons, Nat.succ_mul]
    omega
section
variable {S : Addr → Prop} {C0 C : Cp} {L L' L1 : List Ent} {p q : Addr} {Q : DQ} {d : D}
theorem joinB_st {a : List Nat} {n m : Nat} {zs : List (List Nat)} (h : St S C0 C L) (b : At L p (.lst (zs.map D.str))) (hz : ∀ z ∈ zs, z.length ≤ n) (hl : zs.length ≤ m) (hm : m * (n + a.length) ≤ 16777216) (k : ∀ l : List Nat, l.length ≤ m * (n + a.length) → ((∀ c ∈ a, c < 256) → (∀ z ∈ zs, Sg z) → Sg l) → Q (.str l) C) : joinR (.str a) [.ptr p] C Q := by
  have e := Nat.mul_le_mul_right (n + a.length) hl
  refine join_st h b ?_ (k _ (Nat.le_trans (join_le a hz) e) fun ha hs c hc => ?_)
  · have := sum_le hz
    rw [Nat.mul_add] at e
    omega
  · rcases join_mem hc with q | ⟨y, hy, q⟩
    · exact ha c q
    · exact hs y hy c q
theorem getS_st {kvs : List (DKey × D)} {l : List Nat} (h : St S C0 C L) (a : At L p (.dk kvs)) (e : lookA kvs (.inr l) = some d) (k : Q d C) : getX (.ptr p) (.str l) C Q := got_k (h.get a) e k
end
/-! ### instances -/
def setF (n f : Str) (x y : D) (C : Cp) (R : Cp → Prop) : Prop := ∃ p fs, x = .ptr p ∧ C p = some (.ins n fs) ∧ fs.length < 1000 ∧ R (up C p (.ins n (putFd f y fs)))
def getF (n f : Str) (x : D) (C : Cp) (Q : DQ) : Prop := ∃ p fs v, x = .ptr p ∧ C p = some (.ins n fs) ∧ lookF fs f = some v ∧ Q v C
def isI (n m : Str) (x : D) (C : Cp) (P : Prop) : Prop := ∃ p fs, x = .ptr p ∧ C p = some (.ins n fs) ∧ lookF fs m = none ∧ P
section
variable {S : Addr → Prop} {C0 C : Cp} {L L' L1 : List Ent} {p q : Addr} {Q : DQ} {R : Cp → Prop} {d y v : D} {n f m : Str} {fs : Fs}
theorem dSetF_e {to tv : DE} {D : DEnds} {s : Sl} : dSetF n f to tv D s C = tv s C fun y C1 => to s C1 fun x C2 => setF n f x y C2 fun C3 => D.nx s C3 := propext Iff.rfl
theorem dFld_e {to : DE} {s : Sl} : dFld n f to s C Q = to s C fun x C1 => getF n f x C1 Q := propext Iff.rfl
theorem dMake_e {F : DSp} {dd : List D} {t : DA} {s : Sl} : dMake n F dd t s C Q = t s C fun ds C1 => alloc (.ins n []) C1 fun x C2 => F (x :: (ds ++ dd)) C2 (fun v C3 => v = .non ∧ Q x C3) fun _ _ => False := propext Iff.rfl
theorem dMeth_e {F : DSp} {dd : List D} {to : DE} {t : DA} {s : Sl} : dMeth n m F dd to t s C Q = to s C fun x C1 => isI n m x C1 (t s C1 fun ds C2 => F (x :: (ds ++ dd)) C2 Q fun _ _ => False) := propext ⟨fun h => h, fun h => h⟩
theorem setF_st (h : St S C0 C L) (z : fs.length < 1000) (u : Upd L p (.ins n fs) (.ins n (putFd f y fs)) L') (k : ∀ C', St S C0 C' L' → R C') : setF n f (.ptr p) y C R := ⟨p, fs, rfl, h.get u.at, z, k _ (h.put u)⟩
theorem getF_st (h : St S C0 C L) (a : At L p (.ins n fs)) (e : lookF fs f = some v) (k : Q v C) : getF n f (.ptr p) C Q := ⟨p, fs, v, rfl, h.get a, e, k⟩
theorem isI_st {P : Prop} (h : St S C0 C L) (a : At L p (.ins n fs)) (e : lookF fs m = none) (k : P) : isI n m (.ptr p) C P := ⟨p, fs, rfl, h.get a, e, k⟩
end
/-! ### paths: tuples of texts -/
abbrev Pt := List (List Nat)
def pD (ws : Pt) : D := .tup (ws.map D.str)
theorem alike_strs : ∀ xs ys : Pt, W.alikeAll (toPs (xs.map D.str)) (toPs (ys.map D.str)) = true
  | [], _ => by simp only [List.map_nil, toPs, W.alikeAll]
  | x :: xs, [] => by simp only [List.map_nil, List.map_cons, toPs, W.alikeAll]
  | x :: xs, y :: ys => by simp only [List.map_cons, toPs, W.alikeAll, toP, W.alike, alike_strs xs ys, Bool.and_self]
theorem npt_pD (p : Pt) : npt (pD p) = true := (npts_strs p).1
theorem deps_strs (p : Pt) : deps (p.map D.str) = 0 := by
  induction p with
  | nil => rfl
  | cons x r ih => rw [List.map_cons]; unfold deps dep; omega
theorem dep_pD (p : Pt) : dep (pD p) = 1 := by unfold pD dep; rw [deps_strs]
theorem okEqs_of {α : Type} {f : α → D} {n : Nat} (hn : n ≤ 60) (h1 : ∀ a, npt (f a) = true) (h2 : ∀ a, dep (f a) ≤ n) (as : List α) : okEqs (as.map f) := by
  induction as with
  | nil => exact ⟨rfl, Nat.zero_le _⟩
  | cons x r ih =>
    obtain ⟨a, b⟩ := ih
    refine ⟨by rw [List.map_cons]; unfold npts; rw [a, h1]; rfl, ?_⟩
    rw [List.map_cons]
    unfold deps
    have := h2 x
    omega
theorem okEqs_pDs (ps : List Pt) : okEqs (ps.map pD) := okEqs_of (n := 1) (by decide) npt_pD (fun p => by rw [dep_pD]; exact Nat.le_refl _) ps
theorem sortOk_pDs (ps : List Pt) : SortOk (ps.map pD) := by
  refine ⟨.inl ⟨fun a ha b hb => ?_, .inl fun d hd => ?_⟩, fun x hx => ?_⟩
  · obtain ⟨c, hc, rfl⟩ := List.mem_map.mp ha
    obtain ⟨e, he, rfl⟩ := List.mem_map.mp hb
    obtain ⟨x, _, rfl⟩ := List.mem_map.mp hc
    obtain ⟨y, _, rfl⟩ := List.mem_map.mp he
    unfold pD toP
    rw [W.alike]
    exact alike_strs x y
  · obtain ⟨c, hc, rfl⟩ := List.mem_map.mp hd
    obtain ⟨x, _, rfl⟩ := List.mem_map.mp hc
    exact ⟨_, rfl⟩
  · obtain ⟨c, hc, rfl⟩ := List.mem_map.mp hx
    exact ⟨npt_pD c, by rw [dep_pD]; decide⟩
theorem flat_strs (p : Pt) : flatGs (p.map D.str) = true := by
  induction p with
  | nil => rfl
  | cons x r ih => rw [List.map_cons]; unfold flatGs flatG; rw [ih]; rfl
theorem keyG_pD (p : Pt) : keyG (pD p) := by
  refine ⟨⟨_, rfl⟩, ?_, flat_strs p⟩
  unfold pD nk
  have : ∀ p : Pt, NestedKey.depthAll (nks (p.map D.str)) = 0 := by
    intro p
    induction p with
    | nil => rfl
    | cons x r ih => rw [List.map_cons]; unfold nks nk; rw [NestedKey.depthAll, ih]; rfl
  rw [NestedKey.depth, this]
  decide
theorem setOk_pDs {ps : List Pt} (h : ps.length < 64) : SetOk (ps.map pD) := .inr ⟨fun x hx => by
  obtain ⟨c, _, rfl⟩ := List.mem_map.mp hx
  exact keyG_pD c, by rw [List.length_map]; exact h⟩
theorem setOk_strs {ps : Pt} (h : ps.length < 4000) : SetOk (ps.map D.str) := .inl ⟨fun x hx => by
  obtain ⟨c, _, rfl⟩ := List.mem_map.mp hx
  rfl, by rw [List.length_map]; exact h⟩
theorem setOk_eds {es : List Ed} (h : es.length < 64) : SetOk (es.map edD) := .inr ⟨fun x hx => by
  obtain ⟨c, _, rfl⟩ := List.mem_map.mp hx
  exact keyG_pD [c.1, c.2], by rw [List.length_map]; exact h⟩
theorem eqDs_strs_self : ∀ p : Pt, eqDs (p.map D.str) (p.map D.str) = true
  | [] => rfl
  | x :: r => by
    rw [List.map_cons]
    unfold eqDs eqD
    rw [eqDs_strs_self r]
    simp
theorem eqD_pD_self (p : Pt) : eqD (pD p) (pD p) = true := by
  unfold pD eqD
  exact eqDs_strs_self p
theorem eqP_k {C : Cp} {Q : DQ} {n : Bool} {p : Pt} (k : Q (.bl (if n then false else true)) C) : eqR n (pD p) (pD p) C Q := by
  have : eqR n (pD p) (pD p) C Q = (okEq (pD p) ∧ npt (pD p) = true ∧ Q (.bl (if n then !(eqD (pD p) (pD p)) else eqD (pD p) (pD p))) C) := eqR_tt
  rw [this, eqD_pD_self]
  exact ⟨⟨npt_pD p, by rw [dep_pD]; decide⟩, npt_pD p, by cases n <;> exact k⟩
end KB

/-! KS2: texts and tuples of texts, shown. -/
namespace KB
open PySem PySem.Spec PyProof.Rows
open L2 hiding op_eqD op_neD call_listD
mutual
/-- texts of plain signs, None, truths, tuples of these -/
def txD : D → Bool
  | .non => true
  | .bl _ => true
  | .str l => l.all fun c => decide (c < 256)
  | .tup ds => txDs ds
  | _ => false
def txDs : List D → Bool
  | [] => true
  | d :: ds => txD d && txDs ds
end
mutual
def bkD : D → Nat
  | .str l => l.length
  | .tup ds => bkDs ds
  | _ => 0
def bkDs : List D → Nat
  | [] => 0
  | d :: ds => bkD d + 1 + bkDs ds
end
mutual
theorem tx_npt : ∀ d : D, txD d = true → npt d = true
  | .non, _ => rfl
  | .bl _, _ => rfl
  | .int _, _ => rfl
  | .str _, _ => rfl
  | .ptr _, h => by unfold txD at h; cases h
  | .ty _, h => by unfold txD at h; cases h
  | .tup ds, h => by unfold txD at h; unfold npt; exact txs_npt ds h
theorem txs_npt : ∀ ds : List D, txDs ds = true → npts ds = true
  | [], _ => rfl
  | d :: ds, h => by
    unfold txDs at h
    rw [Bool.and_eq_true] at h
    unfold npts
    rw [tx_npt d h.1, txs_npt ds h.2]
    rfl
end
mutual
theorem tx_show : ∀ d : D, txD d = true → (toP d).showable = true
  | .non, _ => rfl
  | .bl _, _ => rfl
  | .int _, h => by unfold txD at h; cases h
  | .str _, _ => rfl
  | .ptr _, h => by unfold txD at h; cases h
  | .ty _, h => by unfold txD at h; cases h
  | .tup ds, h => by unfold txD at h; unfold toP PyData.showable; exact txs_show ds h
theorem txs_show : ∀ ds : List D, txDs ds = true → PyData.showableAll (toPs ds) = true
  | [], _ => rfl
  | d :: ds, h => by
    unfold txDs at h
    rw [Bool.and_eq_true] at h
    unfold toPs PyData.showableAll
    rw [tx_show d h.1, txs_show ds h.2]
    rfl
end
mutual
theorem tx_leaf : ∀ d : D, txD d = true → (toP d).leavesShort 13 = true
  | .non, _ => rfl
  | .bl _, _ => rfl
  | .int _, h => by unfold txD at h; cases h
  | .str l, h => by
    unfold txD at h
    show (l.toArray.toList.all fun c => decide (c < 16 ^ 8)) = true
    rw [List.toList_toArray]
    exact List.all_eq_true.mpr fun c hc => by
      have := List.all_eq_true.mp h c hc
      simp only [decide_eq_true_eq] at this ⊢
      exact Nat.lt_trans this (by decide)
  | .ptr _, h => by unfold txD at h; cases h
  | .ty _, h => by unfold txD at h; cases h
  | .tup ds, h => by unfold txD at h; unfold toP PyData.leavesShort; exact txs_leaf ds h
theorem txs_leaf : ∀ ds : List D, txDs ds = true → PyData.leavesShortAll 13 (toPs ds) = true
  | [], _ => rfl
  | d :: ds, h => by
    unfold txDs at h
    rw [Bool.and_eq_true] at h
    unfold toPs PyData.leavesShortAll
    rw [tx_leaf d h.1, txs_leaf ds h.2]
    rfl
end
mutual
theorem bk_bulk : ∀ d : D, txD d = true → (toP d).bulk = bkD d
  | .non, _ => rfl
  | .bl _, _ => rfl
  | .int _, h => by unfold txD at h; cases h
  | .str l, h => by show l.toArray.size = l.length; rw [List.size_toArray]
  | .ptr _, h => by unfold txD at h; cases h
  | .ty _, h => by unfold txD at h; cases h
  | .tup ds, h => by unfold txD at h; unfold toP PyData.bulk bkD; exact bks_bulk ds h
theorem bks_bulk : ∀ ds : List D, txDs ds = true → PyData.bulkAll (toPs ds) = bkDs ds
  | [], _ => rfl
  | d :: ds, h => by
    unfold txDs at h
    rw [Bool.and_eq_true] at h
    unfold toPs PyData.bulkAll bkDs
    rw [bk_bulk d h.1, bks_bulk ds h.2]
end
theorem reprOk_of {xs : List D} (h : txDs xs = true) (hd : deps xs ≤ 49) (hb : bkDs xs ≤ 2 ^ 20) : ReprOk (.tup xs) := by
  have ht : txD (.tup xs) = true := by unfold txD; exact h
  refine ⟨⟨xs, rfl⟩, tx_npt _ ht, by unfold dep; omega, tx_show _ ht, PyData.shown_fits_bulk (B := 13) (by decide) (by decide) (tx_leaf _ ht) ?_⟩
  rw [bk_bulk _ ht]
  unfold bkD
  exact hb
theorem txs_map {α : Type} {f : α → D} {as : List α} (h : ∀ a ∈ as, txD (f a) = true) : txDs (as.map f) = true := by
  induction as with
  | nil => rfl
  | cons a r ih =>
    rw [List.map_cons]
    unfold txDs
    rw [h a List.mem_cons_self, ih fun b hb => h b (List.mem_cons_of_mem _ hb)]
    rfl
theorem bks_map {α : Type} {f : α → D} {n : Nat} {as : List α} (h : ∀ a ∈ as, bkD (f a) ≤ n) : bkDs (as.map f) ≤ as.length * (n + 1) := by
  induction as with
  | nil => exact Nat.zero_le _
  | cons a r ih =>
    have h1 := h a List.mem_cons_self
    have h2 := ih fun b hb => h b (List.mem_cons_of_mem _ hb)
    rw [List.map_cons]
    unfold bkDs
    rw [List.length_cons, Nat.succ_mul]
    omega
theorem deps_map {α : Type} {f : α → D} {n : Nat} {as : List α} (h : ∀ a, dep (f a) ≤ n) : deps (as.map f) ≤ n := by
  induction as with
  | nil => exact Nat.zero_le _
  | cons a r ih =>
    have := h a
    rw [List.map_cons]
    unfold deps
    omega
theorem Sg.tx {l : List Nat} (h : Sg l) : txD (.str l) = true := by
  unfold txD
  exact List.all_eq_true.mpr fun c hc => by simpa using h c hc
theorem pD_tx {p : Pt} (h : ∀ w ∈ p, Sg w) : txD (pD p) = true := by
  unfold pD txD
  exact txs_map fun w hw => (h w hw).tx
theorem repr_k {C : Cp} {Q : DQ} {d : D} (o : ReprOk d) (k : Q (.str (reprT d)) C) : reprR [d] C Q := ⟨d, rfl, o, k⟩
end KB

/-! KS3: f-strings, str(..) by readings. -/
namespace KB
open PySem PySem.Spec PyProof.Rows
open L2 hiding op_eqD op_neD call_listD
variable {C : Cp} {Q : DQ} {te : DE} {ts : List DE} {t : DE} {s : Sl} {acc l : List Nat} {i : Int} {K : List Nat → Cp → Prop}
def fmtR (x : D) (C : Cp) (Q : DQ) : Prop := (∃ l, x = .str l ∧ l.length ≤ sizeLine ∧ Q (.str l) C) ∨ ∃ i : Int, x = .int i ∧ i.natAbs.log2 < 1920 ∧ Q (.str (itoD i)) C
theorem dFmt_e : dFmt te s C Q = te s C fun x C1 => fmtR x C1 Q := propext Iff.rfl
theorem dJs_n : dJs [] acc s C K = K acc C := propext Iff.rfl
def strK (x : D) (C : Cp) (K : List Nat → Cp → Prop) : Prop := ∃ l, x = .str l ∧ K l C
theorem strK_s {K : List Nat → Cp → Prop} : strK (.str l) C K = K l C := by
  refine propext ⟨?_, fun h => ⟨l, rfl, h⟩⟩
  rintro ⟨l', e, h⟩
  cases e; exact h
theorem dJs_c : dJs (t :: ts) acc s C K = t s C fun x C1 => strK x C1 fun l C1 => acc.length + l.length ≤ sizeLine ∧ dJs ts (acc ++ l) s C1 K := propext Iff.rfl
theorem dJoined_p : dJoined ts s C Q = dJs ts [] s C fun l C1 => Q (.str l) C1 := propext Iff.rfl
theorem fmtR_s : fmtR (.str l) C Q = (l.length ≤ sizeLine ∧ Q (.str l) C) := by
  refine propext ⟨?_, fun h => .inl ⟨l, rfl, h⟩⟩
  rintro (⟨l', e, h⟩ | ⟨i, e, h⟩)
  · cases e; exact h
  · cases e
theorem fmtR_i : fmtR (.int i) C Q = (i.natAbs.log2 < 1920 ∧ Q (.str (itoD i)) C) := by
  refine propext ⟨?_, fun h => .inr ⟨i, rfl, h⟩⟩
  rintro (⟨l', e, h⟩ | ⟨i, e, h⟩)
  · cases e
  · cases e; exact h
theorem strR_s : strR [.str l] C Q = Q (.str l) C := by
  refine propext ⟨?_, fun h => .inl ⟨l, rfl, h⟩⟩
  rintro (⟨l', e, h⟩ | ⟨i, e, h⟩)
  · cases e; exact h
  · cases e
theorem strR_i : strR [.int i] C Q = (i.natAbs.log2 < 1920 ∧ Q (.str (itoD i)) C) := by
  refine propext ⟨?_, fun h => .inr ⟨i, rfl, h⟩⟩
  rintro (⟨l', e, h⟩ | ⟨i, e, h⟩)
  · cases e
  · cases e; exact h
theorem log_small {n : Nat} (h : n < 2 ^ 1000) : ((n : Int)).natAbs.log2 < 1920 := by
  rw [Int.natAbs_natCast]
  by_cases z : n = 0
  · subst z; decide
  · exact Nat.lt_trans ((Nat.log2_lt z).mpr h) (by decide)
theorem strOR_st {S : Addr → Prop} {C0 : Cp} {L : List Ent} {p : Addr} {n : Str} {fs : Fs} {F : DSp} (h : St S C0 C L) (a : At L p (.ins n fs)) (k : F [.ptr p] C (fun d C' => ∃ l, d = .str l ∧ Q (.str l) C') fun _ _ => False) : strOR n F [.ptr p] C Q := ⟨p, fs, rfl, h.get a, k⟩
/-- a path's text -/
def ptx (p : Pt) : List Nat := if p = [] then [47] else joinD [47] p
theorem eqP_nil {n : Bool} {p : Pt} (k : Q (.bl (if n then !(decide (p = [])) else decide (p = []))) C) : eqR n (pD p) (.tup []) C Q := by
  have : eqR n (pD p) (.tup []) C Q = (okEq (pD p) ∧ npt (.tup []) = true ∧ Q (.bl (if n then !(eqD (pD p) (.tup [])) else eqD (pD p) (.tup []))) C) := eqR_tt
  rw [this]
  refine ⟨⟨npt_pD p, by rw [dep_pD]; decide⟩, rfl, ?_⟩
  cases p with
  | nil => exact k
  | cons w r => exact k
end KB

/-! KS4: sums of lists; sorted sets told by what is in them; what changes nothing. -/
namespace KB
open PySem PySem.Spec PyProof.Rows
open L2 hiding op_eqD op_neD call_listD
section
variable {S : Addr → Prop} {C0 C C' : Cp} {L L' L1 : List Ent} {p q : Addr} {Q : DQ} {α : Type} {f : α → D} {as : List α}
theorem St.kp0 (h : St S C0 C L) (k : Kp (fun _ => False) C C') : St S C0 C' L :=
  ⟨fun r c n e => k r c id (h.kp r c n e), fun e he => k _ _ id (h.at_ e he), h.nd, h.wr⟩
/-- the sum of lists that a comprehension makes -/
theorem sum_lists {items : List D} {ok : Cp → Prop} {g : DG} {te : DE} {vs : List Nat} {s : Sl} (xs : List α) (f : α → List D) (e : α → D) (hi : items = xs.map e) (h : St S C0 C L) (hok : ∀ C, St S C0 C L → ok C)
    (hs : ∀ x C, x ∈ xs → St S C0 C L → ∀ Q' : DQ, alloc (.lst (f x)) C Q' → g (e x) (wipeD s vs) C fun s2 C2 => te s2 C2 Q') (hz : xs.length < sizeLine) (hz2 : ((xs.map f).map List.length).sum ≤ sizeLine)
    (k : ∀ r C', St S C0 C' ((r, .lst (xs.map f).flatten, true) :: L) → Q (.ptr r) C') : lcK items ok g dYes te vs s C fun x C1 => alloc (.lst []) C1 fun y C2 => sumR [x, y] C2 Q := by
  subst hi
  have mono : ∀ {bs : List Addr} {ys : List (List D)} {C : Cp} {p : Addr} {c : Cell}, C p = none → Paired (fun b y => isL C b y) bs ys → Paired (fun b y => isL (up C p c) b y) bs ys := fun hp hb => Paired.mapP hb fun b y hy => by
    refine isL_up_ne hy fun z => ?_
    subst z
    rcases hy with hy | hy <;> (rw [hp] at hy; cases hy)
  refine lc_st (fun i acc C => ∃ bs : List Addr, acc = bs.map D.ptr ∧ Paired (fun b y => isL C b y) bs ((xs.take i).map f) ∧ St S C0 C L) ⟨[], rfl, by rw [List.take_zero]; exact .nil, h⟩ (fun _ _ C ⟨_, _, _, h⟩ => hok C h) (fun i x acc C hi ex ha ⟨bs, e1, hb, h⟩ => ?_) (by rw [List.length_map]; exact hz) fun acc C ⟨bs, e1, hb, h⟩ => ?_
  · rw [List.length_map] at hi
    rw [List.getElem?_map, List.getElem?_eq_getElem hi] at ex
    cases ex
    subst e1
    simp only [dYes, if_true]
    refine hs xs[i] C (List.getElem_mem hi) h (fun y C4 => ∃ C'', Sub C'' C4 ∧ ∃ bs' : List Addr, bs.map D.ptr ++ [y] = bs'.map D.ptr ∧ Paired (fun b y => isL C'' b y) bs' ((xs.take (i + 1)).map f) ∧ St S C0 C'' L) fun p hp => ⟨_, Sub.refl _, bs ++ [p], by rw [List.map_append]; rfl, ?_, (h.new hp).tail⟩
    rw [List.take_add_one, List.getElem?_eq_getElem hi, List.map_append]
    exact paired_append (mono hp hb) (.cons (.inl up_same) .nil)
  · subst e1
    rw [List.length_map, List.take_of_length_le (Nat.le_refl _)] at hb
    intro p hp q hq
    have hb := mono (c := .lst []) hq (mono (c := .lst (bs.map D.ptr)) hp hb)
    have h1 := h.new (c := .lst (bs.map D.ptr)) hp
    have h2 := h1.new (c := .lst []) hq
    refine ⟨p, q, bs, xs.map f, [], rfl, .inl (h2.get (.there .here)), .inl (h2.get .here), hb, by simpa using hz2, fun z => ?_, fun z r hr => ?_⟩
    · have : xs.map f = [] := by
        rw [z] at hb
        cases e : xs.map f with
        | nil => rfl
        | cons y r => rw [e] at hb; cases hb
      rw [this] at k
      exact k q _ h2.snd
    · have h3 := h2.new (c := .lst ([] ++ (xs.map f).flatten)) hr
      exact k r _ h3.snd.snd
/-- sorted(set(xs)): what is in it -/
def IsS (f : α → D) (P : α → Prop) (t : List D) : Prop := ∃ bs : List α, bs.Nodup ∧ (∀ x, x ∈ bs ↔ P x) ∧ t = (bs.map f).mergeSort leP
theorem IsS.uniq {P R : α → Prop} {t u : List D} (hf : ∀ a b : List α, a.Perm b → (a.map f).mergeSort leP = (b.map f).mergeSort leP) (he : ∀ x, P x ↔ R x) : IsS f P t → IsS f R u → t = u := by
  rintro ⟨a, n1, h1, rfl⟩ ⟨b, n2, h2, rfl⟩
  exact hf a b (perm_of n1 n2 fun x => (h1 x).trans ((he x).trans (h2 x).symm))
theorem IsS.list {P : α → Prop} {t : List D} (h : IsS f P t) : ∃ cs : List α, t = cs.map f ∧ cs.Nodup ∧ ∀ x, x ∈ cs ↔ P x := by
  obtain ⟨bs, n, hb, rfl⟩ := h
  obtain ⟨cs, e, hp⟩ := sort_img f bs
  exact ⟨cs, e, hp.nodup_iff.mpr n, fun x => (hp.mem_iff).trans (hb x)⟩
theorem nodup_map {bs : List α} (hj : ∀ a b, f a = f b → a = b) (h : bs.Nodup) : (bs.map f).Nodup := by
  induction bs with
  | nil => exact List.nodup_nil
  | cons x r ih =>
    rw [List.map_cons]
    have := List.nodup_cons.mp h
    refine List.nodup_cons.mpr ⟨fun m => ?_, ih this.2⟩
    obtain ⟨y, hy, e⟩ := List.mem_map.mp m
    exact this.1 (hj _ _ e ▸ hy)
theorem sset2_st (hj : ∀ a b, f a = f b → a = b) (h : St S C0 C L) (a : At L p (.lst (as.map f))) (o : SetOk (as.map f)) (so : ∀ bs : List α, SortOk (bs.map f)) (k : ∀ t r C', IsS f (· ∈ as) t → t.length ≤ as.length → St S C0 C' ((r, .lst t, true) :: L) → Q (.ptr r) C') : setNR [.ptr p] C fun d C1 => sortedSR [d] C1 Q := by
  refine setL_st h a o fun r ys C nd mem len h => ?_
  have im : ∀ zs : List D, zs.Perm ys → ∃ bs : List α, zs = bs.map f ∧ ∀ b ∈ bs, b ∈ as := fun zs hz => img_of fun d hd => by
    obtain ⟨b, m, e⟩ := List.mem_map.mp ((mem d).mp (hz.mem_iff.mp hd))
    exact ⟨b, e.symm, m⟩
  refine sortedS_st h .here (fun zs hz => ?_) fun zs r2 C hz h => ?_
  · obtain ⟨bs, rfl, _⟩ := im zs hz
    exact so bs
  · obtain ⟨bs, rfl, hb⟩ := im zs hz
    refine k _ r2 C ⟨bs, ?_, fun x => ⟨hb x, fun hx => ?_⟩, rfl⟩ ?_ h.snd
    · have := hz.nodup_iff.mpr nd
      exact List.Pairwise.of_map f (fun a b n e => n (by rw [e])) this
    · have := hz.mem_iff.mpr ((mem (f x)).mpr (List.mem_map.mpr ⟨x, hx, rfl⟩))
      obtain ⟨y, hy, e⟩ := List.mem_map.mp this
      exact hj _ _ e ▸ hy
    · rw [List.length_mergeSort, hz.length_eq, ← List.length_map (f := f) (as := as)]
      exact len
end
theorem perm_strs (a b : Pt) (h : a.Perm b) : (a.map D.str).mergeSort leP = (b.map D.str).mergeSort leP := sort_eq (h.map _) strs_inj
theorem str_inj (a b : List Nat) (h : D.str a = D.str b) : a = b := by cases h; rfl
end KB

/-! KS5: dicts as sets of tuples, walks over dicts, the order of pairs. -/
namespace KB
open PySem PySem.Spec PyProof.Rows
open L2 hiding op_eqD op_neD call_listD
theorem dGhE_e {τ : DE} {s : Sl} {C : Cp} {Q : DQ} : dGhE τ s C Q = τ s C fun d C' => ∃ C2, UnlR C' C2 ∧ Q d C2 := propext Iff.rfl
theorem dGh_e {τ : DS} {D : DEnds} {s : Sl} {C : Cp} : dGh τ D s C = τ { nx := fun s' C' => ∃ C2, UnlR C' C2 ∧ D.nx s' C2, rt := fun d C' => ∃ C2, UnlR C' C2 ∧ D.rt d C2, bk := fun s' C' => ∃ C2, UnlR C' C2 ∧ D.bk s' C2, ct := fun s' C' => ∃ C2, UnlR C' C2 ∧ D.ct s' C2 } s C := propext Iff.rfl
def overK (x : D) (C1 : Cp) (R : List D → (Cp → Prop) → Cp → Prop) : Prop := ∃ p, x = .ptr p ∧ ((∃ kvs, C1 p = some (.dk kvs) ∧ ∀ ep, R (kvs.map fun q => keyD q.1) (fun C => ∃ kvs', C p = some (.lk kvs' ep) ∧ kvs'.map (·.1) = kvs.map (·.1)) (up C1 p (.lk kvs ep))) ∨
  ∃ kvs, C1 p = some (.dg kvs) ∧ ∀ as ep, R (kvs.map (·.1)) (fun C => ∃ kvs', C p = some (.lg kvs' as ep) ∧ kvs'.map (·.1) = kvs.map (·.1)) (up C1 p (.lg kvs as ep)))
theorem dOverK_e {t : DE} {s : Sl} {C : Cp} {R : List D → (Cp → Prop) → Cp → Prop} : dOverK t s C R = t s C fun x C1 => overK x C1 R := propext Iff.rfl
section
variable {S : Addr → Prop} {C0 C : Cp} {L L' L1 : List Ent} {p q : Addr} {Q : DQ} {R : Cp → Prop} {α : Type} {f : α → D} {ks : List α}
theorem overG_st {kvs : List (D × D)} {R : List D → (Cp → Prop) → Cp → Prop} (h : St S C0 C L) (d : Del L p (.dg kvs) true L1) (k : ∀ as ep C', St S C0 C' ((p, .lg kvs as ep, true) :: L1) → R (kvs.map (·.1)) (fun C => ∃ kvs', C p = some (.lg kvs' as ep) ∧ kvs'.map (·.1) = kvs.map (·.1)) C') : overK (.ptr p) C R :=
  ⟨p, rfl, .inr ⟨kvs, (h.front d).get .here, fun as ep => k as ep _ ((h.front d).put .here)⟩⟩
theorem overK_st {kvs : List (DKey × D)} {R : List D → (Cp → Prop) → Cp → Prop} (h : St S C0 C L) (d : Del L p (.dk kvs) true L1) (k : ∀ ep C', St S C0 C' ((p, .lk kvs ep, true) :: L1) → R (kvs.map fun q => keyD q.1) (fun C => ∃ kvs', C p = some (.lk kvs' ep) ∧ kvs'.map (·.1) = kvs.map (·.1)) C') : overK (.ptr p) C R :=
  ⟨p, rfl, .inl ⟨kvs, (h.front d).get .here, fun ep => k ep _ ((h.front d).put .here)⟩⟩
theorem unlG_st {kvs : List (D × D)} {as : List Addr} {ep : Nat} (h : St S C0 C L) (u : Upd L p (.lg kvs as ep) (.dg kvs) L') (k : ∀ C', St S C0 C' L' → R C') : ∃ C2, UnlR C C2 ∧ R C2 := ⟨_, .g (h.get u.at) .refl, k _ (h.put u)⟩
theorem unlK_st {kvs : List (DKey × D)} {ep : Nat} (h : St S C0 C L) (u : Upd L p (.lk kvs ep) (.dk kvs) L') (k : ∀ C', St S C0 C' L' → R C') : ∃ C2, UnlR C C2 ∧ R C2 := ⟨_, .k (h.get u.at) .refl, k _ (h.put u)⟩
/-- a dict as a set -/
def setG (f : α → D) (ks : List α) : List (D × D) := ks.map fun k => (f k, .bl true)
theorem lookG_set [DecidableEq α] (hf : ∀ a b, nk (f a) = nk (f b) → a = b) (y : α) : ∀ ks : List α, (lookG (setG f ks) (f y)).isSome = decide (y ∈ ks)
  | [] => rfl
  | x :: r => by
    unfold lookG setG
    rw [List.map_cons, List.find?_cons]
    by_cases h : x = y
    · subst h; simp
    · have h2 : ¬ nk (f x) = nk (f y) := fun z => h (hf _ _ z)
      simp only [h2, decide_false]
      have := lookG_set hf y r
      unfold lookG setG at this
      rw [this]
      have h3 : ¬ y = x := fun z => h z.symm
      simp [h3]
theorem putG_new [DecidableEq α] (hf : ∀ a b, nk (f a) = nk (f b) → a = b) {y : α} (h : y ∉ ks) : putG (setG f ks) (f y) (.bl true) = setG f (ks ++ [y]) := by
  unfold putG
  rw [lookG_set hf, if_neg (by simpa using h)]
  unfold setG
  rw [List.map_append]
  rfl
theorem putG_old [DecidableEq α] (hf : ∀ a b, nk (f a) = nk (f b) → a = b) {y : α} (h : y ∈ ks) : putG (setG f ks) (f y) (.bl true) = setG f ks := by
  unfold putG
  rw [lookG_set hf, if_pos (by simpa using h)]
  unfold setG
  rw [List.map_map]
  refine List.map_congr_left fun x _ => ?_
  show (if nk (f x) = nk (f y) then (f x, D.bl true) else (f x, D.bl true)) = _
  split <;> rfl
theorem putG_st [DecidableEq α] (hf : ∀ a b, nk (f a) = nk (f b) → a = b) {y : α} (hk : keyG (f y)) (h : St S C0 C L) (d : Del L p (.dg (setG f ks)) true L1) (z : ks.length < sizeLine) (k : ∀ ks' C', ks' = (if y ∈ ks then ks else ks ++ [y]) → St S C0 C' ((p, .dg (setG f ks'), true) :: L1) → R C') : setR (.ptr p) (f y) (.bl true) C R := by
  refine put_g ((h.front d).get .here) hk (by unfold setG; rw [List.length_map]; exact z) ?_
  by_cases m : y ∈ ks
  · rw [putG_old hf m]
    exact k ks _ (by rw [if_pos m]) ((h.front d).put .here)
  · rw [putG_new hf m]
    exact k _ _ (by rw [if_neg m]) ((h.front d).put .here)
theorem inG_st [DecidableEq α] {n : Bool} (hf : ∀ a b, nk (f a) = nk (f b) → a = b) {y : α} (hk : keyG (f y)) (h : St S C0 C L) (a : At L p (.dg (setG f ks))) (k : Q (.bl (if n then !decide (y ∈ ks) else decide (y ∈ ks))) C) : inDR n (f y) (.ptr p) C Q := by
  refine ⟨p, _, rfl, .inr (.inl ⟨_, h.get a, hk, rfl⟩), ?_⟩
  rw [lookG_set hf]
  exact k
end
theorem nk_ed (a b : Ed) (h : nk (edD a) = nk (edD b)) : a = b := by
  have := nk_inj (edD a) (edD b) (flat_strs [a.1, a.2]) (flat_strs [b.1, b.2]) h
  unfold edD at this
  simp only [D.tup.injEq, List.cons.injEq, D.str.injEq, and_true] at this
  exact Prod.ext this.1 this.2
/-! ### the order of texts and of pairs -/
def leS (x y : List Nat) : Bool := leP (.str x) (.str y)
theorem leS_eq (x y : List Nat) : leS x y = !strKind.blt y x := by
  show (!PyProof.Rows.lexLt itemOrd [.inr y] [.inr x]) = _
  simp only [PyProof.Rows.lexLt, itemLt]
  cases strKind.blt y x <;> simp
theorem leP_ed (a b : Ed) : leP (edD a) (edD b) = (leS a.1 b.1 && (!leS b.1 a.1 || leS a.2 b.2)) := by
  rw [leS_eq, leS_eq, leS_eq]
  show (!PyProof.Rows.lexLt itemOrd [.inl 1, .inr b.1, .inl 1, .inr b.2, .inl 0] [.inl 1, .inr a.1, .inl 1, .inr a.2, .inl 0]) = _
  simp only [PyProof.Rows.lexLt, itemLt]
  cases strKind.blt b.1 a.1 <;> cases strKind.blt a.1 b.1 <;> cases strKind.blt b.2 a.2 <;> simp
theorem leS_anti {x y : List Nat} (h1 : leS x y = true) (h2 : leS y x = true) : x = y := by
  rw [leS_eq] at h1 h2
  exact strKind.total x y (by simpa using h2) (by simpa using h1)
theorem mergeSort_same {xs : List D} (h : xs.Pairwise fun a b => leP a b = true) : xs.mergeSort leP = xs := List.mergeSort_of_pairwise h
end KB

namespace K15
open PySem PySem.Spec PyProof.Rows KB
open L2 hiding op_eqD op_neD call_listD
/-- the pot: own numbers, seed, count -/
structure PS where
  o : List Int
  b : Int
  n : Nat
  b0 : 0 ≤ b
  b1 : b < 2305843009213693951
  ol : o.length ≤ 63
def PS.c (s : PS) (r : Addr) : Cell := .lst [.ptr r, .int s.b, .int s.n]
def PS.l (s : PS) : Cell := .lst (s.o.map D.int)
variable {S : Addr → Prop} {C0 C : Cp} {L L1 L2 : List Ent} {p q r : Addr} {s : PS} {Q : DQ} {E : Exn → Cp → Prop}
theorem okEqs_ints (xs : List Int) : okEqs (xs.map D.int) := okEqs_of (n := 0) (by decide) (fun _ => rfl) (fun _ => Nat.le_refl _) xs
theorem eqDs_ints_nil (xs : List Int) : eqDs (xs.map D.int) [] = xs.isEmpty := by cases xs <;> rfl
theorem at0 {x : D} {xs : List D} : atI (x :: xs) 0 = some x := atI_nat (j := 0) rfl
theorem ix0 {x : D} {xs : List D} : ixN (x :: xs).length 0 = some 0 := by unfold ixN; simp
theorem two (h : St S C0 C L) {c1 c2 : Cell} (d : Del L p c1 true L1) (e : Del L1 r c2 true L2) : St S C0 C ((p, c1, true) :: (r, c2, true) :: L2) := ((h.front d).front (.there e)).swap
theorem take {m : Int} (h : St S C0 C L) (d : Del L p (s.c r) true L1) (e : Del L1 r s.l true L2) (hn : s.n < 2 ^ 19) (m0 : 0 < m) (m1 : m < 2 ^ 60) (k : ∀ (t : Nat) (s' : PS) C', (t : Int) < m → s'.n ≤ s.n + 1 → St S C0 C' ((p, s'.c r, true) :: (r, s'.l, true) :: L2) → Q (.int t) C') : D__law_take [.ptr p, .int m] C Q E := by
  have h := two h d e
  obtain ⟨o, b, n, b0, b1, ol⟩ := s
  unfold PS.c PS.l at h
  have tail : ∀ (o : List Int) C, o.length ≤ 63 → St S C0 C ((p, .lst [.ptr r, .int b, .int n], true) :: (r, .lst (o.map D.int), true) :: L2) → r__law_take_2 { nx := fun x C' => ∃ C'', KB.Sub C'' C' ∧ Q D.non C'', rt := fun d C' => ∃ C'', KB.Sub C'' C' ∧ Q d C'' } [some (D.ptr p), some (D.int m), none, none] C := by
    intro o C ol h
    unfold r__law_take_2
    try simp only [dFor_e_p, dRng1_p, dRng2_p, dOver_p, dOverT_p, dOverS_p, dAltI_p, dEnum_p, dZip_p, dLc_e_p, dWhile_e_p, Int.toNat_natCast, dSeq_p, dChain_p, dOrT_p, dAndT_p, dNotT_p, dGetI_eq_p, Bool.not_true, Bool.not_false, dAsg_p, dOp_p, dVar_p, dC_p, gNm_p, gTp_p, gCn_p, gNl_p, dRet_p, dIf_p, dTest_p, dTru_p, dNot_p, dAnd_p, dOr_p, dNext_p, dDrop_p, dCons_p, dNil_p, dTup_p, dLst_e_p, dEmp_e_p, dEmpG_e_p, dDisp_e_p, dListZip_e_p, dGhE_e, dGh_e, dOverK_e, dFld_e, dSetF_e, dMake_e, dMeth_e, dPar_p, dPar3_p, dSetI_p, dCall_p, dCB_p, dBM_p, dBM0_p, dIfE_p, dNeg_p, dSl_p, dPart_p, dNoP_p, dAug_p, addI_p, dBreak_p, dCont_p, dAlt_p, dYes_p, dPairs_n, dPairs_c, gSubD_p, dBMd_p, addD_ii_p, addD_ss_p, addD_tt_p, subD_ii_p, mulD_ii_p, modD_ii_p, fdivD_ii_p, powE_ii_p, Int.reduceToNat, Int.reducePow, Int.reduceNeg, Int.neg_neg, ltD_ii_p, leD_ii_p, gtD_ii_p, geD_ii_p, ltD_ss_p, leD_ss_p, eqR_ii, eqR_ss, eqR_tt_p, eqR_bb, intR_b, intR_i, dFmt_e, dJs_n, dJs_c, strK_s, dJoined_p, fmtR_s, fmtR_i, strR_s, strR_i, lenR_t, lenR_s, tupleR_t, isNR_p, abs_ii, max_ii, min_ii, truD_b_p, slD_t_p, slD_s_p, inR_t, List.map, List.length, List.replicate, List.cons_append, List.nil_append, List.append_nil, List.getElem?_cons_succ, List.getElem?_cons_zero, Option.some.injEq, exists_eq_left', exists_eq_left, ex2, ex3, exists_eq', List.set_cons_succ, List.set_cons_zero, Nat.reduceAdd, Nat.reduceSub, true_and, and_true, D.bl.injEq, D.int.injEq, D.str.injEq, D.ptr.injEq, D.tup.injEq, decide_eq_true_eq, beq_iff_eq, Bool.false_eq_true, if_true, if_false, reduceIte, wipeD, List.foldr_cons, List.foldr_nil, Nat.reduceLeDiff, List.cons.injEq, and_self, List.length_cons, List.length_nil]
    refine ix_st h (by (repeat (first | exact KB.At.here | assumption | apply KB.At.there))) rfl ?_
    refine alloc_st h fun z C h => ?_
    refine eqL_st h (by (repeat (first | exact KB.At.here | assumption | apply KB.At.there))) (by (repeat (first | exact KB.At.here | assumption | apply KB.At.there))) (okEqs_ints o) rfl ?_
    rw [eqDs_ints_nil]
    have h := h.tail
    cases o with
    | cons x xs =>
      rw [List.map_cons] at h
      refine ⟨_, rfl, ?_⟩
      rw [if_pos (by rfl)]
      try simp only [dFor_e_p, dRng1_p, dRng2_p, dOver_p, dOverT_p, dOverS_p, dAltI_p, dEnum_p, dZip_p, dLc_e_p, dWhile_e_p, Int.toNat_natCast, dSeq_p, dChain_p, dOrT_p, dAndT_p, dNotT_p, dGetI_eq_p, Bool.not_true, Bool.not_false, dAsg_p, dOp_p, dVar_p, dC_p, gNm_p, gTp_p, gCn_p, gNl_p, dRet_p, dIf_p, dTest_p, dTru_p, dNot_p, dAnd_p, dOr_p, dNext_p, dDrop_p, dCons_p, dNil_p, dTup_p, dLst_e_p, dEmp_e_p, dEmpG_e_p, dDisp_e_p, dListZip_e_p, dGhE_e, dGh_e, dOverK_e, dFld_e, dSetF_e, dMake_e, dMeth_e, dPar_p, dPar3_p, dSetI_p, dCall_p, dCB_p, dBM_p, dBM0_p, dIfE_p, dNeg_p, dSl_p, dPart_p, dNoP_p, dAug_p, addI_p, dBreak_p, dCont_p, dAlt_p, dYes_p, dPairs_n, dPairs_c, gSubD_p, dBMd_p, addD_ii_p, addD_ss_p, addD_tt_p, subD_ii_p, mulD_ii_p, modD_ii_p, fdivD_ii_p, powE_ii_p, Int.reduceToNat, Int.reducePow, Int.reduceNeg, Int.neg_neg, ltD_ii_p, leD_ii_p, gtD_ii_p, geD_ii_p, ltD_ss_p, leD_ss_p, eqR_ii, eqR_ss, eqR_tt_p, eqR_bb, intR_b, intR_i, dFmt_e, dJs_n, dJs_c, strK_s, dJoined_p, fmtR_s, fmtR_i, strR_s, strR_i, lenR_t, lenR_s, tupleR_t, isNR_p, abs_ii, max_ii, min_ii, truD_b_p, slD_t_p, slD_s_p, inR_t, List.map, List.length, List.replicate, List.cons_append, List.nil_append, List.append_nil, List.getElem?_cons_succ, List.getElem?_cons_zero, Option.some.injEq, exists_eq_left', exists_eq_left, ex2, ex3, exists_eq', List.set_cons_succ, List.set_cons_zero, Nat.reduceAdd, Nat.reduceSub, true_and, and_true, D.bl.injEq, D.int.injEq, D.str.injEq, D.ptr.injEq, D.tup.injEq, decide_eq_true_eq, beq_iff_eq, Bool.false_eq_true, if_true, if_false, reduceIte, wipeD, List.foldr_cons, List.foldr_nil, Nat.reduceLeDiff, List.cons.injEq, and_self, List.length_cons, List.length_nil]
      refine ix_st h (by (repeat (first | exact KB.At.here | assumption | apply KB.At.there))) rfl ?_
      refine ix_st h (by (repeat (first | exact KB.At.here | assumption | apply KB.At.there))) at0 ?_
      try simp only [dFor_e_p, dRng1_p, dRng2_p, dOver_p, dOverT_p, dOverS_p, dAltI_p, dEnum_p, dZip_p, dLc_e_p, dWhile_e_p, Int.toNat_natCast, dSeq_p, dChain_p, dOrT_p, dAndT_p, dNotT_p, dGetI_eq_p, Bool.not_true, Bool.not_false, dAsg_p, dOp_p, dVar_p, dC_p, gNm_p, gTp_p, gCn_p, gNl_p, dRet_p, dIf_p, dTest_p, dTru_p, dNot_p, dAnd_p, dOr_p, dNext_p, dDrop_p, dCons_p, dNil_p, dTup_p, dLst_e_p, dEmp_e_p, dEmpG_e_p, dDisp_e_p, dListZip_e_p, dGhE_e, dGh_e, dOverK_e, dFld_e, dSetF_e, dMake_e, dMeth_e, dPar_p, dPar3_p, dSetI_p, dCall_p, dCB_p, dBM_p, dBM0_p, dIfE_p, dNeg_p, dSl_p, dPart_p, dNoP_p, dAug_p, addI_p, dBreak_p, dCont_p, dAlt_p, dYes_p, dPairs_n, dPairs_c, gSubD_p, dBMd_p, addD_ii_p, addD_ss_p, addD_tt_p, subD_ii_p, mulD_ii_p, modD_ii_p, fdivD_ii_p, powE_ii_p, Int.reduceToNat, Int.reducePow, Int.reduceNeg, Int.neg_neg, ltD_ii_p, leD_ii_p, gtD_ii_p, geD_ii_p, ltD_ss_p, leD_ss_p, eqR_ii, eqR_ss, eqR_tt_p, eqR_bb, intR_b, intR_i, dFmt_e, dJs_n, dJs_c, strK_s, dJoined_p, fmtR_s, fmtR_i, strR_s, strR_i, lenR_t, lenR_s, tupleR_t, isNR_p, abs_ii, max_ii, min_ii, truD_b_p, slD_t_p, slD_s_p, inR_t, List.map, List.length, List.replicate, List.cons_append, List.nil_append, List.append_nil, List.getElem?_cons_succ, List.getElem?_cons_zero, Option.some.injEq, exists_eq_left', exists_eq_left, ex2, ex3, exists_eq', List.set_cons_succ, List.set_cons_zero, Nat.reduceAdd, Nat.reduceSub, true_and, and_true, D.bl.injEq, D.int.injEq, D.str.injEq, D.ptr.injEq, D.tup.injEq, decide_eq_true_eq, beq_iff_eq, Bool.false_eq_true, if_true, if_false, reduceIte, wipeD, List.foldr_cons, List.foldr_nil, Nat.reduceLeDiff, List.cons.injEq, and_self, List.length_cons, List.length_nil]
      refine ⟨m0, ?_⟩
      refine ix_st h (by (repeat (first | exact KB.At.here | assumption | apply KB.At.there))) rfl ?_
      refine ix_st h (by (repeat (first | exact KB.At.here | assumption | apply KB.At.there))) at0 ?_
      try simp only [dFor_e_p, dRng1_p, dRng2_p, dOver_p, dOverT_p, dOverS_p, dAltI_p, dEnum_p, dZip_p, dLc_e_p, dWhile_e_p, Int.toNat_natCast, dSeq_p, dChain_p, dOrT_p, dAndT_p, dNotT_p, dGetI_eq_p, Bool.not_true, Bool.not_false, dAsg_p, dOp_p, dVar_p, dC_p, gNm_p, gTp_p, gCn_p, gNl_p, dRet_p, dIf_p, dTest_p, dTru_p, dNot_p, dAnd_p, dOr_p, dNext_p, dDrop_p, dCons_p, dNil_p, dTup_p, dLst_e_p, dEmp_e_p, dEmpG_e_p, dDisp_e_p, dListZip_e_p, dGhE_e, dGh_e, dOverK_e, dFld_e, dSetF_e, dMake_e, dMeth_e, dPar_p, dPar3_p, dSetI_p, dCall_p, dCB_p, dBM_p, dBM0_p, dIfE_p, dNeg_p, dSl_p, dPart_p, dNoP_p, dAug_p, addI_p, dBreak_p, dCont_p, dAlt_p, dYes_p, dPairs_n, dPairs_c, gSubD_p, dBMd_p, addD_ii_p, addD_ss_p, addD_tt_p, subD_ii_p, mulD_ii_p, modD_ii_p, fdivD_ii_p, powE_ii_p, Int.reduceToNat, Int.reducePow, Int.reduceNeg, Int.neg_neg, ltD_ii_p, leD_ii_p, gtD_ii_p, geD_ii_p, ltD_ss_p, leD_ss_p, eqR_ii, eqR_ss, eqR_tt_p, eqR_bb, intR_b, intR_i, dFmt_e, dJs_n, dJs_c, strK_s, dJoined_p, fmtR_s, fmtR_i, strR_s, strR_i, lenR_t, lenR_s, tupleR_t, isNR_p, abs_ii, max_ii, min_ii, truD_b_p, slD_t_p, slD_s_p, inR_t, List.map, List.length, List.replicate, List.cons_append, List.nil_append, List.append_nil, List.getElem?_cons_succ, List.getElem?_cons_zero, Option.some.injEq, exists_eq_left', exists_eq_left, ex2, ex3, exists_eq', List.set_cons_succ, List.set_cons_zero, Nat.reduceAdd, Nat.reduceSub, true_and, and_true, D.bl.injEq, D.int.injEq, D.str.injEq, D.ptr.injEq, D.tup.injEq, decide_eq_true_eq, beq_iff_eq, Bool.false_eq_true, if_true, if_false, reduceIte, wipeD, List.foldr_cons, List.foldr_nil, Nat.reduceLeDiff, List.cons.injEq, and_self, List.length_cons, List.length_nil]
      refine ⟨CDivW_small ⟨m0, by omega⟩, ?_⟩
      refine ix_st h (by (repeat (first | exact KB.At.here | assumption | apply KB.At.there))) rfl ?_
      refine set_st h ix0 (by (repeat (first | exact KB.Upd.here | assumption | apply KB.Upd.there))) fun C h => ?_
      try simp only [dFor_e_p, dRng1_p, dRng2_p, dOver_p, dOverT_p, dOverS_p, dAltI_p, dEnum_p, dZip_p, dLc_e_p, dWhile_e_p, Int.toNat_natCast, dSeq_p, dChain_p, dOrT_p, dAndT_p, dNotT_p, dGetI_eq_p, Bool.not_true, Bool.not_false, dAsg_p, dOp_p, dVar_p, dC_p, gNm_p, gTp_p, gCn_p, gNl_p, dRet_p, dIf_p, dTest_p, dTru_p, dNot_p, dAnd_p, dOr_p, dNext_p, dDrop_p, dCons_p, dNil_p, dTup_p, dLst_e_p, dEmp_e_p, dEmpG_e_p, dDisp_e_p, dListZip_e_p, dGhE_e, dGh_e, dOverK_e, dFld_e, dSetF_e, dMake_e, dMeth_e, dPar_p, dPar3_p, dSetI_p, dCall_p, dCB_p, dBM_p, dBM0_p, dIfE_p, dNeg_p, dSl_p, dPart_p, dNoP_p, dAug_p, addI_p, dBreak_p, dCont_p, dAlt_p, dYes_p, dPairs_n, dPairs_c, gSubD_p, dBMd_p, addD_ii_p, addD_ss_p, addD_tt_p, subD_ii_p, mulD_ii_p, modD_ii_p, fdivD_ii_p, powE_ii_p, Int.reduceToNat, Int.reducePow, Int.reduceNeg, Int.neg_neg, ltD_ii_p, leD_ii_p, gtD_ii_p, geD_ii_p, ltD_ss_p, leD_ss_p, eqR_ii, eqR_ss, eqR_tt_p, eqR_bb, intR_b, intR_i, dFmt_e, dJs_n, dJs_c, strK_s, dJoined_p, fmtR_s, fmtR_i, strR_s, strR_i, lenR_t, lenR_s, tupleR_t, isNR_p, abs_ii, max_ii, min_ii, truD_b_p, slD_t_p, slD_s_p, inR_t, List.map, List.length, List.replicate, List.cons_append, List.nil_append, List.append_nil, List.getElem?_cons_succ, List.getElem?_cons_zero, Option.some.injEq, exists_eq_left', exists_eq_left, ex2, ex3, exists_eq', List.set_cons_succ, List.set_cons_zero, Nat.reduceAdd, Nat.reduceSub, true_and, and_true, D.bl.injEq, D.int.injEq, D.str.injEq, D.ptr.injEq, D.tup.injEq, decide_eq_true_eq, beq_iff_eq, Bool.false_eq_true, if_true, if_false, reduceIte, wipeD, List.foldr_cons, List.foldr_nil, Nat.reduceLeDiff, List.cons.injEq, and_self, List.length_cons, List.length_nil]
      refine ret_k ?_
      rw [List.set_cons_zero] at h
      have e0 := Int.emod_nonneg x (b := m) (by omega)
      have e1 := Int.emod_lt_of_pos x m0
      have := k (x % m).toNat ⟨x / m :: xs, b, n, b0, b1, ol⟩ C (by omega) (Nat.le_succ _) h
      rw [Int.toNat_of_nonneg e0] at this
      exact this
    | nil =>
      refine ⟨_, rfl, ?_⟩
      rw [if_neg (by decide)]
      unfold r__law_take_1
      try simp only [dFor_e_p, dRng1_p, dRng2_p, dOver_p, dOverT_p, dOverS_p, dAltI_p, dEnum_p, dZip_p, dLc_e_p, dWhile_e_p, Int.toNat_natCast, dSeq_p, dChain_p, dOrT_p, dAndT_p, dNotT_p, dGetI_eq_p, Bool.not_true, Bool.not_false, dAsg_p, dOp_p, dVar_p, dC_p, gNm_p, gTp_p, gCn_p, gNl_p, dRet_p, dIf_p, dTest_p, dTru_p, dNot_p, dAnd_p, dOr_p, dNext_p, dDrop_p, dCons_p, dNil_p, dTup_p, dLst_e_p, dEmp_e_p, dEmpG_e_p, dDisp_e_p, dListZip_e_p, dGhE_e, dGh_e, dOverK_e, dFld_e, dSetF_e, dMake_e, dMeth_e, dPar_p, dPar3_p, dSetI_p, dCall_p, dCB_p, dBM_p, dBM0_p, dIfE_p, dNeg_p, dSl_p, dPart_p, dNoP_p, dAug_p, addI_p, dBreak_p, dCont_p, dAlt_p, dYes_p, dPairs_n, dPairs_c, gSubD_p, dBMd_p, addD_ii_p, addD_ss_p, addD_tt_p, subD_ii_p, mulD_ii_p, modD_ii_p, fdivD_ii_p, powE_ii_p, Int.reduceToNat, Int.reducePow, Int.reduceNeg, Int.neg_neg, ltD_ii_p, leD_ii_p, gtD_ii_p, geD_ii_p, ltD_ss_p, leD_ss_p, eqR_ii, eqR_ss, eqR_tt_p, eqR_bb, intR_b, intR_i, dFmt_e, dJs_n, dJs_c, strK_s, dJoined_p, fmtR_s, fmtR_i, strR_s, strR_i, lenR_t, lenR_s, tupleR_t, isNR_p, abs_ii, max_ii, min_ii, truD_b_p, slD_t_p, slD_s_p, inR_t, List.map, List.length, List.replicate, List.cons_append, List.nil_append, List.append_nil, List.getElem?_cons_succ, List.getElem?_cons_zero, Option.some.injEq, exists_eq_left', exists_eq_left, ex2, ex3, exists_eq', List.set_cons_succ, List.set_cons_zero, Nat.reduceAdd, Nat.reduceSub, true_and, and_true, D.bl.injEq, D.int.injEq, D.str.injEq, D.ptr.injEq, D.tup.injEq, decide_eq_true_eq, beq_iff_eq, Bool.false_eq_true, if_true, if_false, reduceIte, wipeD, List.foldr_cons, List.foldr_nil, Nat.reduceLeDiff, List.cons.injEq, and_self, List.length_cons, List.length_nil]
      refine ix_st h (by (repeat (first | exact KB.At.here | assumption | apply KB.At.there))) rfl ?_
      try simp only [dFor_e_p, dRng1_p, dRng2_p, dOver_p, dOverT_p, dOverS_p, dAltI_p, dEnum_p, dZip_p, dLc_e_p, dWhile_e_p, Int.toNat_natCast, dSeq_p, dChain_p, dOrT_p, dAndT_p, dNotT_p, dGetI_eq_p, Bool.not_true, Bool.not_false, dAsg_p, dOp_p, dVar_p, dC_p, gNm_p, gTp_p, gCn_p, gNl_p, dRet_p, dIf_p, dTest_p, dTru_p, dNot_p, dAnd_p, dOr_p, dNext_p, dDrop_p, dCons_p, dNil_p, dTup_p, dLst_e_p, dEmp_e_p, dEmpG_e_p, dDisp_e_p, dListZip_e_p, dGhE_e, dGh_e, dOverK_e, dFld_e, dSetF_e, dMake_e, dMeth_e, dPar_p, dPar3_p, dSetI_p, dCall_p, dCB_p, dBM_p, dBM0_p, dIfE_p, dNeg_p, dSl_p, dPart_p, dNoP_p, dAug_p, addI_p, dBreak_p, dCont_p, dAlt_p, dYes_p, dPairs_n, dPairs_c, gSubD_p, dBMd_p, addD_ii_p, addD_ss_p, addD_tt_p, subD_ii_p, mulD_ii_p, modD_ii_p, fdivD_ii_p, powE_ii_p, Int.reduceToNat, Int.reducePow, Int.reduceNeg, Int.neg_neg, ltD_ii_p, leD_ii_p, gtD_ii_p, geD_ii_p, ltD_ss_p, leD_ss_p, eqR_ii, eqR_ss, eqR_tt_p, eqR_bb, intR_b, intR_i, dFmt_e, dJs_n, dJs_c, strK_s, dJoined_p, fmtR_s, fmtR_i, strR_s, strR_i, lenR_t, lenR_s, tupleR_t, isNR_p, abs_ii, max_ii, min_ii, truD_b_p, slD_t_p, slD_s_p, inR_t, List.map, List.length, List.replicate, List.cons_append, List.nil_append, List.append_nil, List.getElem?_cons_succ, List.getElem?_cons_zero, Option.some.injEq, exists_eq_left', exists_eq_left, ex2, ex3, exists_eq', List.set_cons_succ, List.set_cons_zero, Nat.reduceAdd, Nat.reduceSub, true_and, and_true, D.bl.injEq, D.int.injEq, D.str.injEq, D.ptr.injEq, D.tup.injEq, decide_eq_true_eq, beq_iff_eq, Bool.false_eq_true, if_true, if_false, reduceIte, wipeD, List.foldr_cons, List.foldr_nil, Nat.reduceLeDiff, List.cons.injEq, and_self, List.length_cons, List.length_nil]
      refine set_st h (j := 2) rfl (by (repeat (first | exact KB.Upd.here | assumption | apply KB.Upd.there))) fun C h => ?_
      refine ix_st h (by (repeat (first | exact KB.At.here | assumption | apply KB.At.there))) rfl ?_
      refine ix_st h (by (repeat (first | exact KB.At.here | assumption | apply KB.At.there))) rfl ?_
      try simp only [dFor_e_p, dRng1_p, dRng2_p, dOver_p, dOverT_p, dOverS_p, dAltI_p, dEnum_p, dZip_p, dLc_e_p, dWhile_e_p, Int.toNat_natCast, dSeq_p, dChain_p, dOrT_p, dAndT_p, dNotT_p, dGetI_eq_p, Bool.not_true, Bool.not_false, dAsg_p, dOp_p, dVar_p, dC_p, gNm_p, gTp_p, gCn_p, gNl_p, dRet_p, dIf_p, dTest_p, dTru_p, dNot_p, dAnd_p, dOr_p, dNext_p, dDrop_p, dCons_p, dNil_p, dTup_p, dLst_e_p, dEmp_e_p, dEmpG_e_p, dDisp_e_p, dListZip_e_p, dGhE_e, dGh_e, dOverK_e, dFld_e, dSetF_e, dMake_e, dMeth_e, dPar_p, dPar3_p, dSetI_p, dCall_p, dCB_p, dBM_p, dBM0_p, dIfE_p, dNeg_p, dSl_p, dPart_p, dNoP_p, dAug_p, addI_p, dBreak_p, dCont_p, dAlt_p, dYes_p, dPairs_n, dPairs_c, gSubD_p, dBMd_p, addD_ii_p, addD_ss_p, addD_tt_p, subD_ii_p, mulD_ii_p, modD_ii_p, fdivD_ii_p, powE_ii_p, Int.reduceToNat, Int.reducePow, Int.reduceNeg, Int.neg_neg, ltD_ii_p, leD_ii_p, gtD_ii_p, geD_ii_p, ltD_ss_p, leD_ss_p, eqR_ii, eqR_ss, eqR_tt_p, eqR_bb, intR_b, intR_i, dFmt_e, dJs_n, dJs_c, strK_s, dJoined_p, fmtR_s, fmtR_i, strR_s, strR_i, lenR_t, lenR_s, tupleR_t, isNR_p, abs_ii, max_ii, min_ii, truD_b_p, slD_t_p, slD_s_p, inR_t, List.map, List.length, List.replicate, List.cons_append, List.nil_append, List.append_nil, List.getElem?_cons_succ, List.getElem?_cons_zero, Option.some.injEq, exists_eq_left', exists_eq_left, ex2, ex3, exists_eq', List.set_cons_succ, List.set_cons_zero, Nat.reduceAdd, Nat.reduceSub, true_and, and_true, D.bl.injEq, D.int.injEq, D.str.injEq, D.ptr.injEq, D.tup.injEq, decide_eq_true_eq, beq_iff_eq, Bool.false_eq_true, if_true, if_false, reduceIte, wipeD, List.foldr_cons, List.foldr_nil, Nat.reduceLeDiff, List.cons.injEq, and_self, List.length_cons, List.length_nil]
      refine ⟨CMulW_small (by simp only [PS.n] at hn; omega), ?_⟩
      refine ix_st h (by (repeat (first | exact KB.At.here | assumption | apply KB.At.there))) rfl ?_
      try simp only [dFor_e_p, dRng1_p, dRng2_p, dOver_p, dOverT_p, dOverS_p, dAltI_p, dEnum_p, dZip_p, dLc_e_p, dWhile_e_p, Int.toNat_natCast, dSeq_p, dChain_p, dOrT_p, dAndT_p, dNotT_p, dGetI_eq_p, Bool.not_true, Bool.not_false, dAsg_p, dOp_p, dVar_p, dC_p, gNm_p, gTp_p, gCn_p, gNl_p, dRet_p, dIf_p, dTest_p, dTru_p, dNot_p, dAnd_p, dOr_p, dNext_p, dDrop_p, dCons_p, dNil_p, dTup_p, dLst_e_p, dEmp_e_p, dEmpG_e_p, dDisp_e_p, dListZip_e_p, dGhE_e, dGh_e, dOverK_e, dFld_e, dSetF_e, dMake_e, dMeth_e, dPar_p, dPar3_p, dSetI_p, dCall_p, dCB_p, dBM_p, dBM0_p, dIfE_p, dNeg_p, dSl_p, dPart_p, dNoP_p, dAug_p, addI_p, dBreak_p, dCont_p, dAlt_p, dYes_p, dPairs_n, dPairs_c, gSubD_p, dBMd_p, addD_ii_p, addD_ss_p, addD_tt_p, subD_ii_p, mulD_ii_p, modD_ii_p, fdivD_ii_p, powE_ii_p, Int.reduceToNat, Int.reducePow, Int.reduceNeg, Int.neg_neg, ltD_ii_p, leD_ii_p, gtD_ii_p, geD_ii_p, ltD_ss_p, leD_ss_p, eqR_ii, eqR_ss, eqR_tt_p, eqR_bb, intR_b, intR_i, dFmt_e, dJs_n, dJs_c, strK_s, dJoined_p, fmtR_s, fmtR_i, strR_s, strR_i, lenR_t, lenR_s, tupleR_t, isNR_p, abs_ii, max_ii, min_ii, truD_b_p, slD_t_p, slD_s_p, inR_t, List.map, List.length, List.replicate, List.cons_append, List.nil_append, List.append_nil, List.getElem?_cons_succ, List.getElem?_cons_zero, Option.some.injEq, exists_eq_left', exists_eq_left, ex2, ex3, exists_eq', List.set_cons_succ, List.set_cons_zero, Nat.reduceAdd, Nat.reduceSub, true_and, and_true, D.bl.injEq, D.int.injEq, D.str.injEq, D.ptr.injEq, D.tup.injEq, decide_eq_true_eq, beq_iff_eq, Bool.false_eq_true, if_true, if_false, reduceIte, wipeD, List.foldr_cons, List.foldr_nil, Nat.reduceLeDiff, List.cons.injEq, and_self, List.length_cons, List.length_nil]
      simp only [PS.n] at hn
      have z1 : 0 ≤ (65537 * ((n : Int) + 1)) * (n + 1) := Int.mul_nonneg (by omega) (by omega)
      have z2 : (65537 * ((n : Int) + 1)) * (n + 1) < 2 ^ 60 := by
        have h1 : (65537 * ((n : Int) + 1)) * (n + 1) ≤ 2 ^ 37 * 2 ^ 20 := Int.mul_le_mul (by omega) (by omega) (by omega) (by decide)
        omega
      refine ⟨CMulW_small (by omega), wide_mul (a := 64) (b := 64) (by omega) (by decide) (by decide) (by decide) (by decide), by decide, by decide, ?_⟩
      generalize hsd : (b + 65537 * ((n : Int) + 1) * (n + 1) + 11) * 48271 % 2305843009213693921 = sd
      have s0 : 0 ≤ sd := by rw [← hsd]; exact Int.emod_nonneg _ (by decide)
      have s1 : sd < 2305843009213693921 := by rw [← hsd]; exact Int.emod_lt_of_pos _ (by decide)
      refine ix_st h (by (repeat (first | exact KB.At.here | assumption | apply KB.At.there))) rfl ?_
      try simp only [dFor_e_p, dRng1_p, dRng2_p, dOver_p, dOverT_p, dOverS_p, dAltI_p, dEnum_p, dZip_p, dLc_e_p, dWhile_e_p, Int.toNat_natCast, dSeq_p, dChain_p, dOrT_p, dAndT_p, dNotT_p, dGetI_eq_p, Bool.not_true, Bool.not_false, dAsg_p, dOp_p, dVar_p, dC_p, gNm_p, gTp_p, gCn_p, gNl_p, dRet_p, dIf_p, dTest_p, dTru_p, dNot_p, dAnd_p, dOr_p, dNext_p, dDrop_p, dCons_p, dNil_p, dTup_p, dLst_e_p, dEmp_e_p, dEmpG_e_p, dDisp_e_p, dListZip_e_p, dGhE_e, dGh_e, dOverK_e, dFld_e, dSetF_e, dMake_e, dMeth_e, dPar_p, dPar3_p, dSetI_p, dCall_p, dCB_p, dBM_p, dBM0_p, dIfE_p, dNeg_p, dSl_p, dPart_p, dNoP_p, dAug_p, addI_p, dBreak_p, dCont_p, dAlt_p, dYes_p, dPairs_n, dPairs_c, gSubD_p, dBMd_p, addD_ii_p, addD_ss_p, addD_tt_p, subD_ii_p, mulD_ii_p, modD_ii_p, fdivD_ii_p, powE_ii_p, Int.reduceToNat, Int.reducePow, Int.reduceNeg, Int.neg_neg, ltD_ii_p, leD_ii_p, gtD_ii_p, geD_ii_p, ltD_ss_p, leD_ss_p, eqR_ii, eqR_ss, eqR_tt_p, eqR_bb, intR_b, intR_i, dFmt_e, dJs_n, dJs_c, strK_s, dJoined_p, fmtR_s, fmtR_i, strR_s, strR_i, lenR_t, lenR_s, tupleR_t, isNR_p, abs_ii, max_ii, min_ii, truD_b_p, slD_t_p, slD_s_p, inR_t, List.map, List.length, List.replicate, List.cons_append, List.nil_append, List.append_nil, List.getElem?_cons_succ, List.getElem?_cons_zero, Option.some.injEq, exists_eq_left', exists_eq_left, ex2, ex3, exists_eq', List.set_cons_succ, List.set_cons_zero, Nat.reduceAdd, Nat.reduceSub, true_and, and_true, D.bl.injEq, D.int.injEq, D.str.injEq, D.ptr.injEq, D.tup.injEq, decide_eq_true_eq, beq_iff_eq, Bool.false_eq_true, if_true, if_false, reduceIte, wipeD, List.foldr_cons, List.foldr_nil, Nat.reduceLeDiff, List.cons.injEq, and_self, List.length_cons, List.length_nil]
      have u0 := Int.emod_nonneg sd (b := 1000003) (by decide)
      have u1 := Int.emod_lt_of_pos sd (b := 1000003) (by decide)
      refine ⟨CMulW_small (by omega), wide_mul (a := 64) (b := 64) (by omega) (by omega) (by decide) (by decide) (by decide), by decide, CDivW_small (by decide), CDivW_small (by decide), m0, ?_⟩
      refine ret_k ?_
      generalize hx : _ % m = x
      have e0 : 0 ≤ x := by rw [← hx]; exact Int.emod_nonneg _ (by omega)
      have e1 : x < m := by rw [← hx]; exact Int.emod_lt_of_pos _ m0
      have := k x.toNat ⟨[], b, n + 1, b0, b1, by decide⟩ C (by omega) (Nat.le_refl _) h
      rw [Int.toNat_of_nonneg e0] at this
      exact this
  unfold D__law_take runD r__law_take
  try simp only [dFor_e_p, dRng1_p, dRng2_p, dOver_p, dOverT_p, dOverS_p, dAltI_p, dEnum_p, dZip_p, dLc_e_p, dWhile_e_p, Int.toNat_natCast, dSeq_p, dChain_p, dOrT_p, dAndT_p, dNotT_p, dGetI_eq_p, Bool.not_true, Bool.not_false, dAsg_p, dOp_p, dVar_p, dC_p, gNm_p, gTp_p, gCn_p, gNl_p, dRet_p, dIf_p, dTest_p, dTru_p, dNot_p, dAnd_p, dOr_p, dNext_p, dDrop_p, dCons_p, dNil_p, dTup_p, dLst_e_p, dEmp_e_p, dEmpG_e_p, dDisp_e_p, dListZip_e_p, dGhE_e, dGh_e, dOverK_e, dFld_e, dSetF_e, dMake_e, dMeth_e, dPar_p, dPar3_p, dSetI_p, dCall_p, dCB_p, dBM_p, dBM0_p, dIfE_p, dNeg_p, dSl_p, dPart_p, dNoP_p, dAug_p, addI_p, dBreak_p, dCont_p, dAlt_p, dYes_p, dPairs_n, dPairs_c, gSubD_p, dBMd_p, addD_ii_p, addD_ss_p, addD_tt_p, subD_ii_p, mulD_ii_p, modD_ii_p, fdivD_ii_p, powE_ii_p, Int.reduceToNat, Int.reducePow, Int.reduceNeg, Int.neg_neg, ltD_ii_p, leD_ii_p, gtD_ii_p, geD_ii_p, ltD_ss_p, leD_ss_p, eqR_ii, eqR_ss, eqR_tt_p, eqR_bb, intR_b, intR_i, dFmt_e, dJs_n, dJs_c, strK_s, dJoined_p, fmtR_s, fmtR_i, strR_s, strR_i, lenR_t, lenR_s, tupleR_t, isNR_p, abs_ii, max_ii, min_ii, truD_b_p, slD_t_p, slD_s_p, inR_t, List.map, List.length, List.replicate, List.cons_append, List.nil_append, List.append_nil, List.getElem?_cons_succ, List.getElem?_cons_zero, Option.some.injEq, exists_eq_left', exists_eq_left, ex2, ex3, exists_eq', List.set_cons_succ, List.set_cons_zero, Nat.reduceAdd, Nat.reduceSub, true_and, and_true, D.bl.injEq, D.int.injEq, D.str.injEq, D.ptr.injEq, D.tup.injEq, decide_eq_true_eq, beq_iff_eq, Bool.false_eq_true, if_true, if_false, reduceIte, wipeD, List.foldr_cons, List.foldr_nil, Nat.reduceLeDiff, List.cons.injEq, and_self, List.length_cons, List.length_nil]
  refine ⟨fun w sl C => ∃ (o : List Int), sl = [some (.ptr p), some (.int m), none, none] ∧ w = o.length ∧ o.length ≤ 63 ∧ St S C0 C ((p, .lst [.ptr r, .int b, .int n], true) :: (r, .lst (o.map D.int), true) :: L2), ⟨_, o, rfl, rfl, ol, h⟩, fun w sl C hW => ?_⟩
  obtain ⟨o, rfl, rfl, ol, h⟩ := hW
  try simp only [dFor_e_p, dRng1_p, dRng2_p, dOver_p, dOverT_p, dOverS_p, dAltI_p, dEnum_p, dZip_p, dLc_e_p, dWhile_e_p, Int.toNat_natCast, dSeq_p, dChain_p, dOrT_p, dAndT_p, dNotT_p, dGetI_eq_p, Bool.not_true, Bool.not_false, dAsg_p, dOp_p, dVar_p, dC_p, gNm_p, gTp_p, gCn_p, gNl_p, dRet_p, dIf_p, dTest_p, dTru_p, dNot_p, dAnd_p, dOr_p, dNext_p, dDrop_p, dCons_p, dNil_p, dTup_p, dLst_e_p, dEmp_e_p, dEmpG_e_p, dDisp_e_p, dListZip_e_p, dGhE_e, dGh_e, dOverK_e, dFld_e, dSetF_e, dMake_e, dMeth_e, dPar_p, dPar3_p, dSetI_p, dCall_p, dCB_p, dBM_p, dBM0_p, dIfE_p, dNeg_p, dSl_p, dPart_p, dNoP_p, dAug_p, addI_p, dBreak_p, dCont_p, dAlt_p, dYes_p, dPairs_n, dPairs_c, gSubD_p, dBMd_p, addD_ii_p, addD_ss_p, addD_tt_p, subD_ii_p, mulD_ii_p, modD_ii_p, fdivD_ii_p, powE_ii_p, Int.reduceToNat, Int.reducePow, Int.reduceNeg, Int.neg_neg, ltD_ii_p, leD_ii_p, gtD_ii_p, geD_ii_p, ltD_ss_p, leD_ss_p, eqR_ii, eqR_ss, eqR_tt_p, eqR_bb, intR_b, intR_i, dFmt_e, dJs_n, dJs_c, strK_s, dJoined_p, fmtR_s, fmtR_i, strR_s, strR_i, lenR_t, lenR_s, tupleR_t, isNR_p, abs_ii, max_ii, min_ii, truD_b_p, slD_t_p, slD_s_p, inR_t, List.map, List.length, List.replicate, List.cons_append, List.nil_append, List.append_nil, List.getElem?_cons_succ, List.getElem?_cons_zero, Option.some.injEq, exists_eq_left', exists_eq_left, ex2, ex3, exists_eq', List.set_cons_succ, List.set_cons_zero, Nat.reduceAdd, Nat.reduceSub, true_and, and_true, D.bl.injEq, D.int.injEq, D.str.injEq, D.ptr.injEq, D.tup.injEq, decide_eq_true_eq, beq_iff_eq, Bool.false_eq_true, if_true, if_false, reduceIte, wipeD, List.foldr_cons, List.foldr_nil, Nat.reduceLeDiff, List.cons.injEq, and_self, List.length_cons, List.length_nil]
  refine ix_st h (by (repeat (first | exact KB.At.here | assumption | apply KB.At.there))) rfl ?_
  refine alloc_st h fun z C h => ?_
  refine eqL_st h (by (repeat (first | exact KB.At.here | assumption | apply KB.At.there))) (by (repeat (first | exact KB.At.here | assumption | apply KB.At.there))) (okEqs_ints o) rfl ?_
  rw [eqDs_ints_nil]
  have h := h.tail
  cases o with
  | nil =>
    refine ⟨_, rfl, ?_⟩
    rw [if_neg (by decide)]
    exact tail [] C ol h
  | cons x xs =>
    rw [List.map_cons] at h
    refine ⟨_, rfl, ?_⟩
    rw [if_pos (by rfl)]
    refine ix_st h (by (repeat (first | exact KB.At.here | assumption | apply KB.At.there))) rfl ?_
    refine ix_st h (by (repeat (first | exact KB.At.here | assumption | apply KB.At.there))) at0 ?_
    try simp only [dFor_e_p, dRng1_p, dRng2_p, dOver_p, dOverT_p, dOverS_p, dAltI_p, dEnum_p, dZip_p, dLc_e_p, dWhile_e_p, Int.toNat_natCast, dSeq_p, dChain_p, dOrT_p, dAndT_p, dNotT_p, dGetI_eq_p, Bool.not_true, Bool.not_false, dAsg_p, dOp_p, dVar_p, dC_p, gNm_p, gTp_p, gCn_p, gNl_p, dRet_p, dIf_p, dTest_p, dTru_p, dNot_p, dAnd_p, dOr_p, dNext_p, dDrop_p, dCons_p, dNil_p, dTup_p, dLst_e_p, dEmp_e_p, dEmpG_e_p, dDisp_e_p, dListZip_e_p, dGhE_e, dGh_e, dOverK_e, dFld_e, dSetF_e, dMake_e, dMeth_e, dPar_p, dPar3_p, dSetI_p, dCall_p, dCB_p, dBM_p, dBM0_p, dIfE_p, dNeg_p, dSl_p, dPart_p, dNoP_p, dAug_p, addI_p, dBreak_p, dCont_p, dAlt_p, dYes_p, dPairs_n, dPairs_c, gSubD_p, dBMd_p, addD_ii_p, addD_ss_p, addD_tt_p, subD_ii_p, mulD_ii_p, modD_ii_p, fdivD_ii_p, powE_ii_p, Int.reduceToNat, Int.reducePow, Int.reduceNeg, Int.neg_neg, ltD_ii_p, leD_ii_p, gtD_ii_p, geD_ii_p, ltD_ss_p, leD_ss_p, eqR_ii, eqR_ss, eqR_tt_p, eqR_bb, intR_b, intR_i, dFmt_e, dJs_n, dJs_c, strK_s, dJoined_p, fmtR_s, fmtR_i, strR_s, strR_i, lenR_t, lenR_s, tupleR_t, isNR_p, abs_ii, max_ii, min_ii, truD_b_p, slD_t_p, slD_s_p, inR_t, List.map, List.length, List.replicate, List.cons_append, List.nil_append, List.append_nil, List.getElem?_cons_succ, List.getElem?_cons_zero, Option.some.injEq, exists_eq_left', exists_eq_left, ex2, ex3, exists_eq', List.set_cons_succ, List.set_cons_zero, Nat.reduceAdd, Nat.reduceSub, true_and, and_true, D.bl.injEq, D.int.injEq, D.str.injEq, D.ptr.injEq, D.tup.injEq, decide_eq_true_eq, beq_iff_eq, Bool.false_eq_true, if_true, if_false, reduceIte, wipeD, List.foldr_cons, List.foldr_nil, Nat.reduceLeDiff, List.cons.injEq, and_self, List.length_cons, List.length_nil]
    split
    · unfold l__law_take_1
      try simp only [dFor_e_p, dRng1_p, dRng2_p, dOver_p, dOverT_p, dOverS_p, dAltI_p, dEnum_p, dZip_p, dLc_e_p, dWhile_e_p, Int.toNat_natCast, dSeq_p, dChain_p, dOrT_p, dAndT_p, dNotT_p, dGetI_eq_p, Bool.not_true, Bool.not_false, dAsg_p, dOp_p, dVar_p, dC_p, gNm_p, gTp_p, gCn_p, gNl_p, dRet_p, dIf_p, dTest_p, dTru_p, dNot_p, dAnd_p, dOr_p, dNext_p, dDrop_p, dCons_p, dNil_p, dTup_p, dLst_e_p, dEmp_e_p, dEmpG_e_p, dDisp_e_p, dListZip_e_p, dGhE_e, dGh_e, dOverK_e, dFld_e, dSetF_e, dMake_e, dMeth_e, dPar_p, dPar3_p, dSetI_p, dCall_p, dCB_p, dBM_p, dBM0_p, dIfE_p, dNeg_p, dSl_p, dPart_p, dNoP_p, dAug_p, addI_p, dBreak_p, dCont_p, dAlt_p, dYes_p, dPairs_n, dPairs_c, gSubD_p, dBMd_p, addD_ii_p, addD_ss_p, addD_tt_p, subD_ii_p, mulD_ii_p, modD_ii_p, fdivD_ii_p, powE_ii_p, Int.reduceToNat, Int.reducePow, Int.reduceNeg, Int.neg_neg, ltD_ii_p, leD_ii_p, gtD_ii_p, geD_ii_p, ltD_ss_p, leD_ss_p, eqR_ii, eqR_ss, eqR_tt_p, eqR_bb, intR_b, intR_i, dFmt_e, dJs_n, dJs_c, strK_s, dJoined_p, fmtR_s, fmtR_i, strR_s, strR_i, lenR_t, lenR_s, tupleR_t, isNR_p, abs_ii, max_ii, min_ii, truD_b_p, slD_t_p, slD_s_p, inR_t, List.map, List.length, List.replicate, List.cons_append, List.nil_append, List.append_nil, List.getElem?_cons_succ, List.getElem?_cons_zero, Option.some.injEq, exists_eq_left', exists_eq_left, ex2, ex3, exists_eq', List.set_cons_succ, List.set_cons_zero, Nat.reduceAdd, Nat.reduceSub, true_and, and_true, D.bl.injEq, D.int.injEq, D.str.injEq, D.ptr.injEq, D.tup.injEq, decide_eq_true_eq, beq_iff_eq, Bool.false_eq_true, if_true, if_false, reduceIte, wipeD, List.foldr_cons, List.foldr_nil, Nat.reduceLeDiff, List.cons.injEq, and_self, List.length_cons, List.length_nil]
      refine ix_st h (by (repeat (first | exact KB.At.here | assumption | apply KB.At.there))) rfl ?_
      try simp only [dFor_e_p, dRng1_p, dRng2_p, dOver_p, dOverT_p, dOverS_p, dAltI_p, dEnum_p, dZip_p, dLc_e_p, dWhile_e_p, Int.toNat_natCast, dSeq_p, dChain_p, dOrT_p, dAndT_p, dNotT_p, dGetI_eq_p, Bool.not_true, Bool.not_false, dAsg_p, dOp_p, dVar_p, dC_p, gNm_p, gTp_p, gCn_p, gNl_p, dRet_p, dIf_p, dTest_p, dTru_p, dNot_p, dAnd_p, dOr_p, dNext_p, dDrop_p, dCons_p, dNil_p, dTup_p, dLst_e_p, dEmp_e_p, dEmpG_e_p, dDisp_e_p, dListZip_e_p, dGhE_e, dGh_e, dOverK_e, dFld_e, dSetF_e, dMake_e, dMeth_e, dPar_p, dPar3_p, dSetI_p, dCall_p, dCB_p, dBM_p, dBM0_p, dIfE_p, dNeg_p, dSl_p, dPart_p, dNoP_p, dAug_p, addI_p, dBreak_p, dCont_p, dAlt_p, dYes_p, dPairs_n, dPairs_c, gSubD_p, dBMd_p, addD_ii_p, addD_ss_p, addD_tt_p, subD_ii_p, mulD_ii_p, modD_ii_p, fdivD_ii_p, powE_ii_p, Int.reduceToNat, Int.reducePow, Int.reduceNeg, Int.neg_neg, ltD_ii_p, leD_ii_p, gtD_ii_p, geD_ii_p, ltD_ss_p, leD_ss_p, eqR_ii, eqR_ss, eqR_tt_p, eqR_bb, intR_b, intR_i, dFmt_e, dJs_n, dJs_c, strK_s, dJoined_p, fmtR_s, fmtR_i, strR_s, strR_i, lenR_t, lenR_s, tupleR_t, isNR_p, abs_ii, max_ii, min_ii, truD_b_p, slD_t_p, slD_s_p, inR_t, List.map, List.length, List.replicate, List.cons_append, List.nil_append, List.append_nil, List.getElem?_cons_succ, List.getElem?_cons_zero, Option.some.injEq, exists_eq_left', exists_eq_left, ex2, ex3, exists_eq', List.set_cons_succ, List.set_cons_zero, Nat.reduceAdd, Nat.reduceSub, true_and, and_true, D.bl.injEq, D.int.injEq, D.str.injEq, D.ptr.injEq, D.tup.injEq, decide_eq_true_eq, beq_iff_eq, Bool.false_eq_true, if_true, if_false, reduceIte, wipeD, List.foldr_cons, List.foldr_nil, Nat.reduceLeDiff, List.cons.injEq, and_self, List.length_cons, List.length_nil]
      have sl : (x :: xs).length ≤ sizeLine := by rw [sizeLine_eq]; omega
      refine ⟨ty_st h (by (repeat (first | exact KB.At.here | assumption | apply KB.At.there))), popAt_n (j := 0) (h.get (by (repeat (first | exact KB.At.here | assumption | apply KB.At.there)))) (xs := D.int x :: xs.map D.int) rfl (by rw [List.length_cons, List.length_map]; exact sl) ?_⟩
      have h := h.put (c' := .lst (xs.map D.int)) (.there .here)
      rw [List.length_cons] at ol
      exact ⟨_, Nat.lt_succ_self _, _, Sub.refl _, xs, rfl, by omega, h⟩
    · exact tail (x :: xs) C ol h
end K15

namespace K15
open PySem PySem.Spec PyProof.Rows KB
open L2 hiding op_eqD op_neD call_listD
variable {S : Addr → Prop} {C0 C : Cp} {L L1 L2 : List Ent} {p q r : Addr} {s : PS} {Q : DQ} {E : Exn → Cp → Prop}
theorem of_l {xs : List D} (h : St S C0 C L) (d : Del L p (s.c r) true L1) (e : Del L1 r s.l true L2) (a : At L2 q (.lst xs)) (hn : s.n < 2 ^ 19) (x0 : xs ≠ []) (x1 : xs.length < 2 ^ 20) (k : ∀ x (s' : PS) C', x ∈ xs → s'.n ≤ s.n + 1 → St S C0 C' ((p, s'.c r, true) :: (r, s'.l, true) :: L2) → Q x C') : D__law_of [.ptr p, .ptr q] C Q E := by
  have h := two h d e
  unfold D__law_of runD r__law_of
  try simp only [dFor_e_p, dRng1_p, dRng2_p, dOver_p, dOverT_p, dOverS_p, dAltI_p, dEnum_p, dZip_p, dLc_e_p, dWhile_e_p, Int.toNat_natCast, dSeq_p, dChain_p, dOrT_p, dAndT_p, dNotT_p, dGetI_eq_p, Bool.not_true, Bool.not_false, dAsg_p, dOp_p, dVar_p, dC_p, gNm_p, gTp_p, gCn_p, gNl_p, dRet_p, dIf_p, dTest_p, dTru_p, dNot_p, dAnd_p, dOr_p, dNext_p, dDrop_p, dCons_p, dNil_p, dTup_p, dLst_e_p, dEmp_e_p, dEmpG_e_p, dDisp_e_p, dListZip_e_p, dGhE_e, dGh_e, dOverK_e, dFld_e, dSetF_e, dMake_e, dMeth_e, dPar_p, dPar3_p, dSetI_p, dCall_p, dCB_p, dBM_p, dBM0_p, dIfE_p, dNeg_p, dSl_p, dPart_p, dNoP_p, dAug_p, addI_p, dBreak_p, dCont_p, dAlt_p, dYes_p, dPairs_n, dPairs_c, gSubD_p, dBMd_p, addD_ii_p, addD_ss_p, addD_tt_p, subD_ii_p, mulD_ii_p, modD_ii_p, fdivD_ii_p, powE_ii_p, Int.reduceToNat, Int.reducePow, Int.reduceNeg, Int.neg_neg, ltD_ii_p, leD_ii_p, gtD_ii_p, geD_ii_p, ltD_ss_p, leD_ss_p, eqR_ii, eqR_ss, eqR_tt_p, eqR_bb, intR_b, intR_i, dFmt_e, dJs_n, dJs_c, strK_s, dJoined_p, fmtR_s, fmtR_i, strR_s, strR_i, lenR_t, lenR_s, tupleR_t, isNR_p, abs_ii, max_ii, min_ii, truD_b_p, slD_t_p, slD_s_p, inR_t, List.map, List.length, List.replicate, List.cons_append, List.nil_append, List.append_nil, List.getElem?_cons_succ, List.getElem?_cons_zero, Option.some.injEq, exists_eq_left', exists_eq_left, ex2, ex3, exists_eq', List.set_cons_succ, List.set_cons_zero, Nat.reduceAdd, Nat.reduceSub, true_and, and_true, D.bl.injEq, D.int.injEq, D.str.injEq, D.ptr.injEq, D.tup.injEq, decide_eq_true_eq, beq_iff_eq, Bool.false_eq_true, if_true, if_false, reduceIte, wipeD, List.foldr_cons, List.foldr_nil, Nat.reduceLeDiff, List.cons.injEq, and_self, List.length_cons, List.length_nil]
  refine len_st h (by (repeat (first | exact KB.At.here | assumption | apply KB.At.there))) ?_
  have := List.length_pos_iff.mpr x0
  refine take h (by (repeat (first | exact KB.Del.here | assumption | apply KB.Del.there))) (by (repeat (first | exact KB.Del.here | assumption | apply KB.Del.there))) hn (by omega) (by omega) fun t s' C ht hs h => ?_
  have ht : t < xs.length := by omega
  refine ix_st h (by (repeat (first | exact KB.At.here | assumption | apply KB.At.there))) (atI_nat (List.getElem?_eq_getElem ht)) ?_
  exact ret_k (k _ s' C (List.getElem_mem ht) hs h)
theorem of_s {l : List Nat} (h : St S C0 C L) (d : Del L p (s.c r) true L1) (e : Del L1 r s.l true L2) (hn : s.n < 2 ^ 19) (x0 : l ≠ []) (x1 : l.length < 2 ^ 20) (k : ∀ x (s' : PS) C', x ∈ l → s'.n ≤ s.n + 1 → St S C0 C' ((p, s'.c r, true) :: (r, s'.l, true) :: L2) → Q (.str [x]) C') : D__law_of [.ptr p, .str l] C Q E := by
  have h := two h d e
  unfold D__law_of runD r__law_of
  try simp only [dFor_e_p, dRng1_p, dRng2_p, dOver_p, dOverT_p, dOverS_p, dAltI_p, dEnum_p, dZip_p, dLc_e_p, dWhile_e_p, Int.toNat_natCast, dSeq_p, dChain_p, dOrT_p, dAndT_p, dNotT_p, dGetI_eq_p, Bool.not_true, Bool.not_false, dAsg_p, dOp_p, dVar_p, dC_p, gNm_p, gTp_p, gCn_p, gNl_p, dRet_p, dIf_p, dTest_p, dTru_p, dNot_p, dAnd_p, dOr_p, dNext_p, dDrop_p, dCons_p, dNil_p, dTup_p, dLst_e_p, dEmp_e_p, dEmpG_e_p, dDisp_e_p, dListZip_e_p, dGhE_e, dGh_e, dOverK_e, dFld_e, dSetF_e, dMake_e, dMeth_e, dPar_p, dPar3_p, dSetI_p, dCall_p, dCB_p, dBM_p, dBM0_p, dIfE_p, dNeg_p, dSl_p, dPart_p, dNoP_p, dAug_p, addI_p, dBreak_p, dCont_p, dAlt_p, dYes_p, dPairs_n, dPairs_c, gSubD_p, dBMd_p, addD_ii_p, addD_ss_p, addD_tt_p, subD_ii_p, mulD_ii_p, modD_ii_p, fdivD_ii_p, powE_ii_p, Int.reduceToNat, Int.reducePow, Int.reduceNeg, Int.neg_neg, ltD_ii_p, leD_ii_p, gtD_ii_p, geD_ii_p, ltD_ss_p, leD_ss_p, eqR_ii, eqR_ss, eqR_tt_p, eqR_bb, intR_b, intR_i, dFmt_e, dJs_n, dJs_c, strK_s, dJoined_p, fmtR_s, fmtR_i, strR_s, strR_i, lenR_t, lenR_s, tupleR_t, isNR_p, abs_ii, max_ii, min_ii, truD_b_p, slD_t_p, slD_s_p, inR_t, List.map, List.length, List.replicate, List.cons_append, List.nil_append, List.append_nil, List.getElem?_cons_succ, List.getElem?_cons_zero, Option.some.injEq, exists_eq_left', exists_eq_left, ex2, ex3, exists_eq', List.set_cons_succ, List.set_cons_zero, Nat.reduceAdd, Nat.reduceSub, true_and, and_true, D.bl.injEq, D.int.injEq, D.str.injEq, D.ptr.injEq, D.tup.injEq, decide_eq_true_eq, beq_iff_eq, Bool.false_eq_true, if_true, if_false, reduceIte, wipeD, List.foldr_cons, List.foldr_nil, Nat.reduceLeDiff, List.cons.injEq, and_self, List.length_cons, List.length_nil]
  have z : l.length ≤ sizeLine := by rw [sizeLine_eq]; omega
  refine ⟨z, ?_⟩
  have := List.length_pos_iff.mpr x0
  refine take h (by (repeat (first | exact KB.Del.here | assumption | apply KB.Del.there))) (by (repeat (first | exact KB.Del.here | assumption | apply KB.Del.there))) hn (by omega) (by omega) fun t s' C ht hs h => ?_
  have ht : t < l.length := by omega
  refine ix_s z (atI_nat (List.getElem?_eq_getElem ht)) ?_
  exact ret_k (k _ s' C (List.getElem_mem ht) hs h)
theorem begin_ {ns : List Int} {c : Cell} (h : St S C0 C L) (a : At L q c) (hc : c = .lst (ns.map D.int) ∨ c = .fz (ns.map D.int)) (hl : ns.length ≤ 63) (k : ∀ p r (s' : PS) C', s'.n = 0 → St S C0 C' ((p, s'.c r, true) :: (r, s'.l, true) :: L) → Q (.ptr p) C') : D__law_begin [.ptr q] C Q E := by
  unfold D__law_begin runD r__law_begin
  have il : isL C q (ns.map D.int) := by
    rcases hc with e | e
    · subst e; exact .inl (h.get a)
    · subst e; exact .inr (h.get a)
  try simp only [dFor_e_p, dRng1_p, dRng2_p, dOver_p, dOverT_p, dOverS_p, dAltI_p, dEnum_p, dZip_p, dLc_e_p, dWhile_e_p, Int.toNat_natCast, dSeq_p, dChain_p, dOrT_p, dAndT_p, dNotT_p, dGetI_eq_p, Bool.not_true, Bool.not_false, dAsg_p, dOp_p, dVar_p, dC_p, gNm_p, gTp_p, gCn_p, gNl_p, dRet_p, dIf_p, dTest_p, dTru_p, dNot_p, dAnd_p, dOr_p, dNext_p, dDrop_p, dCons_p, dNil_p, dTup_p, dLst_e_p, dEmp_e_p, dEmpG_e_p, dDisp_e_p, dListZip_e_p, dGhE_e, dGh_e, dOverK_e, dFld_e, dSetF_e, dMake_e, dMeth_e, dPar_p, dPar3_p, dSetI_p, dCall_p, dCB_p, dBM_p, dBM0_p, dIfE_p, dNeg_p, dSl_p, dPart_p, dNoP_p, dAug_p, addI_p, dBreak_p, dCont_p, dAlt_p, dYes_p, dPairs_n, dPairs_c, gSubD_p, dBMd_p, addD_ii_p, addD_ss_p, addD_tt_p, subD_ii_p, mulD_ii_p, modD_ii_p, fdivD_ii_p, powE_ii_p, Int.reduceToNat, Int.reducePow, Int.reduceNeg, Int.neg_neg, ltD_ii_p, leD_ii_p, gtD_ii_p, geD_ii_p, ltD_ss_p, leD_ss_p, eqR_ii, eqR_ss, eqR_tt_p, eqR_bb, intR_b, intR_i, dFmt_e, dJs_n, dJs_c, strK_s, dJoined_p, fmtR_s, fmtR_i, strR_s, strR_i, lenR_t, lenR_s, tupleR_t, isNR_p, abs_ii, max_ii, min_ii, truD_b_p, slD_t_p, slD_s_p, inR_t, List.map, List.length, List.replicate, List.cons_append, List.nil_append, List.append_nil, List.getElem?_cons_succ, List.getElem?_cons_zero, Option.some.injEq, exists_eq_left', exists_eq_left, ex2, ex3, exists_eq', List.set_cons_succ, List.set_cons_zero, Nat.reduceAdd, Nat.reduceSub, true_and, and_true, D.bl.injEq, D.int.injEq, D.str.injEq, D.ptr.injEq, D.tup.injEq, decide_eq_true_eq, beq_iff_eq, Bool.false_eq_true, if_true, if_false, reduceIte, wipeD, List.foldr_cons, List.foldr_nil, Nat.reduceLeDiff, List.cons.injEq, and_self, List.length_cons, List.length_nil]
  refine len_l il ?_
  try simp only [dFor_e_p, dRng1_p, dRng2_p, dOver_p, dOverT_p, dOverS_p, dAltI_p, dEnum_p, dZip_p, dLc_e_p, dWhile_e_p, Int.toNat_natCast, dSeq_p, dChain_p, dOrT_p, dAndT_p, dNotT_p, dGetI_eq_p, Bool.not_true, Bool.not_false, dAsg_p, dOp_p, dVar_p, dC_p, gNm_p, gTp_p, gCn_p, gNl_p, dRet_p, dIf_p, dTest_p, dTru_p, dNot_p, dAnd_p, dOr_p, dNext_p, dDrop_p, dCons_p, dNil_p, dTup_p, dLst_e_p, dEmp_e_p, dEmpG_e_p, dDisp_e_p, dListZip_e_p, dGhE_e, dGh_e, dOverK_e, dFld_e, dSetF_e, dMake_e, dMeth_e, dPar_p, dPar3_p, dSetI_p, dCall_p, dCB_p, dBM_p, dBM0_p, dIfE_p, dNeg_p, dSl_p, dPart_p, dNoP_p, dAug_p, addI_p, dBreak_p, dCont_p, dAlt_p, dYes_p, dPairs_n, dPairs_c, gSubD_p, dBMd_p, addD_ii_p, addD_ss_p, addD_tt_p, subD_ii_p, mulD_ii_p, modD_ii_p, fdivD_ii_p, powE_ii_p, Int.reduceToNat, Int.reducePow, Int.reduceNeg, Int.neg_neg, ltD_ii_p, leD_ii_p, gtD_ii_p, geD_ii_p, ltD_ss_p, leD_ss_p, eqR_ii, eqR_ss, eqR_tt_p, eqR_bb, intR_b, intR_i, dFmt_e, dJs_n, dJs_c, strK_s, dJoined_p, fmtR_s, fmtR_i, strR_s, strR_i, lenR_t, lenR_s, tupleR_t, isNR_p, abs_ii, max_ii, min_ii, truD_b_p, slD_t_p, slD_s_p, inR_t, List.map, List.length, List.replicate, List.cons_append, List.nil_append, List.append_nil, List.getElem?_cons_succ, List.getElem?_cons_zero, Option.some.injEq, exists_eq_left', exists_eq_left, ex2, ex3, exists_eq', List.set_cons_succ, List.set_cons_zero, Nat.reduceAdd, Nat.reduceSub, true_and, and_true, D.bl.injEq, D.int.injEq, D.str.injEq, D.ptr.injEq, D.tup.injEq, decide_eq_true_eq, beq_iff_eq, Bool.false_eq_true, if_true, if_false, reduceIte, wipeD, List.foldr_cons, List.foldr_nil, Nat.reduceLeDiff, List.cons.injEq, and_self, List.length_cons, List.length_nil]
  refine alloc_st h fun r C h => ?_
  have il : isL C q (ns.map D.int) := by
    rcases hc with e | e
    · subst e; exact .inl (h.get (.there a))
    · subst e; exact .inr (h.get (.there a))
  try simp only [dFor_e_p, dRng1_p, dRng2_p, dOver_p, dOverT_p, dOverS_p, dAltI_p, dEnum_p, dZip_p, dLc_e_p, dWhile_e_p, Int.toNat_natCast, dSeq_p, dChain_p, dOrT_p, dAndT_p, dNotT_p, dGetI_eq_p, Bool.not_true, Bool.not_false, dAsg_p, dOp_p, dVar_p, dC_p, gNm_p, gTp_p, gCn_p, gNl_p, dRet_p, dIf_p, dTest_p, dTru_p, dNot_p, dAnd_p, dOr_p, dNext_p, dDrop_p, dCons_p, dNil_p, dTup_p, dLst_e_p, dEmp_e_p, dEmpG_e_p, dDisp_e_p, dListZip_e_p, dGhE_e, dGh_e, dOverK_e, dFld_e, dSetF_e, dMake_e, dMeth_e, dPar_p, dPar3_p, dSetI_p, dCall_p, dCB_p, dBM_p, dBM0_p, dIfE_p, dNeg_p, dSl_p, dPart_p, dNoP_p, dAug_p, addI_p, dBreak_p, dCont_p, dAlt_p, dYes_p, dPairs_n, dPairs_c, gSubD_p, dBMd_p, addD_ii_p, addD_ss_p, addD_tt_p, subD_ii_p, mulD_ii_p, modD_ii_p, fdivD_ii_p, powE_ii_p, Int.reduceToNat, Int.reducePow, Int.reduceNeg, Int.neg_neg, ltD_ii_p, leD_ii_p, gtD_ii_p, geD_ii_p, ltD_ss_p, leD_ss_p, eqR_ii, eqR_ss, eqR_tt_p, eqR_bb, intR_b, intR_i, dFmt_e, dJs_n, dJs_c, strK_s, dJoined_p, fmtR_s, fmtR_i, strR_s, strR_i, lenR_t, lenR_s, tupleR_t, isNR_p, abs_ii, max_ii, min_ii, truD_b_p, slD_t_p, slD_s_p, inR_t, List.map, List.length, List.replicate, List.cons_append, List.nil_append, List.append_nil, List.getElem?_cons_succ, List.getElem?_cons_zero, Option.some.injEq, exists_eq_left', exists_eq_left, ex2, ex3, exists_eq', List.set_cons_succ, List.set_cons_zero, Nat.reduceAdd, Nat.reduceSub, true_and, and_true, D.bl.injEq, D.int.injEq, D.str.injEq, D.ptr.injEq, D.tup.injEq, decide_eq_true_eq, beq_iff_eq, Bool.false_eq_true, if_true, if_false, reduceIte, wipeD, List.foldr_cons, List.foldr_nil, Nat.reduceLeDiff, List.cons.injEq, and_self, List.length_cons, List.length_nil]
  refine sl_l il fun z hz => ?_
  have h := h.new (c := .lst (cutL (ns.map D.int) none (some 63))) hz
  have hcut : cutL (ns.map D.int) none (some 63) = ns.map D.int := by
    have := List.length_map (as := ns) (f := D.int)
    unfold cutL
    rw [HT.sIx_none, show (63 : Int) = ((63 : Nat) : Int) from rfl, HT.sIx_nat, List.drop_zero, Nat.sub_zero, Nat.min_eq_right (by omega), List.take_of_length_le (Nat.le_refl _)]
  rw [hcut] at h ⊢
  revert h
  generalize hC : up C z (.lst (ns.map D.int)) = C1
  intro h
  refine ⟨z, ns.map D.int, rfl, .inl (h.get .here), ?_⟩
  refine for_st (fun j sl C => ∃ (x3 x4 : Option D) (b : Int) (o : List Int), sl = [some (.ptr q), some (.int b), some (.ptr r), x3, x4] ∧ 0 ≤ b ∧ b < 2305843009213693951 ∧ o.length ≤ j ∧ St S C0 C ((z, .lst (ns.map D.int), true) :: (r, .lst (o.map D.int), true) :: L))
    ⟨none, none, _, [], rfl, by omega, by rw [List.length_map]; omega, Nat.le_refl _, h⟩ (fun j sl C ⟨_, _, _, _, _, _, _, _, h⟩ => .inl (h.get .here)) (fun j x sl C hj hx hJ => ?_) fun sl C hJ => ?_
  · obtain ⟨x3, x4, b, o, rfl, b0, b1, ol, h⟩ := hJ
    obtain ⟨i, rfl⟩ : ∃ i : Int, x = .tup [.int (j : Int), .int i] := by
      simp only [KB.pairD, List.length_map, List.length_zip, rngD_len, Nat.min_self] at hj
      simp only [KB.pairD, List.getElem?_map, List.zip_eq_zipWith, List.getElem?_zipWith, List.length_map] at hx
      rw [rngD_get hj, List.getElem?_eq_getElem hj] at hx
      refine ⟨ns[j], ?_⟩
      simp at hx
      exact hx.symm
    have hj : j < 63 := by
      simp only [KB.pairD, List.length_map, List.length_zip, rngD_len, Nat.min_self] at hj
      omega
    unfold l__law_begin_1
    try simp only [dFor_e_p, dRng1_p, dRng2_p, dOver_p, dOverT_p, dOverS_p, dAltI_p, dEnum_p, dZip_p, dLc_e_p, dWhile_e_p, Int.toNat_natCast, dSeq_p, dChain_p, dOrT_p, dAndT_p, dNotT_p, dGetI_eq_p, Bool.not_true, Bool.not_false, dAsg_p, dOp_p, dVar_p, dC_p, gNm_p, gTp_p, gCn_p, gNl_p, dRet_p, dIf_p, dTest_p, dTru_p, dNot_p, dAnd_p, dOr_p, dNext_p, dDrop_p, dCons_p, dNil_p, dTup_p, dLst_e_p, dEmp_e_p, dEmpG_e_p, dDisp_e_p, dListZip_e_p, dGhE_e, dGh_e, dOverK_e, dFld_e, dSetF_e, dMake_e, dMeth_e, dPar_p, dPar3_p, dSetI_p, dCall_p, dCB_p, dBM_p, dBM0_p, dIfE_p, dNeg_p, dSl_p, dPart_p, dNoP_p, dAug_p, addI_p, dBreak_p, dCont_p, dAlt_p, dYes_p, dPairs_n, dPairs_c, gSubD_p, dBMd_p, addD_ii_p, addD_ss_p, addD_tt_p, subD_ii_p, mulD_ii_p, modD_ii_p, fdivD_ii_p, powE_ii_p, Int.reduceToNat, Int.reducePow, Int.reduceNeg, Int.neg_neg, ltD_ii_p, leD_ii_p, gtD_ii_p, geD_ii_p, ltD_ss_p, leD_ss_p, eqR_ii, eqR_ss, eqR_tt_p, eqR_bb, intR_b, intR_i, dFmt_e, dJs_n, dJs_c, strK_s, dJoined_p, fmtR_s, fmtR_i, strR_s, strR_i, lenR_t, lenR_s, tupleR_t, isNR_p, abs_ii, max_ii, min_ii, truD_b_p, slD_t_p, slD_s_p, inR_t, List.map, List.length, List.replicate, List.cons_append, List.nil_append, List.append_nil, List.getElem?_cons_succ, List.getElem?_cons_zero, Option.some.injEq, exists_eq_left', exists_eq_left, ex2, ex3, exists_eq', List.set_cons_succ, List.set_cons_zero, Nat.reduceAdd, Nat.reduceSub, true_and, and_true, D.bl.injEq, D.int.injEq, D.str.injEq, D.ptr.injEq, D.tup.injEq, decide_eq_true_eq, beq_iff_eq, Bool.false_eq_true, if_true, if_false, reduceIte, wipeD, List.foldr_cons, List.foldr_nil, Nat.reduceLeDiff, List.cons.injEq, and_self, List.length_cons, List.length_nil]
    have sd0 := Int.emod_nonneg (b * 1000003 + i % 1000000000000000000000000000000 + 31 * (j : Int)) (b := 2305843009213693951) (by decide)
    have sd1 := Int.emod_lt_of_pos (b * 1000003 + i % 1000000000000000000000000000000 + 31 * (j : Int)) (b := 2305843009213693951) (by decide)
    refine ⟨wide_mul (a := 64) (b := 64) (by omega) (by decide) (by decide) (by decide) (by decide), by decide +kernel, by decide, CMulW_small (by omega), by decide, by decide +kernel, ?_⟩
    generalize (if i < 0 then -i else i) = ai
    split
    · refine ⟨ty_st h (by (repeat (first | exact KB.At.here | assumption | apply KB.At.there))), by decide +kernel, by decide +kernel, wide_mul (a := 256) (b := 256) (by decide +kernel) (by decide +kernel) (by decide) (by decide) (by decide), by decide, ?_⟩
      refine app_st (xs := o.map D.int) h (by rw [List.length_map, sizeLine_eq]; omega) (by (repeat (first | exact KB.Upd.here | assumption | apply KB.Upd.there))) fun C h => ?_
      exact ⟨C, Sub.refl _, _, _, _, o ++ [ai % (1000000000000000000000000000000000000000000000000000000000000 * 1000000000000000000000000000000000000000000000000000000000000)], ⟨rfl, rfl, rfl⟩, sd0, sd1, by rw [List.length_append, List.length_singleton]; omega, by rw [List.map_append]; exact h⟩
    · exact ⟨C, Sub.refl _, _, _, _, o, ⟨rfl, rfl, rfl⟩, sd0, sd1, by omega, h⟩
  · obtain ⟨x3, x4, b, o, rfl, b0, b1, ol, h⟩ := hJ
    unfold r__law_begin_1
    try simp only [dFor_e_p, dRng1_p, dRng2_p, dOver_p, dOverT_p, dOverS_p, dAltI_p, dEnum_p, dZip_p, dLc_e_p, dWhile_e_p, Int.toNat_natCast, dSeq_p, dChain_p, dOrT_p, dAndT_p, dNotT_p, dGetI_eq_p, Bool.not_true, Bool.not_false, dAsg_p, dOp_p, dVar_p, dC_p, gNm_p, gTp_p, gCn_p, gNl_p, dRet_p, dIf_p, dTest_p, dTru_p, dNot_p, dAnd_p, dOr_p, dNext_p, dDrop_p, dCons_p, dNil_p, dTup_p, dLst_e_p, dEmp_e_p, dEmpG_e_p, dDisp_e_p, dListZip_e_p, dGhE_e, dGh_e, dOverK_e, dFld_e, dSetF_e, dMake_e, dMeth_e, dPar_p, dPar3_p, dSetI_p, dCall_p, dCB_p, dBM_p, dBM0_p, dIfE_p, dNeg_p, dSl_p, dPart_p, dNoP_p, dAug_p, addI_p, dBreak_p, dCont_p, dAlt_p, dYes_p, dPairs_n, dPairs_c, gSubD_p, dBMd_p, addD_ii_p, addD_ss_p, addD_tt_p, subD_ii_p, mulD_ii_p, modD_ii_p, fdivD_ii_p, powE_ii_p, Int.reduceToNat, Int.reducePow, Int.reduceNeg, Int.neg_neg, ltD_ii_p, leD_ii_p, gtD_ii_p, geD_ii_p, ltD_ss_p, leD_ss_p, eqR_ii, eqR_ss, eqR_tt_p, eqR_bb, intR_b, intR_i, dFmt_e, dJs_n, dJs_c, strK_s, dJoined_p, fmtR_s, fmtR_i, strR_s, strR_i, lenR_t, lenR_s, tupleR_t, isNR_p, abs_ii, max_ii, min_ii, truD_b_p, slD_t_p, slD_s_p, inR_t, List.map, List.length, List.replicate, List.cons_append, List.nil_append, List.append_nil, List.getElem?_cons_succ, List.getElem?_cons_zero, Option.some.injEq, exists_eq_left', exists_eq_left, ex2, ex3, exists_eq', List.set_cons_succ, List.set_cons_zero, Nat.reduceAdd, Nat.reduceSub, true_and, and_true, D.bl.injEq, D.int.injEq, D.str.injEq, D.ptr.injEq, D.tup.injEq, decide_eq_true_eq, beq_iff_eq, Bool.false_eq_true, if_true, if_false, reduceIte, wipeD, List.foldr_cons, List.foldr_nil, Nat.reduceLeDiff, List.cons.injEq, and_self, List.length_cons, List.length_nil]
    refine alloc_st h fun p C h => ?_
    refine ret_k (k p r ⟨o, b, 0, b0, b1, ?_⟩ C rfl h.snd)
    rw [show (KB.pairD (rngD 0 (ns.map D.int).length) (ns.map D.int)).length = ns.length by simp [KB.pairD, rngD_len]] at ol
    omega
end K15

namespace K15
open PySem PySem.Spec PyProof.Rows KB
open L2 hiding op_eqD op_neD call_listD
variable {S : Addr → Prop} {C0 C : Cp} {L L1 L2 : List Ent} {p q r : Addr} {s : PS} {Q : DQ} {E : Exn → Cp → Prop}
/-- a text of few plain signs -/
def Tx (l : List Nat) : Prop := l.length ≤ 60 ∧ Sg l
theorem Tx.dec {l : List Nat} (h : (decide (l.length ≤ 60) && l.all fun c => decide (c < 256)) = true) : Tx l := by
  rw [Bool.and_eq_true, decide_eq_true_eq, List.all_eq_true] at h
  exact ⟨h.1, fun c hc => by simpa using h.2 c hc⟩
/-- one of some texts -/
theorem of_tx {zs : List (List Nat)} (h : St S C0 C L) (d : Del L p (s.c r) true L1) (e : Del L1 r s.l true L2) (a : At L2 q (.lst (zs.map D.str))) (hn : s.n < 2 ^ 19) (x0 : zs ≠ []) (x1 : zs.length < 2 ^ 20) (k : ∀ x (s' : PS) C', x ∈ zs → s'.n ≤ s.n + 1 → St S C0 C' ((p, s'.c r, true) :: (r, s'.l, true) :: L2) → Q (.str x) C') : D__law_of [.ptr p, .ptr q] C Q E := by
  refine of_l h d e a hn (fun z => x0 (List.map_eq_nil_iff.mp z)) (by rw [List.length_map]; exact x1) fun x s' C hx hs h => ?_
  obtain ⟨l, hl, rfl⟩ := List.mem_map.mp hx
  exact k l s' C hl hs h
/-- [f(..) for j in range(m)], the pot drawn from -/
theorem lc_pot {α : Type} {f : α → D} {P : α → Prop} {m c : Nat} {ok : Cp → Prop} {te : DE} {vs : List Nat} {sl : Sl} {g : DG} (hok : ∀ C, ok C) (h : St S C0 C ((p, s.c r, true) :: (r, s.l, true) :: L)) (hm : m < 2 ^ 20)
    (hs : ∀ (i : Nat) (s' : PS) C', i < m → s'.n ≤ s.n + i * c → St S C0 C' ((p, s'.c r, true) :: (r, s'.l, true) :: L) → ∀ Q' : DQ, (∀ x (s'' : PS) C'', P x → s''.n ≤ s'.n + c → St S C0 C'' ((p, s''.c r, true) :: (r, s''.l, true) :: L) → Q' (f x) C'') → g (.int (i : Int)) (wipeD sl vs) C' fun s2 C2 => te s2 C2 Q')
    (k : ∀ (ys : List α) q (s' : PS) C', ys.length = m → (∀ y ∈ ys, P y) → s'.n ≤ s.n + m * c → St S C0 C' ((q, .lst (ys.map f), true) :: (p, s'.c r, true) :: (r, s'.l, true) :: L) → Q (.ptr q) C') : lcK (rngD 0 m) ok g dYes te vs sl C Q := by
  refine lcR_st m (fun i acc C => ∃ (ys : List α) (s' : PS), acc = ys.map f ∧ ys.length = i ∧ (∀ y ∈ ys, P y) ∧ s'.n ≤ s.n + i * c ∧ St S C0 C ((p, s'.c r, true) :: (r, s'.l, true) :: L)) ⟨[], s, rfl, rfl, (fun y hy => by cases hy), by omega, h⟩ hok (fun i acc C hi ha hI => ?_) (by rw [sizeLine_eq]; omega) fun acc C hI => ?_
  · obtain ⟨ys, s', rfl, hl, hP, hn, h⟩ := hI
    simp only [dYes, if_true]
    refine hs i s' C hi hn h _ fun x s'' C'' hx hn' h' => ⟨C'', Sub.refl _, ys ++ [x], s'', by rw [List.map_append]; rfl, by rw [List.length_append, hl]; rfl, fun y hy => ?_, by rw [Nat.add_mul]; omega, h'⟩
    rcases List.mem_append.mp hy with hy | hy
    · exact hP y hy
    · rw [List.mem_singleton.mp hy]; exact hx
  · obtain ⟨ys, s', rfl, hl, hP, hn, h⟩ := hI
    exact alloc_st h fun r C h => k ys r s' C hl hP hn h
theorem tx_of {zs : List (List Nat)} {l : List Nat} (hl : l ∈ zs) (h : zs.all (fun l => decide (l.length ≤ 60) && l.all fun c => decide (c < 256)) = true) : Tx l := Tx.dec (List.all_eq_true.mp h l hl)
theorem word (h : St S C0 C L) (d : Del L p (s.c r) true L1) (e : Del L1 r s.l true L2) (hn : s.n < 2 ^ 18) (k : ∀ l (s' : PS) C', Tx l → s'.n ≤ s.n + 15 → St S C0 C' ((p, s'.c r, true) :: (r, s'.l, true) :: L2) → Q (.str l) C') : D__law_word [.ptr p] C Q E := by
  have h := two h d e
  unfold D__law_word runD r__law_word
  try simp only [dFor_e_p, dRng1_p, dRng2_p, dOver_p, dOverT_p, dOverS_p, dAltI_p, dEnum_p, dZip_p, dLc_e_p, dWhile_e_p, Int.toNat_natCast, dSeq_p, dChain_p, dOrT_p, dAndT_p, dNotT_p, dGetI_eq_p, Bool.not_true, Bool.not_false, dAsg_p, dOp_p, dVar_p, dC_p, gNm_p, gTp_p, gCn_p, gNl_p, dRet_p, dIf_p, dTest_p, dTru_p, dNot_p, dAnd_p, dOr_p, dNext_p, dDrop_p, dCons_p, dNil_p, dTup_p, dLst_e_p, dEmp_e_p, dEmpG_e_p, dDisp_e_p, dListZip_e_p, dGhE_e, dGh_e, dOverK_e, dFld_e, dSetF_e, dMake_e, dMeth_e, dPar_p, dPar3_p, dSetI_p, dCall_p, dCB_p, dBM_p, dBM0_p, dIfE_p, dNeg_p, dSl_p, dPart_p, dNoP_p, dAug_p, addI_p, dBreak_p, dCont_p, dAlt_p, dYes_p, dPairs_n, dPairs_c, gSubD_p, dBMd_p, addD_ii_p, addD_ss_p, addD_tt_p, subD_ii_p, mulD_ii_p, modD_ii_p, fdivD_ii_p, powE_ii_p, Int.reduceToNat, Int.reducePow, Int.reduceNeg, Int.neg_neg, ltD_ii_p, leD_ii_p, gtD_ii_p, geD_ii_p, ltD_ss_p, leD_ss_p, eqR_ii, eqR_ss, eqR_tt_p, eqR_bb, intR_b, intR_i, dFmt_e, dJs_n, dJs_c, strK_s, dJoined_p, fmtR_s, fmtR_i, strR_s, strR_i, lenR_t, lenR_s, tupleR_t, isNR_p, abs_ii, max_ii, min_ii, truD_b_p, slD_t_p, slD_s_p, inR_t, List.map, List.length, List.replicate, List.cons_append, List.nil_append, List.append_nil, List.getElem?_cons_succ, List.getElem?_cons_zero, Option.some.injEq, exists_eq_left', exists_eq_left, ex2, ex3, exists_eq', List.set_cons_succ, List.set_cons_zero, Nat.reduceAdd, Nat.reduceSub, true_and, and_true, D.bl.injEq, D.int.injEq, D.str.injEq, D.ptr.injEq, D.tup.injEq, decide_eq_true_eq, beq_iff_eq, Bool.false_eq_true, if_true, if_false, reduceIte, wipeD, List.foldr_cons, List.foldr_nil, Nat.reduceLeDiff, List.cons.injEq, and_self, List.length_cons, List.length_nil]
  refine alloc_st h fun q C h => ?_
  try simp only [dFor_e_p, dRng1_p, dRng2_p, dOver_p, dOverT_p, dOverS_p, dAltI_p, dEnum_p, dZip_p, dLc_e_p, dWhile_e_p, Int.toNat_natCast, dSeq_p, dChain_p, dOrT_p, dAndT_p, dNotT_p, dGetI_eq_p, Bool.not_true, Bool.not_false, dAsg_p, dOp_p, dVar_p, dC_p, gNm_p, gTp_p, gCn_p, gNl_p, dRet_p, dIf_p, dTest_p, dTru_p, dNot_p, dAnd_p, dOr_p, dNext_p, dDrop_p, dCons_p, dNil_p, dTup_p, dLst_e_p, dEmp_e_p, dEmpG_e_p, dDisp_e_p, dListZip_e_p, dGhE_e, dGh_e, dOverK_e, dFld_e, dSetF_e, dMake_e, dMeth_e, dPar_p, dPar3_p, dSetI_p, dCall_p, dCB_p, dBM_p, dBM0_p, dIfE_p, dNeg_p, dSl_p, dPart_p, dNoP_p, dAug_p, addI_p, dBreak_p, dCont_p, dAlt_p, dYes_p, dPairs_n, dPairs_c, gSubD_p, dBMd_p, addD_ii_p, addD_ss_p, addD_tt_p, subD_ii_p, mulD_ii_p, modD_ii_p, fdivD_ii_p, powE_ii_p, Int.reduceToNat, Int.reducePow, Int.reduceNeg, Int.neg_neg, ltD_ii_p, leD_ii_p, gtD_ii_p, geD_ii_p, ltD_ss_p, leD_ss_p, eqR_ii, eqR_ss, eqR_tt_p, eqR_bb, intR_b, intR_i, dFmt_e, dJs_n, dJs_c, strK_s, dJoined_p, fmtR_s, fmtR_i, strR_s, strR_i, lenR_t, lenR_s, tupleR_t, isNR_p, abs_ii, max_ii, min_ii, truD_b_p, slD_t_p, slD_s_p, inR_t, List.map, List.length, List.replicate, List.cons_append, List.nil_append, List.append_nil, List.getElem?_cons_succ, List.getElem?_cons_zero, Option.some.injEq, exists_eq_left', exists_eq_left, ex2, ex3, exists_eq', List.set_cons_succ, List.set_cons_zero, Nat.reduceAdd, Nat.reduceSub, true_and, and_true, D.bl.injEq, D.int.injEq, D.str.injEq, D.ptr.injEq, D.tup.injEq, decide_eq_true_eq, beq_iff_eq, Bool.false_eq_true, if_true, if_false, reduceIte, wipeD, List.foldr_cons, List.foldr_nil, Nat.reduceLeDiff, List.cons.injEq, and_self, List.length_cons, List.length_nil]
  refine take h (by (repeat (first | exact KB.Del.here | assumption | apply KB.Del.there))) (by (repeat (first | exact KB.Del.here | assumption | apply KB.Del.there))) (by omega) (by decide) (by decide) fun t s1 C ht hs h => ?_
  try simp only [dFor_e_p, dRng1_p, dRng2_p, dOver_p, dOverT_p, dOverS_p, dAltI_p, dEnum_p, dZip_p, dLc_e_p, dWhile_e_p, Int.toNat_natCast, dSeq_p, dChain_p, dOrT_p, dAndT_p, dNotT_p, dGetI_eq_p, Bool.not_true, Bool.not_false, dAsg_p, dOp_p, dVar_p, dC_p, gNm_p, gTp_p, gCn_p, gNl_p, dRet_p, dIf_p, dTest_p, dTru_p, dNot_p, dAnd_p, dOr_p, dNext_p, dDrop_p, dCons_p, dNil_p, dTup_p, dLst_e_p, dEmp_e_p, dEmpG_e_p, dDisp_e_p, dListZip_e_p, dGhE_e, dGh_e, dOverK_e, dFld_e, dSetF_e, dMake_e, dMeth_e, dPar_p, dPar3_p, dSetI_p, dCall_p, dCB_p, dBM_p, dBM0_p, dIfE_p, dNeg_p, dSl_p, dPart_p, dNoP_p, dAug_p, addI_p, dBreak_p, dCont_p, dAlt_p, dYes_p, dPairs_n, dPairs_c, gSubD_p, dBMd_p, addD_ii_p, addD_ss_p, addD_tt_p, subD_ii_p, mulD_ii_p, modD_ii_p, fdivD_ii_p, powE_ii_p, Int.reduceToNat, Int.reducePow, Int.reduceNeg, Int.neg_neg, ltD_ii_p, leD_ii_p, gtD_ii_p, geD_ii_p, ltD_ss_p, leD_ss_p, eqR_ii, eqR_ss, eqR_tt_p, eqR_bb, intR_b, intR_i, dFmt_e, dJs_n, dJs_c, strK_s, dJoined_p, fmtR_s, fmtR_i, strR_s, strR_i, lenR_t, lenR_s, tupleR_t, isNR_p, abs_ii, max_ii, min_ii, truD_b_p, slD_t_p, slD_s_p, inR_t, List.map, List.length, List.replicate, List.cons_append, List.nil_append, List.append_nil, List.getElem?_cons_succ, List.getElem?_cons_zero, Option.some.injEq, exists_eq_left', exists_eq_left, ex2, ex3, exists_eq', List.set_cons_succ, List.set_cons_zero, Nat.reduceAdd, Nat.reduceSub, true_and, and_true, D.bl.injEq, D.int.injEq, D.str.injEq, D.ptr.injEq, D.tup.injEq, decide_eq_true_eq, beq_iff_eq, Bool.false_eq_true, if_true, if_false, reduceIte, wipeD, List.foldr_cons, List.foldr_nil, Nat.reduceLeDiff, List.cons.injEq, and_self, List.length_cons, List.length_nil]
  split
  · refine of_tx (zs := [[97], [98], [97, 45, 98], [109, 97, 114, 107, 105, 110, 103, 45, 97, 98, 99, 100], [109, 97, 114, 107, 105, 110, 103, 45, 97, 98, 99, 101], [48], [57], [49, 48], [119, 97, 108, 108, 115], [45]]) h (by (repeat (first | exact KB.Del.here | assumption | apply KB.Del.there))) (by (repeat (first | exact KB.Del.here | assumption | apply KB.Del.there))) (by (repeat (first | exact KB.At.here | assumption | apply KB.At.there))) (by omega) (by simp) (by decide) fun l s2 C hl h2 h => ?_
    exact ret_k (k l s2 C (tx_of hl (by decide +kernel)) (by omega) (h.drop (by (repeat (first | exact KB.Del.here | assumption | apply KB.Del.there)))))
  · have h := h.drop (L' := (p, s1.c r, true) :: (r, s1.l, true) :: L2) (by (repeat (first | exact KB.Del.here | assumption | apply KB.Del.there)))
    unfold r__law_word_1
    try simp only [dFor_e_p, dRng1_p, dRng2_p, dOver_p, dOverT_p, dOverS_p, dAltI_p, dEnum_p, dZip_p, dLc_e_p, dWhile_e_p, Int.toNat_natCast, dSeq_p, dChain_p, dOrT_p, dAndT_p, dNotT_p, dGetI_eq_p, Bool.not_true, Bool.not_false, dAsg_p, dOp_p, dVar_p, dC_p, gNm_p, gTp_p, gCn_p, gNl_p, dRet_p, dIf_p, dTest_p, dTru_p, dNot_p, dAnd_p, dOr_p, dNext_p, dDrop_p, dCons_p, dNil_p, dTup_p, dLst_e_p, dEmp_e_p, dEmpG_e_p, dDisp_e_p, dListZip_e_p, dGhE_e, dGh_e, dOverK_e, dFld_e, dSetF_e, dMake_e, dMeth_e, dPar_p, dPar3_p, dSetI_p, dCall_p, dCB_p, dBM_p, dBM0_p, dIfE_p, dNeg_p, dSl_p, dPart_p, dNoP_p, dAug_p, addI_p, dBreak_p, dCont_p, dAlt_p, dYes_p, dPairs_n, dPairs_c, gSubD_p, dBMd_p, addD_ii_p, addD_ss_p, addD_tt_p, subD_ii_p, mulD_ii_p, modD_ii_p, fdivD_ii_p, powE_ii_p, Int.reduceToNat, Int.reducePow, Int.reduceNeg, Int.neg_neg, ltD_ii_p, leD_ii_p, gtD_ii_p, geD_ii_p, ltD_ss_p, leD_ss_p, eqR_ii, eqR_ss, eqR_tt_p, eqR_bb, intR_b, intR_i, dFmt_e, dJs_n, dJs_c, strK_s, dJoined_p, fmtR_s, fmtR_i, strR_s, strR_i, lenR_t, lenR_s, tupleR_t, isNR_p, abs_ii, max_ii, min_ii, truD_b_p, slD_t_p, slD_s_p, inR_t, List.map, List.length, List.replicate, List.cons_append, List.nil_append, List.append_nil, List.getElem?_cons_succ, List.getElem?_cons_zero, Option.some.injEq, exists_eq_left', exists_eq_left, ex2, ex3, exists_eq', List.set_cons_succ, List.set_cons_zero, Nat.reduceAdd, Nat.reduceSub, true_and, and_true, D.bl.injEq, D.int.injEq, D.str.injEq, D.ptr.injEq, D.tup.injEq, decide_eq_true_eq, beq_iff_eq, Bool.false_eq_true, if_true, if_false, reduceIte, wipeD, List.foldr_cons, List.foldr_nil, Nat.reduceLeDiff, List.cons.injEq, and_self, List.length_cons, List.length_nil]
    refine ⟨rfl, ?_⟩
    refine take h (by (repeat (first | exact KB.Del.here | assumption | apply KB.Del.there))) (by (repeat (first | exact KB.Del.here | assumption | apply KB.Del.there))) (by omega) (by decide) (by decide) fun t2 s2 C ht2 h2 h => ?_
    try simp only [dFor_e_p, dRng1_p, dRng2_p, dOver_p, dOverT_p, dOverS_p, dAltI_p, dEnum_p, dZip_p, dLc_e_p, dWhile_e_p, Int.toNat_natCast, dSeq_p, dChain_p, dOrT_p, dAndT_p, dNotT_p, dGetI_eq_p, Bool.not_true, Bool.not_false, dAsg_p, dOp_p, dVar_p, dC_p, gNm_p, gTp_p, gCn_p, gNl_p, dRet_p, dIf_p, dTest_p, dTru_p, dNot_p, dAnd_p, dOr_p, dNext_p, dDrop_p, dCons_p, dNil_p, dTup_p, dLst_e_p, dEmp_e_p, dEmpG_e_p, dDisp_e_p, dListZip_e_p, dGhE_e, dGh_e, dOverK_e, dFld_e, dSetF_e, dMake_e, dMeth_e, dPar_p, dPar3_p, dSetI_p, dCall_p, dCB_p, dBM_p, dBM0_p, dIfE_p, dNeg_p, dSl_p, dPart_p, dNoP_p, dAug_p, addI_p, dBreak_p, dCont_p, dAlt_p, dYes_p, dPairs_n, dPairs_c, gSubD_p, dBMd_p, addD_ii_p, addD_ss_p, addD_tt_p, subD_ii_p, mulD_ii_p, modD_ii_p, fdivD_ii_p, powE_ii_p, Int.reduceToNat, Int.reducePow, Int.reduceNeg, Int.neg_neg, ltD_ii_p, leD_ii_p, gtD_ii_p, geD_ii_p, ltD_ss_p, leD_ss_p, eqR_ii, eqR_ss, eqR_tt_p, eqR_bb, intR_b, intR_i, dFmt_e, dJs_n, dJs_c, strK_s, dJoined_p, fmtR_s, fmtR_i, strR_s, strR_i, lenR_t, lenR_s, tupleR_t, isNR_p, abs_ii, max_ii, min_ii, truD_b_p, slD_t_p, slD_s_p, inR_t, List.map, List.length, List.replicate, List.cons_append, List.nil_append, List.append_nil, List.getElem?_cons_succ, List.getElem?_cons_zero, Option.some.injEq, exists_eq_left', exists_eq_left, ex2, ex3, exists_eq', List.set_cons_succ, List.set_cons_zero, Nat.reduceAdd, Nat.reduceSub, true_and, and_true, D.bl.injEq, D.int.injEq, D.str.injEq, D.ptr.injEq, D.tup.injEq, decide_eq_true_eq, beq_iff_eq, Bool.false_eq_true, if_true, if_false, reduceIte, wipeD, List.foldr_cons, List.foldr_nil, Nat.reduceLeDiff, List.cons.injEq, and_self, List.length_cons, List.length_nil]
    refine ⟨by omega, by omega, ?_⟩
    have et : (1 + (t2 : Int)).toNat = t2 + 1 := by omega
    rw [et]
    refine lc_pot (P := fun l : List Nat => l.length ≤ 1 ∧ Sg l) (f := D.str) (c := 1) (fun _ => trivial) h (by omega) (fun i s' C hi hs' h Q' k' => ?_) fun ys q s3 C hl hP h3 h => ?_
    · try simp only [dFor_e_p, dRng1_p, dRng2_p, dOver_p, dOverT_p, dOverS_p, dAltI_p, dEnum_p, dZip_p, dLc_e_p, dWhile_e_p, Int.toNat_natCast, dSeq_p, dChain_p, dOrT_p, dAndT_p, dNotT_p, dGetI_eq_p, Bool.not_true, Bool.not_false, dAsg_p, dOp_p, dVar_p, dC_p, gNm_p, gTp_p, gCn_p, gNl_p, dRet_p, dIf_p, dTest_p, dTru_p, dNot_p, dAnd_p, dOr_p, dNext_p, dDrop_p, dCons_p, dNil_p, dTup_p, dLst_e_p, dEmp_e_p, dEmpG_e_p, dDisp_e_p, dListZip_e_p, dGhE_e, dGh_e, dOverK_e, dFld_e, dSetF_e, dMake_e, dMeth_e, dPar_p, dPar3_p, dSetI_p, dCall_p, dCB_p, dBM_p, dBM0_p, dIfE_p, dNeg_p, dSl_p, dPart_p, dNoP_p, dAug_p, addI_p, dBreak_p, dCont_p, dAlt_p, dYes_p, dPairs_n, dPairs_c, gSubD_p, dBMd_p, addD_ii_p, addD_ss_p, addD_tt_p, subD_ii_p, mulD_ii_p, modD_ii_p, fdivD_ii_p, powE_ii_p, Int.reduceToNat, Int.reducePow, Int.reduceNeg, Int.neg_neg, ltD_ii_p, leD_ii_p, gtD_ii_p, geD_ii_p, ltD_ss_p, leD_ss_p, eqR_ii, eqR_ss, eqR_tt_p, eqR_bb, intR_b, intR_i, dFmt_e, dJs_n, dJs_c, strK_s, dJoined_p, fmtR_s, fmtR_i, strR_s, strR_i, lenR_t, lenR_s, tupleR_t, isNR_p, abs_ii, max_ii, min_ii, truD_b_p, slD_t_p, slD_s_p, inR_t, List.map, List.length, List.replicate, List.cons_append, List.nil_append, List.append_nil, List.getElem?_cons_succ, List.getElem?_cons_zero, Option.some.injEq, exists_eq_left', exists_eq_left, ex2, ex3, exists_eq', List.set_cons_succ, List.set_cons_zero, Nat.reduceAdd, Nat.reduceSub, true_and, and_true, D.bl.injEq, D.int.injEq, D.str.injEq, D.ptr.injEq, D.tup.injEq, decide_eq_true_eq, beq_iff_eq, Bool.false_eq_true, if_true, if_false, reduceIte, wipeD, List.foldr_cons, List.foldr_nil, Nat.reduceLeDiff, List.cons.injEq, and_self, List.length_cons, List.length_nil]
      refine of_s h (by (repeat (first | exact KB.Del.here | assumption | apply KB.Del.there))) (by (repeat (first | exact KB.Del.here | assumption | apply KB.Del.there))) (by omega) (by simp) (by simp) fun x s'' C hx h'' h => ?_
      refine k' [x] s'' C ⟨Nat.le_refl _, fun c hc => ?_⟩ h'' h
      rw [List.mem_singleton.mp hc]
      revert hx
      generalize x = y
      revert y
      decide +kernel
    · refine joinB_st h (by (repeat (first | exact KB.At.here | assumption | apply KB.At.there))) (n := 1) (m := 12) (fun z hz => (hP z hz).1) (by omega) (by decide) fun l hl2 hs2 => ?_
      exact ret_k (k l s3 C ⟨by simp at hl2; omega, hs2 (fun c hc => by cases hc) fun z hz => (hP z hz).2⟩ (by omega) h.tail)
theorem form (h : St S C0 C L) (d : Del L p (s.c r) true L1) (e : Del L1 r s.l true L2) (hn : s.n < 2 ^ 18) (k : ∀ l (s' : PS) C', Tx l → s'.n ≤ s.n + 1 → St S C0 C' ((p, s'.c r, true) :: (r, s'.l, true) :: L2) → Q (.str l) C') : D__law_form [.ptr p] C Q E := by
  have h := two h d e
  unfold D__law_form runD r__law_form
  try simp only [dFor_e_p, dRng1_p, dRng2_p, dOver_p, dOverT_p, dOverS_p, dAltI_p, dEnum_p, dZip_p, dLc_e_p, dWhile_e_p, Int.toNat_natCast, dSeq_p, dChain_p, dOrT_p, dAndT_p, dNotT_p, dGetI_eq_p, Bool.not_true, Bool.not_false, dAsg_p, dOp_p, dVar_p, dC_p, gNm_p, gTp_p, gCn_p, gNl_p, dRet_p, dIf_p, dTest_p, dTru_p, dNot_p, dAnd_p, dOr_p, dNext_p, dDrop_p, dCons_p, dNil_p, dTup_p, dLst_e_p, dEmp_e_p, dEmpG_e_p, dDisp_e_p, dListZip_e_p, dGhE_e, dGh_e, dOverK_e, dFld_e, dSetF_e, dMake_e, dMeth_e, dPar_p, dPar3_p, dSetI_p, dCall_p, dCB_p, dBM_p, dBM0_p, dIfE_p, dNeg_p, dSl_p, dPart_p, dNoP_p, dAug_p, addI_p, dBreak_p, dCont_p, dAlt_p, dYes_p, dPairs_n, dPairs_c, gSubD_p, dBMd_p, addD_ii_p, addD_ss_p, addD_tt_p, subD_ii_p, mulD_ii_p, modD_ii_p, fdivD_ii_p, powE_ii_p, Int.reduceToNat, Int.reducePow, Int.reduceNeg, Int.neg_neg, ltD_ii_p, leD_ii_p, gtD_ii_p, geD_ii_p, ltD_ss_p, leD_ss_p, eqR_ii, eqR_ss, eqR_tt_p, eqR_bb, intR_b, intR_i, dFmt_e, dJs_n, dJs_c, strK_s, dJoined_p, fmtR_s, fmtR_i, strR_s, strR_i, lenR_t, lenR_s, tupleR_t, isNR_p, abs_ii, max_ii, min_ii, truD_b_p, slD_t_p, slD_s_p, inR_t, List.map, List.length, List.replicate, List.cons_append, List.nil_append, List.append_nil, List.getElem?_cons_succ, List.getElem?_cons_zero, Option.some.injEq, exists_eq_left', exists_eq_left, ex2, ex3, exists_eq', List.set_cons_succ, List.set_cons_zero, Nat.reduceAdd, Nat.reduceSub, true_and, and_true, D.bl.injEq, D.int.injEq, D.str.injEq, D.ptr.injEq, D.tup.injEq, decide_eq_true_eq, beq_iff_eq, Bool.false_eq_true, if_true, if_false, reduceIte, wipeD, List.foldr_cons, List.foldr_nil, Nat.reduceLeDiff, List.cons.injEq, and_self, List.length_cons, List.length_nil]
  refine alloc_st h fun q C h => ?_
  try simp only [dFor_e_p, dRng1_p, dRng2_p, dOver_p, dOverT_p, dOverS_p, dAltI_p, dEnum_p, dZip_p, dLc_e_p, dWhile_e_p, Int.toNat_natCast, dSeq_p, dChain_p, dOrT_p, dAndT_p, dNotT_p, dGetI_eq_p, Bool.not_true, Bool.not_false, dAsg_p, dOp_p, dVar_p, dC_p, gNm_p, gTp_p, gCn_p, gNl_p, dRet_p, dIf_p, dTest_p, dTru_p, dNot_p, dAnd_p, dOr_p, dNext_p, dDrop_p, dCons_p, dNil_p, dTup_p, dLst_e_p, dEmp_e_p, dEmpG_e_p, dDisp_e_p, dListZip_e_p, dGhE_e, dGh_e, dOverK_e, dFld_e, dSetF_e, dMake_e, dMeth_e, dPar_p, dPar3_p, dSetI_p, dCall_p, dCB_p, dBM_p, dBM0_p, dIfE_p, dNeg_p, dSl_p, dPart_p, dNoP_p, dAug_p, addI_p, dBreak_p, dCont_p, dAlt_p, dYes_p, dPairs_n, dPairs_c, gSubD_p, dBMd_p, addD_ii_p, addD_ss_p, addD_tt_p, subD_ii_p, mulD_ii_p, modD_ii_p, fdivD_ii_p, powE_ii_p, Int.reduceToNat, Int.reducePow, Int.reduceNeg, Int.neg_neg, ltD_ii_p, leD_ii_p, gtD_ii_p, geD_ii_p, ltD_ss_p, leD_ss_p, eqR_ii, eqR_ss, eqR_tt_p, eqR_bb, intR_b, intR_i, dFmt_e, dJs_n, dJs_c, strK_s, dJoined_p, fmtR_s, fmtR_i, strR_s, strR_i, lenR_t, lenR_s, tupleR_t, isNR_p, abs_ii, max_ii, min_ii, truD_b_p, slD_t_p, slD_s_p, inR_t, List.map, List.length, List.replicate, List.cons_append, List.nil_append, List.append_nil, List.getElem?_cons_succ, List.getElem?_cons_zero, Option.some.injEq, exists_eq_left', exists_eq_left, ex2, ex3, exists_eq', List.set_cons_succ, List.set_cons_zero, Nat.reduceAdd, Nat.reduceSub, true_and, and_true, D.bl.injEq, D.int.injEq, D.str.injEq, D.ptr.injEq, D.tup.injEq, decide_eq_true_eq, beq_iff_eq, Bool.false_eq_true, if_true, if_false, reduceIte, wipeD, List.foldr_cons, List.foldr_nil, Nat.reduceLeDiff, List.cons.injEq, and_self, List.length_cons, List.length_nil]
  refine of_tx (zs := [[108, 101, 97, 102, 58, 47, 47, 97], [108, 101, 97, 102, 58, 47, 47, 97, 47, 66],
            [108, 101, 97, 102, 58, 47, 47, 97, 47, 98],
            [115, 101, 97, 108, 58, 47, 47, 98, 46, 99, 58, 49, 63, 120, 61, 49],
            [108, 101, 97, 102, 58, 47, 47, 97, 46, 98, 46, 99, 47, 100, 47, 101, 63, 97, 38, 98, 61, 50],
            [108, 101, 97, 102, 58, 47, 47, 48, 58, 48, 47, 126, 50, 102]]) h (by (repeat (first | exact KB.Del.here | assumption | apply KB.Del.there))) (by (repeat (first | exact KB.Del.here | assumption | apply KB.Del.there))) (by (repeat (first | exact KB.At.here | assumption | apply KB.At.there))) (by omega) (by simp) (by decide) fun l s2 C hl h2 h => ?_
  exact ret_k (k l s2 C (tx_of hl (by decide +kernel)) (by omega) (h.drop (by (repeat (first | exact KB.Del.here | assumption | apply KB.Del.there)))))
theorem title (h : St S C0 C L) (d : Del L p (s.c r) true L1) (e : Del L1 r s.l true L2) (hn : s.n < 2 ^ 18) (k : ∀ l (s' : PS) C', Tx l → s'.n ≤ s.n + 1 → St S C0 C' ((p, s'.c r, true) :: (r, s'.l, true) :: L2) → Q (.str l) C') : D__law_title [.ptr p] C Q E := by
  have h := two h d e
  unfold D__law_title runD r__law_title
  try simp only [dFor_e_p, dRng1_p, dRng2_p, dOver_p, dOverT_p, dOverS_p, dAltI_p, dEnum_p, dZip_p, dLc_e_p, dWhile_e_p, Int.toNat_natCast, dSeq_p, dChain_p, dOrT_p, dAndT_p, dNotT_p, dGetI_eq_p, Bool.not_true, Bool.not_false, dAsg_p, dOp_p, dVar_p, dC_p, gNm_p, gTp_p, gCn_p, gNl_p, dRet_p, dIf_p, dTest_p, dTru_p, dNot_p, dAnd_p, dOr_p, dNext_p, dDrop_p, dCons_p, dNil_p, dTup_p, dLst_e_p, dEmp_e_p, dEmpG_e_p, dDisp_e_p, dListZip_e_p, dGhE_e, dGh_e, dOverK_e, dFld_e, dSetF_e, dMake_e, dMeth_e, dPar_p, dPar3_p, dSetI_p, dCall_p, dCB_p, dBM_p, dBM0_p, dIfE_p, dNeg_p, dSl_p, dPart_p, dNoP_p, dAug_p, addI_p, dBreak_p, dCont_p, dAlt_p, dYes_p, dPairs_n, dPairs_c, gSubD_p, dBMd_p, addD_ii_p, addD_ss_p, addD_tt_p, subD_ii_p, mulD_ii_p, modD_ii_p, fdivD_ii_p, powE_ii_p, Int.reduceToNat, Int.reducePow, Int.reduceNeg, Int.neg_neg, ltD_ii_p, leD_ii_p, gtD_ii_p, geD_ii_p, ltD_ss_p, leD_ss_p, eqR_ii, eqR_ss, eqR_tt_p, eqR_bb, intR_b, intR_i, dFmt_e, dJs_n, dJs_c, strK_s, dJoined_p, fmtR_s, fmtR_i, strR_s, strR_i, lenR_t, lenR_s, tupleR_t, isNR_p, abs_ii, max_ii, min_ii, truD_b_p, slD_t_p, slD_s_p, inR_t, List.map, List.length, List.replicate, List.cons_append, List.nil_append, List.append_nil, List.getElem?_cons_succ, List.getElem?_cons_zero, Option.some.injEq, exists_eq_left', exists_eq_left, ex2, ex3, exists_eq', List.set_cons_succ, List.set_cons_zero, Nat.reduceAdd, Nat.reduceSub, true_and, and_true, D.bl.injEq, D.int.injEq, D.str.injEq, D.ptr.injEq, D.tup.injEq, decide_eq_true_eq, beq_iff_eq, Bool.false_eq_true, if_true, if_false, reduceIte, wipeD, List.foldr_cons, List.foldr_nil, Nat.reduceLeDiff, List.cons.injEq, and_self, List.length_cons, List.length_nil]
  refine mulS_st (by decide) ?_
  refine alloc_st h fun q C h => ?_
  refine of_tx (zs := [[84], [119, 97, 108, 108, 115, 32, 111, 102, 32, 97], [126], [120, 32, 32, 121], (List.replicate 60 [97]).flatten, [116]]) h (by (repeat (first | exact KB.Del.here | assumption | apply KB.Del.there))) (by (repeat (first | exact KB.Del.here | assumption | apply KB.Del.there))) (by (repeat (first | exact KB.At.here | assumption | apply KB.At.there))) (by omega) (by simp) (by simp) fun l s2 C hl h2 h => ?_
  exact ret_k (k l s2 C (tx_of hl (by decide +kernel)) (by omega) (h.drop (by (repeat (first | exact KB.Del.here | assumption | apply KB.Del.there)))))
end K15

namespace K15
open PySem PySem.Spec PyProof.Rows KB
open L2 hiding op_eqD op_neD call_listD
variable {S : Addr → Prop} {C0 C : Cp} {L L1 L2 : List Ent} {p q r : Addr} {s : PS} {Q : DQ} {E : Exn → Cp → Prop}
/-- a stamp -/
abbrev Sm := Int × List Nat
def stD (s : Sm) : D := .tup [.int s.1, .str s.2]
def root : Sm := (0, [])
inductive Tw | title | mark | unmark | lay | lift
def Tw.nm : Tw → List Nat
  | .title => [116, 105, 116, 108, 101] | .mark => [109, 97, 114, 107] | .unmark => [117, 110, 109, 97, 114, 107] | .lay => [108, 97, 121] | .lift => [108, 105, 102, 116]
/-- what a deed does -/
inductive Dw
  | make (o : Sm) (w : List Nat) | undo (o : Sm) | put (f : List Nat) (o : Sm) | take (f : List Nat) (o : Sm) | text (i : Tw) (a b : List Nat) | move (a b : Sm) | call (a : Sm) (w : List Nat) | drop (a : Sm)
def Dw.wd : Dw → List Nat
  | .make _ _ => [109, 97, 107, 101] | .undo _ => [117, 110, 100, 111] | .put _ _ => [112, 117, 116] | .take _ _ => [116, 97, 107, 101] | .text i _ _ => i.nm | .move _ _ => [109, 111, 118, 101] | .call _ _ => [99, 97, 108, 108] | .drop _ => [100, 114, 111, 112]
def Dw.x : Dw → D
  | .make o _ => stD o | .undo o => stD o | .put f _ => .str f | .take f _ => .str f | .text _ a _ => .str a | .move a _ => stD a | .call a _ => stD a | .drop a => stD a
def Dw.y : Dw → D
  | .make _ w => .str w | .undo _ => .non | .put _ o => stD o | .take _ o => stD o | .text _ _ b => .str b | .move _ b => stD b | .call _ w => .str w | .drop _ => .non
def Dw.isMake : Dw → Bool
  | .make _ _ => true | _ => false
/-- the folders that are named -/
def Dw.named : Dw → List Sm
  | .make o _ => [o] | .undo _ => [] | .put _ o => [o] | .take _ o => [o] | .text _ _ _ => [] | .move a b => [a, b] | .call a _ => [a] | .drop a => [a]
def Dw.undone : Dw → List Sm
  | .undo o => [o] | _ => []
/-- its texts are plain -/
def Dw.tx : Dw → Prop
  | .make _ w => Tx w | .undo _ => True | .put f _ => Tx f | .take f _ => Tx f | .text _ a b => Tx a ∧ Tx b | .move _ _ => True | .call _ w => Tx w | .drop _ => True
structure Dd where
  st : Sm
  seen : List (List Nat × Int)
  w : Dw
def seD (x : List Nat × Int) : D := .tup [.str x.1, .int x.2]
def ddD (d : Dd) : D := .tup [stD d.st, .tup (d.seen.map seD), .str d.w.wd, d.w.x, d.w.y]
theorem isMake_wd (w : Dw) : (w.wd == [109, 97, 107, 101]) = w.isMake := by
  cases w with
  | text i a b => cases i <;> rfl
  | _ => rfl
theorem mem_cut {α : Type} {xs : List α} {lo hi : Option Int} {x : α} (h : x ∈ cutL xs lo hi) : x ∈ xs := by
  unfold cutL at h
  exact List.mem_of_mem_drop (List.mem_of_mem_take h)
theorem len_cut {α : Type} {xs : List α} {lo hi : Option Int} : (cutL xs lo hi).length ≤ xs.length := by
  unfold cutL
  rw [List.length_take, List.length_drop]
  omega
theorem cut_map {α β : Type} (f : α → β) {xs : List α} {lo hi : Option Int} : cutL (xs.map f) lo hi = (cutL xs lo hi).map f := by
  unfold cutL
  rw [List.length_map, List.map_take, List.map_drop]
theorem npt_st (s : Sm) : npt (stD s) = true := rfl
theorem npts_map {α : Type} {f : α → D} (h : ∀ a, npt (f a) = true) : ∀ xs : List α, npts (xs.map f) = true
  | [] => rfl
  | x :: r => by
    rw [List.map_cons]
    unfold npts
    rw [h x, npts_map h r]
    rfl
theorem deps_map {α : Type} {f : α → D} {n : Nat} (h : ∀ a, dep (f a) ≤ n) : ∀ xs : List α, deps (xs.map f) ≤ n
  | [] => Nat.zero_le _
  | x :: r => by
    rw [List.map_cons]
    unfold deps
    have := h x
    have := deps_map h r
    omega
theorem x_ok (w : Dw) : npt w.x = true ∧ dep w.x ≤ 1 := by cases w <;> exact ⟨rfl, by first | exact Nat.le_refl _ | exact Nat.zero_le _⟩
theorem y_ok (w : Dw) : npt w.y = true ∧ dep w.y ≤ 1 := by cases w <;> exact ⟨rfl, by first | exact Nat.le_refl _ | exact Nat.zero_le _⟩
theorem npt_dd (d : Dd) : npt (ddD d) = true := by
  unfold ddD npt npts
  rw [npt_st]
  unfold npts npt
  rw [npts_map (f := seD) (fun _ => rfl)]
  unfold npts npt npts
  rw [(x_ok d.w).1]
  unfold npts
  rw [(y_ok d.w).1]
  rfl
theorem dep_dd (d : Dd) : dep (ddD d) ≤ 5 := by
  have h1 := (x_ok d.w).2
  have h2 := (y_ok d.w).2
  have h3 := deps_map (f := seD) (n := 1) (fun _ => Nat.le_refl _) d.seen
  have h4 : dep (stD d.st) ≤ 1 := Nat.le_refl _
  unfold ddD
  simp only [dep, deps]
  omega
theorem okEqs_dd (ks : List Dd) : okEqs (ks.map ddD) := okEqs_of (n := 5) (by decide) npt_dd dep_dd ks
/-- one of some things of one kind -/
theorem of_m {α : Type} {f : α → D} {zs : List α} (h : St S C0 C L) (d : Del L p (s.c r) true L1) (e : Del L1 r s.l true L2) (a : At L2 q (.lst (zs.map f))) (hn : s.n < 2 ^ 19) (x0 : zs ≠ []) (x1 : zs.length < 2 ^ 20) (k : ∀ x (s' : PS) C', x ∈ zs → s'.n ≤ s.n + 1 → St S C0 C' ((p, s'.c r, true) :: (r, s'.l, true) :: L2) → Q (f x) C') : D__law_of [.ptr p, .ptr q] C Q E := by
  refine of_l h d e a hn (fun z => x0 (List.map_eq_nil_iff.mp z)) (by rw [List.length_map]; exact x1) fun x s' C hx hs h => ?_
  obtain ⟨l, hl, rfl⟩ := List.mem_map.mp hx
  exact k l s' C hl hs h
def WORDS : List (List Nat) := [[109, 97, 107, 101], [117, 110, 100, 111], [112, 117, 116], [116, 97, 107, 101], [116, 105, 116, 108, 101], [109, 97, 114, 107], [117, 110, 109, 97, 114, 107], [108, 97, 121], [108, 105, 102, 116], [109, 111, 118, 101], [99, 97, 108, 108], [100, 114, 111, 112]]
/-- what a deed names: known ones, or the root -/
def Nam (ks : List Dd) (w : Dw) : Prop := (∀ o ∈ w.named, o = root ∨ ∃ d ∈ ks, d.st = o) ∧ ∀ o ∈ w.undone, ∃ d ∈ ks, d.st = o
theorem memD_map {α : Type} (f : α → D) (xs : List α) (x : D) : memD (xs.map f) x = xs.any fun a => eqD (f a) x := by
  unfold memD
  rw [List.any_map]
  rfl
theorem memD_s (xs : List (List Nat)) (x : List Nat) : (memD (xs.map D.str) (.str x) = true) = (x ∈ xs) := by
  rw [memD_strs, decide_eq_true_eq]
theorem okEqs_strs (xs : List (List Nat)) : okEqs (xs.map D.str) := okEqs_of (n := 0) (by decide) (fun _ => rfl) (fun _ => Nat.le_refl _) xs
theorem pr3 {a b c : Ent} {L : List Ent} (h : St S C0 C (a :: b :: c :: L)) : St S C0 C (a :: b :: L) := h.perm ((List.Perm.cons _ (List.Perm.swap _ _ _)).trans (List.Perm.swap _ _ _)) |>.tail
theorem doing7 {ks ms : List Dd} {kn wa m : Addr} {x4 x7 : Option D} {o : Sm} {w : List Nat} (h : St S C0 C ((p, s.c r, true) :: (r, s.l, true) :: (m, .lst (ms.map fun d => stD d.st), true) :: L2)) (ak : At L2 kn (.lst (ks.map ddD))) (hk : ks.length < 100) (hml : ms.length ≤ ks.length) (hm : ∀ d ∈ ms, d ∈ ks) (ho : o = root ∨ ∃ d ∈ ks, d.st = o) (hw : w ∈ WORDS) (h1 : w ∈ [[109, 111, 118, 101], [99, 97, 108, 108], [100, 114, 111, 112]] → ms ≠ []) (h2 : w = [117, 110, 100, 111] → ks ≠ []) (hn : s.n < 2 ^ 17 + 10)
    (k : ∀ (w' : Dw) (s' : PS) C', w'.tx → Nam ks w' → w'.wd = w → s'.n ≤ s.n + 38 → St S C0 C' ((p, s'.c r, true) :: (r, s'.l, true) :: L2) → Q (.tup [.str w'.wd, w'.x, w'.y]) C') : r__law_doing_7 { nx := fun x C' => ∃ C'', KB.Sub C'' C' ∧ Q D.non C'', rt := fun d C' => ∃ C'', KB.Sub C'' C' ∧ Q d C'' } [some (.ptr p), some (.ptr kn), some (.ptr wa), some (.ptr m), x4, some (stD o), some (.str w), x7] C := by
  have nm1 : ∀ {P : Prop}, (∀ o' ∈ [o], o' = root ∨ ∃ d ∈ ks, d.st = o') := fun o' h => by rw [List.mem_singleton.mp h]; exact ho
  have nil : ∀ {P : Sm → Prop}, ∀ o ∈ ([] : List Sm), P o := fun o h => by cases h
  unfold r__law_doing_7
  try simp only [dFor_e_p, dRng1_p, dRng2_p, dOver_p, dOverT_p, dOverS_p, dAltI_p, dEnum_p, dZip_p, dLc_e_p, dWhile_e_p, Int.toNat_natCast, dSeq_p, dChain_p, dOrT_p, dAndT_p, dNotT_p, dGetI_eq_p, Bool.not_true, Bool.not_false, dAsg_p, dOp_p, dVar_p, dC_p, gNm_p, gTp_p, gCn_p, gNl_p, dRet_p, dIf_p, dTest_p, dTru_p, dNot_p, dAnd_p, dOr_p, dNext_p, dDrop_p, dCons_p, dNil_p, dTup_p, dLst_e_p, dEmp_e_p, dEmpG_e_p, dDisp_e_p, dListZip_e_p, dGhE_e, dGh_e, dOverK_e, dFld_e, dSetF_e, dMake_e, dMeth_e, dPar_p, dPar3_p, dSetI_p, dCall_p, dCB_p, dBM_p, dBM0_p, dIfE_p, dNeg_p, dSl_p, dPart_p, dNoP_p, dAug_p, addI_p, dBreak_p, dCont_p, dAlt_p, dYes_p, dPairs_n, dPairs_c, gSubD_p, dBMd_p, addD_ii_p, addD_ss_p, addD_tt_p, subD_ii_p, mulD_ii_p, modD_ii_p, fdivD_ii_p, powE_ii_p, Int.reduceToNat, Int.reducePow, Int.reduceNeg, Int.neg_neg, ltD_ii_p, leD_ii_p, gtD_ii_p, geD_ii_p, ltD_ss_p, leD_ss_p, eqR_ii, eqR_ss, eqR_tt_p, eqR_bb, intR_b, intR_i, dFmt_e, dJs_n, dJs_c, strK_s, dJoined_p, fmtR_s, fmtR_i, strR_s, strR_i, lenR_t, lenR_s, tupleR_t, isNR_p, abs_ii, max_ii, min_ii, truD_b_p, slD_t_p, slD_s_p, inR_t, List.map, List.length, List.replicate, List.cons_append, List.nil_append, List.append_nil, List.getElem?_cons_succ, List.getElem?_cons_zero, Option.some.injEq, exists_eq_left', exists_eq_left, ex2, ex3, exists_eq', List.set_cons_succ, List.set_cons_zero, Nat.reduceAdd, Nat.reduceSub, true_and, and_true, D.bl.injEq, D.int.injEq, D.str.injEq, D.ptr.injEq, D.tup.injEq, decide_eq_true_eq, beq_iff_eq, Bool.false_eq_true, if_true, if_false, reduceIte, wipeD, List.foldr_cons, List.foldr_nil, Nat.reduceLeDiff, List.cons.injEq, and_self, List.length_cons, List.length_nil]
  split
  · rename_i e; subst e
    refine word h (by (repeat (first | exact KB.Del.here | assumption | apply KB.Del.there))) (by (repeat (first | exact KB.Del.here | assumption | apply KB.Del.there))) (by omega) fun l s' C hl hs h => ?_
    try simp only [dFor_e_p, dRng1_p, dRng2_p, dOver_p, dOverT_p, dOverS_p, dAltI_p, dEnum_p, dZip_p, dLc_e_p, dWhile_e_p, Int.toNat_natCast, dSeq_p, dChain_p, dOrT_p, dAndT_p, dNotT_p, dGetI_eq_p, Bool.not_true, Bool.not_false, dAsg_p, dOp_p, dVar_p, dC_p, gNm_p, gTp_p, gCn_p, gNl_p, dRet_p, dIf_p, dTest_p, dTru_p, dNot_p, dAnd_p, dOr_p, dNext_p, dDrop_p, dCons_p, dNil_p, dTup_p, dLst_e_p, dEmp_e_p, dEmpG_e_p, dDisp_e_p, dListZip_e_p, dGhE_e, dGh_e, dOverK_e, dFld_e, dSetF_e, dMake_e, dMeth_e, dPar_p, dPar3_p, dSetI_p, dCall_p, dCB_p, dBM_p, dBM0_p, dIfE_p, dNeg_p, dSl_p, dPart_p, dNoP_p, dAug_p, addI_p, dBreak_p, dCont_p, dAlt_p, dYes_p, dPairs_n, dPairs_c, gSubD_p, dBMd_p, addD_ii_p, addD_ss_p, addD_tt_p, subD_ii_p, mulD_ii_p, modD_ii_p, fdivD_ii_p, powE_ii_p, Int.reduceToNat, Int.reducePow, Int.reduceNeg, Int.neg_neg, ltD_ii_p, leD_ii_p, gtD_ii_p, geD_ii_p, ltD_ss_p, leD_ss_p, eqR_ii, eqR_ss, eqR_tt_p, eqR_bb, intR_b, intR_i, dFmt_e, dJs_n, dJs_c, strK_s, dJoined_p, fmtR_s, fmtR_i, strR_s, strR_i, lenR_t, lenR_s, tupleR_t, isNR_p, abs_ii, max_ii, min_ii, truD_b_p, slD_t_p, slD_s_p, inR_t, List.map, List.length, List.replicate, List.cons_append, List.nil_append, List.append_nil, List.getElem?_cons_succ, List.getElem?_cons_zero, Option.some.injEq, exists_eq_left', exists_eq_left, ex2, ex3, exists_eq', List.set_cons_succ, List.set_cons_zero, Nat.reduceAdd, Nat.reduceSub, true_and, and_true, D.bl.injEq, D.int.injEq, D.str.injEq, D.ptr.injEq, D.tup.injEq, decide_eq_true_eq, beq_iff_eq, Bool.false_eq_true, if_true, if_false, reduceIte, wipeD, List.foldr_cons, List.foldr_nil, Nat.reduceLeDiff, List.cons.injEq, and_self, List.length_cons, List.length_nil]
    exact ret_k (k (.make o l) s' C hl ⟨nm1 (P := True), nil⟩ rfl (by omega) (h.drop (by (repeat (first | exact KB.Del.here | assumption | apply KB.Del.there)))))
  unfold r__law_doing_6
  try simp only [dFor_e_p, dRng1_p, dRng2_p, dOver_p, dOverT_p, dOverS_p, dAltI_p, dEnum_p, dZip_p, dLc_e_p, dWhile_e_p, Int.toNat_natCast, dSeq_p, dChain_p, dOrT_p, dAndT_p, dNotT_p, dGetI_eq_p, Bool.not_true, Bool.not_false, dAsg_p, dOp_p, dVar_p, dC_p, gNm_p, gTp_p, gCn_p, gNl_p, dRet_p, dIf_p, dTest_p, dTru_p, dNot_p, dAnd_p, dOr_p, dNext_p, dDrop_p, dCons_p, dNil_p, dTup_p, dLst_e_p, dEmp_e_p, dEmpG_e_p, dDisp_e_p, dListZip_e_p, dGhE_e, dGh_e, dOverK_e, dFld_e, dSetF_e, dMake_e, dMeth_e, dPar_p, dPar3_p, dSetI_p, dCall_p, dCB_p, dBM_p, dBM0_p, dIfE_p, dNeg_p, dSl_p, dPart_p, dNoP_p, dAug_p, addI_p, dBreak_p, dCont_p, dAlt_p, dYes_p, dPairs_n, dPairs_c, gSubD_p, dBMd_p, addD_ii_p, addD_ss_p, addD_tt_p, subD_ii_p, mulD_ii_p, modD_ii_p, fdivD_ii_p, powE_ii_p, Int.reduceToNat, Int.reducePow, Int.reduceNeg, Int.neg_neg, ltD_ii_p, leD_ii_p, gtD_ii_p, geD_ii_p, ltD_ss_p, leD_ss_p, eqR_ii, eqR_ss, eqR_tt_p, eqR_bb, intR_b, intR_i, dFmt_e, dJs_n, dJs_c, strK_s, dJoined_p, fmtR_s, fmtR_i, strR_s, strR_i, lenR_t, lenR_s, tupleR_t, isNR_p, abs_ii, max_ii, min_ii, truD_b_p, slD_t_p, slD_s_p, inR_t, List.map, List.length, List.replicate, List.cons_append, List.nil_append, List.append_nil, List.getElem?_cons_succ, List.getElem?_cons_zero, Option.some.injEq, exists_eq_left', exists_eq_left, ex2, ex3, exists_eq', List.set_cons_succ, List.set_cons_zero, Nat.reduceAdd, Nat.reduceSub, true_and, and_true, D.bl.injEq, D.int.injEq, D.str.injEq, D.ptr.injEq, D.tup.injEq, decide_eq_true_eq, beq_iff_eq, Bool.false_eq_true, if_true, if_false, reduceIte, wipeD, List.foldr_cons, List.foldr_nil, Nat.reduceLeDiff, List.cons.injEq, and_self, List.length_cons, List.length_nil]
  split
  · rename_i e; subst e
    refine sl_st h (by (repeat (first | exact KB.At.here | assumption | apply KB.At.there))) fun z C h => ?_
    rw [cut_map] at h
    refine add_st h (by (repeat (first | exact KB.At.here | assumption | apply KB.At.there))) (by (repeat (first | exact KB.At.here | assumption | apply KB.At.there))) (by have := len_cut (xs := ks) (lo := some (-2)) (hi := none); rw [sizeLine_eq, List.length_map, List.length_map]; omega) fun z2 C h => ?_
    rw [← List.map_append] at h
    refine ⟨_, .inl (h.get .here), ?_⟩
    refine lc_map (cutL ks (some (-2)) none ++ ks) (fun d => stD d.st) ddD rfl h (fun _ h => .inl (h.get .here)) (fun d C' hd h Q' k' => ?_) ?_ fun z3 C h => ?_
    · rw [show ddD d = .tup [stD d.st, .tup (d.seen.map seD), .str d.w.wd, d.w.x, d.w.y] from rfl]
      try simp only [dFor_e_p, dRng1_p, dRng2_p, dOver_p, dOverT_p, dOverS_p, dAltI_p, dEnum_p, dZip_p, dLc_e_p, dWhile_e_p, Int.toNat_natCast, dSeq_p, dChain_p, dOrT_p, dAndT_p, dNotT_p, dGetI_eq_p, Bool.not_true, Bool.not_false, dAsg_p, dOp_p, dVar_p, dC_p, gNm_p, gTp_p, gCn_p, gNl_p, dRet_p, dIf_p, dTest_p, dTru_p, dNot_p, dAnd_p, dOr_p, dNext_p, dDrop_p, dCons_p, dNil_p, dTup_p, dLst_e_p, dEmp_e_p, dEmpG_e_p, dDisp_e_p, dListZip_e_p, dGhE_e, dGh_e, dOverK_e, dFld_e, dSetF_e, dMake_e, dMeth_e, dPar_p, dPar3_p, dSetI_p, dCall_p, dCB_p, dBM_p, dBM0_p, dIfE_p, dNeg_p, dSl_p, dPart_p, dNoP_p, dAug_p, addI_p, dBreak_p, dCont_p, dAlt_p, dYes_p, dPairs_n, dPairs_c, gSubD_p, dBMd_p, addD_ii_p, addD_ss_p, addD_tt_p, subD_ii_p, mulD_ii_p, modD_ii_p, fdivD_ii_p, powE_ii_p, Int.reduceToNat, Int.reducePow, Int.reduceNeg, Int.neg_neg, ltD_ii_p, leD_ii_p, gtD_ii_p, geD_ii_p, ltD_ss_p, leD_ss_p, eqR_ii, eqR_ss, eqR_tt_p, eqR_bb, intR_b, intR_i, dFmt_e, dJs_n, dJs_c, strK_s, dJoined_p, fmtR_s, fmtR_i, strR_s, strR_i, lenR_t, lenR_s, tupleR_t, isNR_p, abs_ii, max_ii, min_ii, truD_b_p, slD_t_p, slD_s_p, inR_t, List.map, List.length, List.replicate, List.cons_append, List.nil_append, List.append_nil, List.getElem?_cons_succ, List.getElem?_cons_zero, Option.some.injEq, exists_eq_left', exists_eq_left, ex2, ex3, exists_eq', List.set_cons_succ, List.set_cons_zero, Nat.reduceAdd, Nat.reduceSub, true_and, and_true, D.bl.injEq, D.int.injEq, D.str.injEq, D.ptr.injEq, D.tup.injEq, decide_eq_true_eq, beq_iff_eq, Bool.false_eq_true, if_true, if_false, reduceIte, wipeD, List.foldr_cons, List.foldr_nil, Nat.reduceLeDiff, List.cons.injEq, and_self, List.length_cons, List.length_nil]
      exact ix_t rfl (k' C' h)
    · have := len_cut (xs := ks) (lo := some (-2)) (hi := none)
      rw [sizeLine_eq, List.length_append]
      omega
    · have := len_cut (xs := ks) (lo := some (-2)) (hi := none)
      refine of_m h (by (repeat (first | exact KB.Del.here | assumption | apply KB.Del.there))) (by (repeat (first | exact KB.Del.here | assumption | apply KB.Del.there))) (by (repeat (first | exact KB.At.here | assumption | apply KB.At.there))) (by omega) (fun z => h2 rfl (List.append_eq_nil_iff.mp z).2) (by rw [List.length_append]; omega) fun d s' C hd hs h => ?_
      have hd : d ∈ ks := (List.mem_append.mp hd).elim mem_cut id
      exact ret_k (k (.undo d.st) s' C trivial ⟨nil, fun o ho => ⟨d, hd, (List.mem_singleton.mp ho).symm⟩⟩ rfl (by omega) (pr3 (pr3 (pr3 (pr3 h)))))
  unfold r__law_doing_5
  try simp only [dFor_e_p, dRng1_p, dRng2_p, dOver_p, dOverT_p, dOverS_p, dAltI_p, dEnum_p, dZip_p, dLc_e_p, dWhile_e_p, Int.toNat_natCast, dSeq_p, dChain_p, dOrT_p, dAndT_p, dNotT_p, dGetI_eq_p, Bool.not_true, Bool.not_false, dAsg_p, dOp_p, dVar_p, dC_p, gNm_p, gTp_p, gCn_p, gNl_p, dRet_p, dIf_p, dTest_p, dTru_p, dNot_p, dAnd_p, dOr_p, dNext_p, dDrop_p, dCons_p, dNil_p, dTup_p, dLst_e_p, dEmp_e_p, dEmpG_e_p, dDisp_e_p, dListZip_e_p, dGhE_e, dGh_e, dOverK_e, dFld_e, dSetF_e, dMake_e, dMeth_e, dPar_p, dPar3_p, dSetI_p, dCall_p, dCB_p, dBM_p, dBM0_p, dIfE_p, dNeg_p, dSl_p, dPart_p, dNoP_p, dAug_p, addI_p, dBreak_p, dCont_p, dAlt_p, dYes_p, dPairs_n, dPairs_c, gSubD_p, dBMd_p, addD_ii_p, addD_ss_p, addD_tt_p, subD_ii_p, mulD_ii_p, modD_ii_p, fdivD_ii_p, powE_ii_p, Int.reduceToNat, Int.reducePow, Int.reduceNeg, Int.neg_neg, ltD_ii_p, leD_ii_p, gtD_ii_p, geD_ii_p, ltD_ss_p, leD_ss_p, eqR_ii, eqR_ss, eqR_tt_p, eqR_bb, intR_b, intR_i, dFmt_e, dJs_n, dJs_c, strK_s, dJoined_p, fmtR_s, fmtR_i, strR_s, strR_i, lenR_t, lenR_s, tupleR_t, isNR_p, abs_ii, max_ii, min_ii, truD_b_p, slD_t_p, slD_s_p, inR_t, List.map, List.length, List.replicate, List.cons_append, List.nil_append, List.append_nil, List.getElem?_cons_succ, List.getElem?_cons_zero, Option.some.injEq, exists_eq_left', exists_eq_left, ex2, ex3, exists_eq', List.set_cons_succ, List.set_cons_zero, Nat.reduceAdd, Nat.reduceSub, true_and, and_true, D.bl.injEq, D.int.injEq, D.str.injEq, D.ptr.injEq, D.tup.injEq, decide_eq_true_eq, beq_iff_eq, Bool.false_eq_true, if_true, if_false, reduceIte, wipeD, List.foldr_cons, List.foldr_nil, Nat.reduceLeDiff, List.cons.injEq, and_self, List.length_cons, List.length_nil]
  refine ⟨rfl, okEqs_strs [[112, 117, 116], [116, 97, 107, 101]], ?_⟩
  rw [show memD [D.str [112, 117, 116], D.str [116, 97, 107, 101]] (.str w) = decide (w ∈ [[112, 117, 116], [116, 97, 107, 101]]) from memD_strs [[112, 117, 116], [116, 97, 107, 101]] w]
  split
  · rename_i e
    replace e := of_decide_eq_true e
    refine form h (by (repeat (first | exact KB.Del.here | assumption | apply KB.Del.there))) (by (repeat (first | exact KB.Del.here | assumption | apply KB.Del.there))) (by omega) fun l s' C hl hs h => ?_
    try simp only [dFor_e_p, dRng1_p, dRng2_p, dOver_p, dOverT_p, dOverS_p, dAltI_p, dEnum_p, dZip_p, dLc_e_p, dWhile_e_p, Int.toNat_natCast, dSeq_p, dChain_p, dOrT_p, dAndT_p, dNotT_p, dGetI_eq_p, Bool.not_true, Bool.not_false, dAsg_p, dOp_p, dVar_p, dC_p, gNm_p, gTp_p, gCn_p, gNl_p, dRet_p, dIf_p, dTest_p, dTru_p, dNot_p, dAnd_p, dOr_p, dNext_p, dDrop_p, dCons_p, dNil_p, dTup_p, dLst_e_p, dEmp_e_p, dEmpG_e_p, dDisp_e_p, dListZip_e_p, dGhE_e, dGh_e, dOverK_e, dFld_e, dSetF_e, dMake_e, dMeth_e, dPar_p, dPar3_p, dSetI_p, dCall_p, dCB_p, dBM_p, dBM0_p, dIfE_p, dNeg_p, dSl_p, dPart_p, dNoP_p, dAug_p, addI_p, dBreak_p, dCont_p, dAlt_p, dYes_p, dPairs_n, dPairs_c, gSubD_p, dBMd_p, addD_ii_p, addD_ss_p, addD_tt_p, subD_ii_p, mulD_ii_p, modD_ii_p, fdivD_ii_p, powE_ii_p, Int.reduceToNat, Int.reducePow, Int.reduceNeg, Int.neg_neg, ltD_ii_p, leD_ii_p, gtD_ii_p, geD_ii_p, ltD_ss_p, leD_ss_p, eqR_ii, eqR_ss, eqR_tt_p, eqR_bb, intR_b, intR_i, dFmt_e, dJs_n, dJs_c, strK_s, dJoined_p, fmtR_s, fmtR_i, strR_s, strR_i, lenR_t, lenR_s, tupleR_t, isNR_p, abs_ii, max_ii, min_ii, truD_b_p, slD_t_p, slD_s_p, inR_t, List.map, List.length, List.replicate, List.cons_append, List.nil_append, List.append_nil, List.getElem?_cons_succ, List.getElem?_cons_zero, Option.some.injEq, exists_eq_left', exists_eq_left, ex2, ex3, exists_eq', List.set_cons_succ, List.set_cons_zero, Nat.reduceAdd, Nat.reduceSub, true_and, and_true, D.bl.injEq, D.int.injEq, D.str.injEq, D.ptr.injEq, D.tup.injEq, decide_eq_true_eq, beq_iff_eq, Bool.false_eq_true, if_true, if_false, reduceIte, wipeD, List.foldr_cons, List.foldr_nil, Nat.reduceLeDiff, List.cons.injEq, and_self, List.length_cons, List.length_nil]
    simp only [List.mem_cons, List.mem_nil_iff, or_false] at e
    rcases e with e | e <;> subst e
    · exact ret_k (k (.put l o) s' C hl ⟨nm1 (P := True), nil⟩ rfl (by omega) (pr3 h))
    · exact ret_k (k (.take l o) s' C hl ⟨nm1 (P := True), nil⟩ rfl (by omega) (pr3 h))
  unfold r__law_doing_4
  try simp only [dFor_e_p, dRng1_p, dRng2_p, dOver_p, dOverT_p, dOverS_p, dAltI_p, dEnum_p, dZip_p, dLc_e_p, dWhile_e_p, Int.toNat_natCast, dSeq_p, dChain_p, dOrT_p, dAndT_p, dNotT_p, dGetI_eq_p, Bool.not_true, Bool.not_false, dAsg_p, dOp_p, dVar_p, dC_p, gNm_p, gTp_p, gCn_p, gNl_p, dRet_p, dIf_p, dTest_p, dTru_p, dNot_p, dAnd_p, dOr_p, dNext_p, dDrop_p, dCons_p, dNil_p, dTup_p, dLst_e_p, dEmp_e_p, dEmpG_e_p, dDisp_e_p, dListZip_e_p, dGhE_e, dGh_e, dOverK_e, dFld_e, dSetF_e, dMake_e, dMeth_e, dPar_p, dPar3_p, dSetI_p, dCall_p, dCB_p, dBM_p, dBM0_p, dIfE_p, dNeg_p, dSl_p, dPart_p, dNoP_p, dAug_p, addI_p, dBreak_p, dCont_p, dAlt_p, dYes_p, dPairs_n, dPairs_c, gSubD_p, dBMd_p, addD_ii_p, addD_ss_p, addD_tt_p, subD_ii_p, mulD_ii_p, modD_ii_p, fdivD_ii_p, powE_ii_p, Int.reduceToNat, Int.reducePow, Int.reduceNeg, Int.neg_neg, ltD_ii_p, leD_ii_p, gtD_ii_p, geD_ii_p, ltD_ss_p, leD_ss_p, eqR_ii, eqR_ss, eqR_tt_p, eqR_bb, intR_b, intR_i, dFmt_e, dJs_n, dJs_c, strK_s, dJoined_p, fmtR_s, fmtR_i, strR_s, strR_i, lenR_t, lenR_s, tupleR_t, isNR_p, abs_ii, max_ii, min_ii, truD_b_p, slD_t_p, slD_s_p, inR_t, List.map, List.length, List.replicate, List.cons_append, List.nil_append, List.append_nil, List.getElem?_cons_succ, List.getElem?_cons_zero, Option.some.injEq, exists_eq_left', exists_eq_left, ex2, ex3, exists_eq', List.set_cons_succ, List.set_cons_zero, Nat.reduceAdd, Nat.reduceSub, true_and, and_true, D.bl.injEq, D.int.injEq, D.str.injEq, D.ptr.injEq, D.tup.injEq, decide_eq_true_eq, beq_iff_eq, Bool.false_eq_true, if_true, if_false, reduceIte, wipeD, List.foldr_cons, List.foldr_nil, Nat.reduceLeDiff, List.cons.injEq, and_self, List.length_cons, List.length_nil]
  split
  · rename_i e; subst e
    refine form h (by (repeat (first | exact KB.Del.here | assumption | apply KB.Del.there))) (by (repeat (first | exact KB.Del.here | assumption | apply KB.Del.there))) (by omega) fun l s' C hl hs h => ?_
    refine title h (by (repeat (first | exact KB.Del.here | assumption | apply KB.Del.there))) (by (repeat (first | exact KB.Del.here | assumption | apply KB.Del.there))) (by omega) fun l2 s' C hl2 hs h => ?_
    try simp only [dFor_e_p, dRng1_p, dRng2_p, dOver_p, dOverT_p, dOverS_p, dAltI_p, dEnum_p, dZip_p, dLc_e_p, dWhile_e_p, Int.toNat_natCast, dSeq_p, dChain_p, dOrT_p, dAndT_p, dNotT_p, dGetI_eq_p, Bool.not_true, Bool.not_false, dAsg_p, dOp_p, dVar_p, dC_p, gNm_p, gTp_p, gCn_p, gNl_p, dRet_p, dIf_p, dTest_p, dTru_p, dNot_p, dAnd_p, dOr_p, dNext_p, dDrop_p, dCons_p, dNil_p, dTup_p, dLst_e_p, dEmp_e_p, dEmpG_e_p, dDisp_e_p, dListZip_e_p, dGhE_e, dGh_e, dOverK_e, dFld_e, dSetF_e, dMake_e, dMeth_e, dPar_p, dPar3_p, dSetI_p, dCall_p, dCB_p, dBM_p, dBM0_p, dIfE_p, dNeg_p, dSl_p, dPart_p, dNoP_p, dAug_p, addI_p, dBreak_p, dCont_p, dAlt_p, dYes_p, dPairs_n, dPairs_c, gSubD_p, dBMd_p, addD_ii_p, addD_ss_p, addD_tt_p, subD_ii_p, mulD_ii_p, modD_ii_p, fdivD_ii_p, powE_ii_p, Int.reduceToNat, Int.reducePow, Int.reduceNeg, Int.neg_neg, ltD_ii_p, leD_ii_p, gtD_ii_p, geD_ii_p, ltD_ss_p, leD_ss_p, eqR_ii, eqR_ss, eqR_tt_p, eqR_bb, intR_b, intR_i, dFmt_e, dJs_n, dJs_c, strK_s, dJoined_p, fmtR_s, fmtR_i, strR_s, strR_i, lenR_t, lenR_s, tupleR_t, isNR_p, abs_ii, max_ii, min_ii, truD_b_p, slD_t_p, slD_s_p, inR_t, List.map, List.length, List.replicate, List.cons_append, List.nil_append, List.append_nil, List.getElem?_cons_succ, List.getElem?_cons_zero, Option.some.injEq, exists_eq_left', exists_eq_left, ex2, ex3, exists_eq', List.set_cons_succ, List.set_cons_zero, Nat.reduceAdd, Nat.reduceSub, true_and, and_true, D.bl.injEq, D.int.injEq, D.str.injEq, D.ptr.injEq, D.tup.injEq, decide_eq_true_eq, beq_iff_eq, Bool.false_eq_true, if_true, if_false, reduceIte, wipeD, List.foldr_cons, List.foldr_nil, Nat.reduceLeDiff, List.cons.injEq, and_self, List.length_cons, List.length_nil]
    exact ret_k (k (.text .title l l2) s' C ⟨hl, hl2⟩ ⟨nil, nil⟩ rfl (by omega) (pr3 h))
  unfold r__law_doing_3
  try simp only [dFor_e_p, dRng1_p, dRng2_p, dOver_p, dOverT_p, dOverS_p, dAltI_p, dEnum_p, dZip_p, dLc_e_p, dWhile_e_p, Int.toNat_natCast, dSeq_p, dChain_p, dOrT_p, dAndT_p, dNotT_p, dGetI_eq_p, Bool.not_true, Bool.not_false, dAsg_p, dOp_p, dVar_p, dC_p, gNm_p, gTp_p, gCn_p, gNl_p, dRet_p, dIf_p, dTest_p, dTru_p, dNot_p, dAnd_p, dOr_p, dNext_p, dDrop_p, dCons_p, dNil_p, dTup_p, dLst_e_p, dEmp_e_p, dEmpG_e_p, dDisp_e_p, dListZip_e_p, dGhE_e, dGh_e, dOverK_e, dFld_e, dSetF_e, dMake_e, dMeth_e, dPar_p, dPar3_p, dSetI_p, dCall_p, dCB_p, dBM_p, dBM0_p, dIfE_p, dNeg_p, dSl_p, dPart_p, dNoP_p, dAug_p, addI_p, dBreak_p, dCont_p, dAlt_p, dYes_p, dPairs_n, dPairs_c, gSubD_p, dBMd_p, addD_ii_p, addD_ss_p, addD_tt_p, subD_ii_p, mulD_ii_p, modD_ii_p, fdivD_ii_p, powE_ii_p, Int.reduceToNat, Int.reducePow, Int.reduceNeg, Int.neg_neg, ltD_ii_p, leD_ii_p, gtD_ii_p, geD_ii_p, ltD_ss_p, leD_ss_p, eqR_ii, eqR_ss, eqR_tt_p, eqR_bb, intR_b, intR_i, dFmt_e, dJs_n, dJs_c, strK_s, dJoined_p, fmtR_s, fmtR_i, strR_s, strR_i, lenR_t, lenR_s, tupleR_t, isNR_p, abs_ii, max_ii, min_ii, truD_b_p, slD_t_p, slD_s_p, inR_t, List.map, List.length, List.replicate, List.cons_append, List.nil_append, List.append_nil, List.getElem?_cons_succ, List.getElem?_cons_zero, Option.some.injEq, exists_eq_left', exists_eq_left, ex2, ex3, exists_eq', List.set_cons_succ, List.set_cons_zero, Nat.reduceAdd, Nat.reduceSub, true_and, and_true, D.bl.injEq, D.int.injEq, D.str.injEq, D.ptr.injEq, D.tup.injEq, decide_eq_true_eq, beq_iff_eq, Bool.false_eq_true, if_true, if_false, reduceIte, wipeD, List.foldr_cons, List.foldr_nil, Nat.reduceLeDiff, List.cons.injEq, and_self, List.length_cons, List.length_nil]
  refine ⟨rfl, okEqs_strs [[109, 97, 114, 107], [117, 110, 109, 97, 114, 107]], ?_⟩
  rw [show memD [D.str [109, 97, 114, 107], D.str [117, 110, 109, 97, 114, 107]] (.str w) = decide (w ∈ [[109, 97, 114, 107], [117, 110, 109, 97, 114, 107]]) from memD_strs [[109, 97, 114, 107], [117, 110, 109, 97, 114, 107]] w]
  split
  · rename_i e
    replace e := of_decide_eq_true e
    refine form h (by (repeat (first | exact KB.Del.here | assumption | apply KB.Del.there))) (by (repeat (first | exact KB.Del.here | assumption | apply KB.Del.there))) (by omega) fun l s' C hl hs h => ?_
    refine word h (by (repeat (first | exact KB.Del.here | assumption | apply KB.Del.there))) (by (repeat (first | exact KB.Del.here | assumption | apply KB.Del.there))) (by omega) fun l2 s2 C hl2 hs2 h => ?_
    refine alloc_st h fun z C h => ?_
    refine of_tx (zs := [[97], [98], l2]) h (by (repeat (first | exact KB.Del.here | assumption | apply KB.Del.there))) (by (repeat (first | exact KB.Del.here | assumption | apply KB.Del.there))) (by (repeat (first | exact KB.At.here | assumption | apply KB.At.there))) (by omega) (by simp) (by simp) fun l3 s3 C hl3 hs3 h => ?_
    have hl3 : Tx l3 := by
      simp only [List.mem_cons, List.mem_nil_iff, or_false] at hl3
      rcases hl3 with e | e | e <;> subst e
      · exact Tx.dec (by decide +kernel)
      · exact Tx.dec (by decide +kernel)
      · exact hl2
    try simp only [dFor_e_p, dRng1_p, dRng2_p, dOver_p, dOverT_p, dOverS_p, dAltI_p, dEnum_p, dZip_p, dLc_e_p, dWhile_e_p, Int.toNat_natCast, dSeq_p, dChain_p, dOrT_p, dAndT_p, dNotT_p, dGetI_eq_p, Bool.not_true, Bool.not_false, dAsg_p, dOp_p, dVar_p, dC_p, gNm_p, gTp_p, gCn_p, gNl_p, dRet_p, dIf_p, dTest_p, dTru_p, dNot_p, dAnd_p, dOr_p, dNext_p, dDrop_p, dCons_p, dNil_p, dTup_p, dLst_e_p, dEmp_e_p, dEmpG_e_p, dDisp_e_p, dListZip_e_p, dGhE_e, dGh_e, dOverK_e, dFld_e, dSetF_e, dMake_e, dMeth_e, dPar_p, dPar3_p, dSetI_p, dCall_p, dCB_p, dBM_p, dBM0_p, dIfE_p, dNeg_p, dSl_p, dPart_p, dNoP_p, dAug_p, addI_p, dBreak_p, dCont_p, dAlt_p, dYes_p, dPairs_n, dPairs_c, gSubD_p, dBMd_p, addD_ii_p, addD_ss_p, addD_tt_p, subD_ii_p, mulD_ii_p, modD_ii_p, fdivD_ii_p, powE_ii_p, Int.reduceToNat, Int.reducePow, Int.reduceNeg, Int.neg_neg, ltD_ii_p, leD_ii_p, gtD_ii_p, geD_ii_p, ltD_ss_p, leD_ss_p, eqR_ii, eqR_ss, eqR_tt_p, eqR_bb, intR_b, intR_i, dFmt_e, dJs_n, dJs_c, strK_s, dJoined_p, fmtR_s, fmtR_i, strR_s, strR_i, lenR_t, lenR_s, tupleR_t, isNR_p, abs_ii, max_ii, min_ii, truD_b_p, slD_t_p, slD_s_p, inR_t, List.map, List.length, List.replicate, List.cons_append, List.nil_append, List.append_nil, List.getElem?_cons_succ, List.getElem?_cons_zero, Option.some.injEq, exists_eq_left', exists_eq_left, ex2, ex3, exists_eq', List.set_cons_succ, List.set_cons_zero, Nat.reduceAdd, Nat.reduceSub, true_and, and_true, D.bl.injEq, D.int.injEq, D.str.injEq, D.ptr.injEq, D.tup.injEq, decide_eq_true_eq, beq_iff_eq, Bool.false_eq_true, if_true, if_false, reduceIte, wipeD, List.foldr_cons, List.foldr_nil, Nat.reduceLeDiff, List.cons.injEq, and_self, List.length_cons, List.length_nil]
    simp only [List.mem_cons, List.mem_nil_iff, or_false] at e
    rcases e with e | e <;> subst e
    · exact ret_k (k (.text .mark l l3) s3 C ⟨hl, hl3⟩ ⟨nil, nil⟩ rfl (by omega) (pr3 (pr3 h)))
    · exact ret_k (k (.text .unmark l l3) s3 C ⟨hl, hl3⟩ ⟨nil, nil⟩ rfl (by omega) (pr3 (pr3 h)))
  unfold r__law_doing_2
  try simp only [dFor_e_p, dRng1_p, dRng2_p, dOver_p, dOverT_p, dOverS_p, dAltI_p, dEnum_p, dZip_p, dLc_e_p, dWhile_e_p, Int.toNat_natCast, dSeq_p, dChain_p, dOrT_p, dAndT_p, dNotT_p, dGetI_eq_p, Bool.not_true, Bool.not_false, dAsg_p, dOp_p, dVar_p, dC_p, gNm_p, gTp_p, gCn_p, gNl_p, dRet_p, dIf_p, dTest_p, dTru_p, dNot_p, dAnd_p, dOr_p, dNext_p, dDrop_p, dCons_p, dNil_p, dTup_p, dLst_e_p, dEmp_e_p, dEmpG_e_p, dDisp_e_p, dListZip_e_p, dGhE_e, dGh_e, dOverK_e, dFld_e, dSetF_e, dMake_e, dMeth_e, dPar_p, dPar3_p, dSetI_p, dCall_p, dCB_p, dBM_p, dBM0_p, dIfE_p, dNeg_p, dSl_p, dPart_p, dNoP_p, dAug_p, addI_p, dBreak_p, dCont_p, dAlt_p, dYes_p, dPairs_n, dPairs_c, gSubD_p, dBMd_p, addD_ii_p, addD_ss_p, addD_tt_p, subD_ii_p, mulD_ii_p, modD_ii_p, fdivD_ii_p, powE_ii_p, Int.reduceToNat, Int.reducePow, Int.reduceNeg, Int.neg_neg, ltD_ii_p, leD_ii_p, gtD_ii_p, geD_ii_p, ltD_ss_p, leD_ss_p, eqR_ii, eqR_ss, eqR_tt_p, eqR_bb, intR_b, intR_i, dFmt_e, dJs_n, dJs_c, strK_s, dJoined_p, fmtR_s, fmtR_i, strR_s, strR_i, lenR_t, lenR_s, tupleR_t, isNR_p, abs_ii, max_ii, min_ii, truD_b_p, slD_t_p, slD_s_p, inR_t, List.map, List.length, List.replicate, List.cons_append, List.nil_append, List.append_nil, List.getElem?_cons_succ, List.getElem?_cons_zero, Option.some.injEq, exists_eq_left', exists_eq_left, ex2, ex3, exists_eq', List.set_cons_succ, List.set_cons_zero, Nat.reduceAdd, Nat.reduceSub, true_and, and_true, D.bl.injEq, D.int.injEq, D.str.injEq, D.ptr.injEq, D.tup.injEq, decide_eq_true_eq, beq_iff_eq, Bool.false_eq_true, if_true, if_false, reduceIte, wipeD, List.foldr_cons, List.foldr_nil, Nat.reduceLeDiff, List.cons.injEq, and_self, List.length_cons, List.length_nil]
  refine ⟨rfl, okEqs_strs [[108, 97, 121], [108, 105, 102, 116]], ?_⟩
  rw [show memD [D.str [108, 97, 121], D.str [108, 105, 102, 116]] (.str w) = decide (w ∈ [[108, 97, 121], [108, 105, 102, 116]]) from memD_strs [[108, 97, 121], [108, 105, 102, 116]] w]
  split
  · rename_i e
    replace e := of_decide_eq_true e
    refine alloc_st h fun z C h => ?_
    refine of_m (zs := [([97], [98]), ([98], [97]), ([98], [99]), ([99], [97]), ([57], [49, 48])]) (f := edD) h (by (repeat (first | exact KB.Del.here | assumption | apply KB.Del.there))) (by (repeat (first | exact KB.Del.here | assumption | apply KB.Del.there))) (by (repeat (first | exact KB.At.here | assumption | apply KB.At.there))) (by omega) (by simp) (by simp) fun d s3 C hd hs3 h => ?_
    have hd : Tx d.1 ∧ Tx d.2 := by
      simp only [List.mem_cons, List.mem_nil_iff, or_false] at hd
      rcases hd with e | e | e | e | e <;> subst e <;> exact ⟨Tx.dec (by decide +kernel), Tx.dec (by decide +kernel)⟩
    rw [show edD d = .tup [.str d.1, .str d.2] from rfl]
    try simp only [dFor_e_p, dRng1_p, dRng2_p, dOver_p, dOverT_p, dOverS_p, dAltI_p, dEnum_p, dZip_p, dLc_e_p, dWhile_e_p, Int.toNat_natCast, dSeq_p, dChain_p, dOrT_p, dAndT_p, dNotT_p, dGetI_eq_p, Bool.not_true, Bool.not_false, dAsg_p, dOp_p, dVar_p, dC_p, gNm_p, gTp_p, gCn_p, gNl_p, dRet_p, dIf_p, dTest_p, dTru_p, dNot_p, dAnd_p, dOr_p, dNext_p, dDrop_p, dCons_p, dNil_p, dTup_p, dLst_e_p, dEmp_e_p, dEmpG_e_p, dDisp_e_p, dListZip_e_p, dGhE_e, dGh_e, dOverK_e, dFld_e, dSetF_e, dMake_e, dMeth_e, dPar_p, dPar3_p, dSetI_p, dCall_p, dCB_p, dBM_p, dBM0_p, dIfE_p, dNeg_p, dSl_p, dPart_p, dNoP_p, dAug_p, addI_p, dBreak_p, dCont_p, dAlt_p, dYes_p, dPairs_n, dPairs_c, gSubD_p, dBMd_p, addD_ii_p, addD_ss_p, addD_tt_p, subD_ii_p, mulD_ii_p, modD_ii_p, fdivD_ii_p, powE_ii_p, Int.reduceToNat, Int.reducePow, Int.reduceNeg, Int.neg_neg, ltD_ii_p, leD_ii_p, gtD_ii_p, geD_ii_p, ltD_ss_p, leD_ss_p, eqR_ii, eqR_ss, eqR_tt_p, eqR_bb, intR_b, intR_i, dFmt_e, dJs_n, dJs_c, strK_s, dJoined_p, fmtR_s, fmtR_i, strR_s, strR_i, lenR_t, lenR_s, tupleR_t, isNR_p, abs_ii, max_ii, min_ii, truD_b_p, slD_t_p, slD_s_p, inR_t, List.map, List.length, List.replicate, List.cons_append, List.nil_append, List.append_nil, List.getElem?_cons_succ, List.getElem?_cons_zero, Option.some.injEq, exists_eq_left', exists_eq_left, ex2, ex3, exists_eq', List.set_cons_succ, List.set_cons_zero, Nat.reduceAdd, Nat.reduceSub, true_and, and_true, D.bl.injEq, D.int.injEq, D.str.injEq, D.ptr.injEq, D.tup.injEq, decide_eq_true_eq, beq_iff_eq, Bool.false_eq_true, if_true, if_false, reduceIte, wipeD, List.foldr_cons, List.foldr_nil, Nat.reduceLeDiff, List.cons.injEq, and_self, List.length_cons, List.length_nil]
    simp only [List.mem_cons, List.mem_nil_iff, or_false] at e
    rcases e with e | e <;> subst e
    · exact ⟨by rw [sizeLine_eq]; decide, ret_k (k (.text .lay d.1 d.2) s3 C hd ⟨nil, nil⟩ rfl (by omega) (pr3 (pr3 h)))⟩
    · exact ⟨by rw [sizeLine_eq]; decide, ret_k (k (.text .lift d.1 d.2) s3 C hd ⟨nil, nil⟩ rfl (by omega) (pr3 (pr3 h)))⟩
  rename_i n1 n2 n3 n4 n5 n6
  replace n3 := fun z => n3 (decide_eq_true z)
  replace n5 := fun z => n5 (decide_eq_true z)
  replace n6 := fun z => n6 (decide_eq_true z)
  simp only [WORDS, List.mem_cons, List.mem_nil_iff, or_false] at hw n3 n5 n6
  have hw3 : w = [109, 111, 118, 101] ∨ w = [99, 97, 108, 108] ∨ w = [100, 114, 111, 112] := by
    rcases hw with e | e | e | e | e | e | e | e | e | e | e | e
    · exact absurd e n1
    · exact absurd e n2
    · exact absurd (.inl e) n3
    · exact absurd (.inr e) n3
    · exact absurd e n4
    · exact absurd (.inl e) n5
    · exact absurd (.inr e) n5
    · exact absurd (.inl e) n6
    · exact absurd (.inr e) n6
    · exact .inl e
    · exact .inr (.inl e)
    · exact .inr (.inr e)
  have hms := h1 (by simp only [List.mem_cons, List.mem_nil_iff, or_false]; exact hw3)
  unfold r__law_doing_1
  try simp only [dFor_e_p, dRng1_p, dRng2_p, dOver_p, dOverT_p, dOverS_p, dAltI_p, dEnum_p, dZip_p, dLc_e_p, dWhile_e_p, Int.toNat_natCast, dSeq_p, dChain_p, dOrT_p, dAndT_p, dNotT_p, dGetI_eq_p, Bool.not_true, Bool.not_false, dAsg_p, dOp_p, dVar_p, dC_p, gNm_p, gTp_p, gCn_p, gNl_p, dRet_p, dIf_p, dTest_p, dTru_p, dNot_p, dAnd_p, dOr_p, dNext_p, dDrop_p, dCons_p, dNil_p, dTup_p, dLst_e_p, dEmp_e_p, dEmpG_e_p, dDisp_e_p, dListZip_e_p, dGhE_e, dGh_e, dOverK_e, dFld_e, dSetF_e, dMake_e, dMeth_e, dPar_p, dPar3_p, dSetI_p, dCall_p, dCB_p, dBM_p, dBM0_p, dIfE_p, dNeg_p, dSl_p, dPart_p, dNoP_p, dAug_p, addI_p, dBreak_p, dCont_p, dAlt_p, dYes_p, dPairs_n, dPairs_c, gSubD_p, dBMd_p, addD_ii_p, addD_ss_p, addD_tt_p, subD_ii_p, mulD_ii_p, modD_ii_p, fdivD_ii_p, powE_ii_p, Int.reduceToNat, Int.reducePow, Int.reduceNeg, Int.neg_neg, ltD_ii_p, leD_ii_p, gtD_ii_p, geD_ii_p, ltD_ss_p, leD_ss_p, eqR_ii, eqR_ss, eqR_tt_p, eqR_bb, intR_b, intR_i, dFmt_e, dJs_n, dJs_c, strK_s, dJoined_p, fmtR_s, fmtR_i, strR_s, strR_i, lenR_t, lenR_s, tupleR_t, isNR_p, abs_ii, max_ii, min_ii, truD_b_p, slD_t_p, slD_s_p, inR_t, List.map, List.length, List.replicate, List.cons_append, List.nil_append, List.append_nil, List.getElem?_cons_succ, List.getElem?_cons_zero, Option.some.injEq, exists_eq_left', exists_eq_left, ex2, ex3, exists_eq', List.set_cons_succ, List.set_cons_zero, Nat.reduceAdd, Nat.reduceSub, true_and, and_true, D.bl.injEq, D.int.injEq, D.str.injEq, D.ptr.injEq, D.tup.injEq, decide_eq_true_eq, beq_iff_eq, Bool.false_eq_true, if_true, if_false, reduceIte, wipeD, List.foldr_cons, List.foldr_nil, Nat.reduceLeDiff, List.cons.injEq, and_self, List.length_cons, List.length_nil]
  have lc := len_cut (xs := ms) (lo := some (-2)) (hi := none)
  refine sl_st h (by (repeat (first | exact KB.At.here | assumption | apply KB.At.there))) fun z C h => ?_
  rw [cut_map] at h
  refine add_st h (by (repeat (first | exact KB.At.here | assumption | apply KB.At.there))) (by (repeat (first | exact KB.At.here | assumption | apply KB.At.there))) (by rw [sizeLine_eq, List.length_map, List.length_map]; omega) fun z2 C h => ?_
  rw [← List.map_append] at h
  refine of_m h (by (repeat (first | exact KB.Del.here | assumption | apply KB.Del.there))) (by (repeat (first | exact KB.Del.here | assumption | apply KB.Del.there))) (by (repeat (first | exact KB.At.here | assumption | apply KB.At.there))) (by omega) (fun z => hms (List.append_eq_nil_iff.mp z).2) (by rw [List.length_append]; omega) fun d s1 C hd hs1 h => ?_
  have hd : ∃ d' ∈ ks, d'.st = d.st := ⟨d, hm d ((List.mem_append.mp hd).elim mem_cut id), rfl⟩
  have h := pr3 (pr3 (pr3 h))
  refine word h (by (repeat (first | exact KB.Del.here | assumption | apply KB.Del.there))) (by (repeat (first | exact KB.Del.here | assumption | apply KB.Del.there))) (by omega) fun l s2 C hl hs2 h => ?_
  refine ⟨[(.inr [109, 111, 118, 101], stD o), (.inr [99, 97, 108, 108], .str l), (.inr [100, 114, 111, 112], .non)], rfl, by simp, alloc_st h fun z C h => ?_⟩
  rcases hw3 with e | e | e <;> subst e
  · refine getS_st h .here (d := stD o) rfl ?_
    refine ret_k (k (.move d.st o) s2 C trivial ⟨fun o' h => ?_, nil⟩ rfl (by omega) h.tail)
    rcases List.mem_cons.mp h with e | e
    · exact .inr (by rw [e]; exact hd)
    · rw [List.mem_singleton.mp e]; exact ho
  · refine getS_st h .here (d := .str l) rfl ?_
    exact ret_k (k (.call d.st l) s2 C hl ⟨fun o' h => .inr (by rw [List.mem_singleton.mp h]; exact hd), nil⟩ rfl (by omega) h.tail)
  · refine getS_st h .here (d := .non) rfl ?_
    exact ret_k (k (.drop d.st) s2 C trivial ⟨fun o' h => .inr (by rw [List.mem_singleton.mp h]; exact hd), nil⟩ rfl (by omega) h.tail)
theorem doing {ks : List Dd} {ws : List (List Nat)} {kn wa : Addr} (h : St S C0 C L) (d : Del L p (s.c r) true L1) (e : Del L1 r s.l true L2) (ak : At L2 kn (.lst (ks.map ddD))) (aw : At L2 wa (.lst (ws.map D.str))) (w0 : ws ≠ []) (w1 : ws.length < 50) (hw : ∀ w ∈ ws, w ∈ WORDS) (hk : ks.length < 100) (hn : s.n < 2 ^ 17)
    (k : ∀ (w : Dw) (s' : PS) C', w.tx → Nam ks w → w.wd ∈ [109, 97, 107, 101] :: ws → s'.n ≤ s.n + 40 → St S C0 C' ((p, s'.c r, true) :: (r, s'.l, true) :: L2) → Q (.tup [.str w.wd, w.x, w.y]) C') : D__law_doing [.ptr p, .ptr kn, .ptr wa] C Q E := by
  have h := two h d e
  unfold D__law_doing runD r__law_doing
  try simp only [dFor_e_p, dRng1_p, dRng2_p, dOver_p, dOverT_p, dOverS_p, dAltI_p, dEnum_p, dZip_p, dLc_e_p, dWhile_e_p, Int.toNat_natCast, dSeq_p, dChain_p, dOrT_p, dAndT_p, dNotT_p, dGetI_eq_p, Bool.not_true, Bool.not_false, dAsg_p, dOp_p, dVar_p, dC_p, gNm_p, gTp_p, gCn_p, gNl_p, dRet_p, dIf_p, dTest_p, dTru_p, dNot_p, dAnd_p, dOr_p, dNext_p, dDrop_p, dCons_p, dNil_p, dTup_p, dLst_e_p, dEmp_e_p, dEmpG_e_p, dDisp_e_p, dListZip_e_p, dGhE_e, dGh_e, dOverK_e, dFld_e, dSetF_e, dMake_e, dMeth_e, dPar_p, dPar3_p, dSetI_p, dCall_p, dCB_p, dBM_p, dBM0_p, dIfE_p, dNeg_p, dSl_p, dPart_p, dNoP_p, dAug_p, addI_p, dBreak_p, dCont_p, dAlt_p, dYes_p, dPairs_n, dPairs_c, gSubD_p, dBMd_p, addD_ii_p, addD_ss_p, addD_tt_p, subD_ii_p, mulD_ii_p, modD_ii_p, fdivD_ii_p, powE_ii_p, Int.reduceToNat, Int.reducePow, Int.reduceNeg, Int.neg_neg, ltD_ii_p, leD_ii_p, gtD_ii_p, geD_ii_p, ltD_ss_p, leD_ss_p, eqR_ii, eqR_ss, eqR_tt_p, eqR_bb, intR_b, intR_i, dFmt_e, dJs_n, dJs_c, strK_s, dJoined_p, fmtR_s, fmtR_i, strR_s, strR_i, lenR_t, lenR_s, tupleR_t, isNR_p, abs_ii, max_ii, min_ii, truD_b_p, slD_t_p, slD_s_p, inR_t, List.map, List.length, List.replicate, List.cons_append, List.nil_append, List.append_nil, List.getElem?_cons_succ, List.getElem?_cons_zero, Option.some.injEq, exists_eq_left', exists_eq_left, ex2, ex3, exists_eq', List.set_cons_succ, List.set_cons_zero, Nat.reduceAdd, Nat.reduceSub, true_and, and_true, D.bl.injEq, D.int.injEq, D.str.injEq, D.ptr.injEq, D.tup.injEq, decide_eq_true_eq, beq_iff_eq, Bool.false_eq_true, if_true, if_false, reduceIte, wipeD, List.foldr_cons, List.foldr_nil, Nat.reduceLeDiff, List.cons.injEq, and_self, List.length_cons, List.length_nil]
  refine ⟨ks.map ddD, .inl (h.get (by (repeat (first | exact KB.At.here | assumption | apply KB.At.there)))), ?_⟩
  refine lc_pick ks (fun d => d.w.isMake) (fun d => stD d.st) ddD rfl h (fun _ h => .inl (h.get (by (repeat (first | exact KB.At.here | assumption | apply KB.At.there))))) (fun d C' hd h Qt Q' k1 k2 => ?_) (by rw [sizeLine_eq]; omega) fun m C h => ?_
  · rw [show ddD d = .tup [stD d.st, .tup (d.seen.map seD), .str d.w.wd, d.w.x, d.w.y] from rfl]
    try simp only [dFor_e_p, dRng1_p, dRng2_p, dOver_p, dOverT_p, dOverS_p, dAltI_p, dEnum_p, dZip_p, dLc_e_p, dWhile_e_p, Int.toNat_natCast, dSeq_p, dChain_p, dOrT_p, dAndT_p, dNotT_p, dGetI_eq_p, Bool.not_true, Bool.not_false, dAsg_p, dOp_p, dVar_p, dC_p, gNm_p, gTp_p, gCn_p, gNl_p, dRet_p, dIf_p, dTest_p, dTru_p, dNot_p, dAnd_p, dOr_p, dNext_p, dDrop_p, dCons_p, dNil_p, dTup_p, dLst_e_p, dEmp_e_p, dEmpG_e_p, dDisp_e_p, dListZip_e_p, dGhE_e, dGh_e, dOverK_e, dFld_e, dSetF_e, dMake_e, dMeth_e, dPar_p, dPar3_p, dSetI_p, dCall_p, dCB_p, dBM_p, dBM0_p, dIfE_p, dNeg_p, dSl_p, dPart_p, dNoP_p, dAug_p, addI_p, dBreak_p, dCont_p, dAlt_p, dYes_p, dPairs_n, dPairs_c, gSubD_p, dBMd_p, addD_ii_p, addD_ss_p, addD_tt_p, subD_ii_p, mulD_ii_p, modD_ii_p, fdivD_ii_p, powE_ii_p, Int.reduceToNat, Int.reducePow, Int.reduceNeg, Int.neg_neg, ltD_ii_p, leD_ii_p, gtD_ii_p, geD_ii_p, ltD_ss_p, leD_ss_p, eqR_ii, eqR_ss, eqR_tt_p, eqR_bb, intR_b, intR_i, dFmt_e, dJs_n, dJs_c, strK_s, dJoined_p, fmtR_s, fmtR_i, strR_s, strR_i, lenR_t, lenR_s, tupleR_t, isNR_p, abs_ii, max_ii, min_ii, truD_b_p, slD_t_p, slD_s_p, inR_t, List.map, List.length, List.replicate, List.cons_append, List.nil_append, List.append_nil, List.getElem?_cons_succ, List.getElem?_cons_zero, Option.some.injEq, exists_eq_left', exists_eq_left, ex2, ex3, exists_eq', List.set_cons_succ, List.set_cons_zero, Nat.reduceAdd, Nat.reduceSub, true_and, and_true, D.bl.injEq, D.int.injEq, D.str.injEq, D.ptr.injEq, D.tup.injEq, decide_eq_true_eq, beq_iff_eq, Bool.false_eq_true, if_true, if_false, reduceIte, wipeD, List.foldr_cons, List.foldr_nil, Nat.reduceLeDiff, List.cons.injEq, and_self, List.length_cons, List.length_nil]
    refine ix_t rfl ?_
    try simp only [dFor_e_p, dRng1_p, dRng2_p, dOver_p, dOverT_p, dOverS_p, dAltI_p, dEnum_p, dZip_p, dLc_e_p, dWhile_e_p, Int.toNat_natCast, dSeq_p, dChain_p, dOrT_p, dAndT_p, dNotT_p, dGetI_eq_p, Bool.not_true, Bool.not_false, dAsg_p, dOp_p, dVar_p, dC_p, gNm_p, gTp_p, gCn_p, gNl_p, dRet_p, dIf_p, dTest_p, dTru_p, dNot_p, dAnd_p, dOr_p, dNext_p, dDrop_p, dCons_p, dNil_p, dTup_p, dLst_e_p, dEmp_e_p, dEmpG_e_p, dDisp_e_p, dListZip_e_p, dGhE_e, dGh_e, dOverK_e, dFld_e, dSetF_e, dMake_e, dMeth_e, dPar_p, dPar3_p, dSetI_p, dCall_p, dCB_p, dBM_p, dBM0_p, dIfE_p, dNeg_p, dSl_p, dPart_p, dNoP_p, dAug_p, addI_p, dBreak_p, dCont_p, dAlt_p, dYes_p, dPairs_n, dPairs_c, gSubD_p, dBMd_p, addD_ii_p, addD_ss_p, addD_tt_p, subD_ii_p, mulD_ii_p, modD_ii_p, fdivD_ii_p, powE_ii_p, Int.reduceToNat, Int.reducePow, Int.reduceNeg, Int.neg_neg, ltD_ii_p, leD_ii_p, gtD_ii_p, geD_ii_p, ltD_ss_p, leD_ss_p, eqR_ii, eqR_ss, eqR_tt_p, eqR_bb, intR_b, intR_i, dFmt_e, dJs_n, dJs_c, strK_s, dJoined_p, fmtR_s, fmtR_i, strR_s, strR_i, lenR_t, lenR_s, tupleR_t, isNR_p, abs_ii, max_ii, min_ii, truD_b_p, slD_t_p, slD_s_p, inR_t, List.map, List.length, List.replicate, List.cons_append, List.nil_append, List.append_nil, List.getElem?_cons_succ, List.getElem?_cons_zero, Option.some.injEq, exists_eq_left', exists_eq_left, ex2, ex3, exists_eq', List.set_cons_succ, List.set_cons_zero, Nat.reduceAdd, Nat.reduceSub, true_and, and_true, D.bl.injEq, D.int.injEq, D.str.injEq, D.ptr.injEq, D.tup.injEq, decide_eq_true_eq, beq_iff_eq, Bool.false_eq_true, if_true, if_false, reduceIte, wipeD, List.foldr_cons, List.foldr_nil, Nat.reduceLeDiff, List.cons.injEq, and_self, List.length_cons, List.length_nil]
    split
    · rename_i e
      exact ix_t rfl (k1 (by rw [← isMake_wd, e]; rfl) _ h)
    · rename_i e
      refine k2 ?_ _ _ h
      rw [← isMake_wd]
      simpa using e
  generalize hms : (ks.filter fun d => d.w.isMake) = ms at h
  have hm : ∀ d ∈ ms, d ∈ ks := fun d hd => by rw [← hms] at hd; exact (List.mem_filter.mp hd).1
  have hml : ms.length ≤ ks.length := by rw [← hms]; exact List.length_filter_le _ _
  try simp only [dFor_e_p, dRng1_p, dRng2_p, dOver_p, dOverT_p, dOverS_p, dAltI_p, dEnum_p, dZip_p, dLc_e_p, dWhile_e_p, Int.toNat_natCast, dSeq_p, dChain_p, dOrT_p, dAndT_p, dNotT_p, dGetI_eq_p, Bool.not_true, Bool.not_false, dAsg_p, dOp_p, dVar_p, dC_p, gNm_p, gTp_p, gCn_p, gNl_p, dRet_p, dIf_p, dTest_p, dTru_p, dNot_p, dAnd_p, dOr_p, dNext_p, dDrop_p, dCons_p, dNil_p, dTup_p, dLst_e_p, dEmp_e_p, dEmpG_e_p, dDisp_e_p, dListZip_e_p, dGhE_e, dGh_e, dOverK_e, dFld_e, dSetF_e, dMake_e, dMeth_e, dPar_p, dPar3_p, dSetI_p, dCall_p, dCB_p, dBM_p, dBM0_p, dIfE_p, dNeg_p, dSl_p, dPart_p, dNoP_p, dAug_p, addI_p, dBreak_p, dCont_p, dAlt_p, dYes_p, dPairs_n, dPairs_c, gSubD_p, dBMd_p, addD_ii_p, addD_ss_p, addD_tt_p, subD_ii_p, mulD_ii_p, modD_ii_p, fdivD_ii_p, powE_ii_p, Int.reduceToNat, Int.reducePow, Int.reduceNeg, Int.neg_neg, ltD_ii_p, leD_ii_p, gtD_ii_p, geD_ii_p, ltD_ss_p, leD_ss_p, eqR_ii, eqR_ss, eqR_tt_p, eqR_bb, intR_b, intR_i, dFmt_e, dJs_n, dJs_c, strK_s, dJoined_p, fmtR_s, fmtR_i, strR_s, strR_i, lenR_t, lenR_s, tupleR_t, isNR_p, abs_ii, max_ii, min_ii, truD_b_p, slD_t_p, slD_s_p, inR_t, List.map, List.length, List.replicate, List.cons_append, List.nil_append, List.append_nil, List.getElem?_cons_succ, List.getElem?_cons_zero, Option.some.injEq, exists_eq_left', exists_eq_left, ex2, ex3, exists_eq', List.set_cons_succ, List.set_cons_zero, Nat.reduceAdd, Nat.reduceSub, true_and, and_true, D.bl.injEq, D.int.injEq, D.str.injEq, D.ptr.injEq, D.tup.injEq, decide_eq_true_eq, beq_iff_eq, Bool.false_eq_true, if_true, if_false, reduceIte, wipeD, List.foldr_cons, List.foldr_nil, Nat.reduceLeDiff, List.cons.injEq, and_self, List.length_cons, List.length_nil]
  have lc := len_cut (xs := ms) (lo := some (-2)) (hi := none)
  refine alloc_st h fun z C h => ?_
  refine sl_st h (by (repeat (first | exact KB.At.here | assumption | apply KB.At.there))) fun z2 C h => ?_
  rw [cut_map] at h
  refine add_st h (by (repeat (first | exact KB.At.here | assumption | apply KB.At.there))) (by (repeat (first | exact KB.At.here | assumption | apply KB.At.there))) (by rw [sizeLine_eq, List.length_map, List.length_singleton]; omega) fun z3 C h => ?_
  refine add_st h (by (repeat (first | exact KB.At.here | assumption | apply KB.At.there))) (by (repeat (first | exact KB.At.here | assumption | apply KB.At.there))) (by rw [sizeLine_eq, List.length_append, List.length_map, List.length_map, List.length_singleton]; omega) fun z4 C h => ?_
  rw [show [D.tup [.int 0, .str []]] ++ (cutL ms (some (-2)) none).map (fun d => stD d.st) ++ ms.map (fun d => stD d.st) = (root :: ((cutL ms (some (-2)) none).map (·.st) ++ ms.map (·.st))).map stD by simp [stD, root, List.map_map, Function.comp_def]] at h
  refine of_m h (by (repeat (first | exact KB.Del.here | assumption | apply KB.Del.there))) (by (repeat (first | exact KB.Del.here | assumption | apply KB.Del.there))) (by (repeat (first | exact KB.At.here | assumption | apply KB.At.there))) (by omega) (by simp) (by simp only [List.length_cons, List.length_append, List.length_map]; omega) fun o s1 C ho hs1 h => ?_
  have ho : o = root ∨ ∃ d ∈ ks, d.st = o := by
    rcases List.mem_cons.mp ho with e | e
    · exact .inl e
    · refine .inr ?_
      rcases List.mem_append.mp e with e | e
      · obtain ⟨d, hd, e⟩ := List.mem_map.mp e
        exact ⟨d, hm d (mem_cut hd), e⟩
      · obtain ⟨d, hd, e⟩ := List.mem_map.mp e
        exact ⟨d, hm d hd, e⟩
  have h := pr3 (pr3 (pr3 (pr3 h)))
  refine of_tx h (by (repeat (first | exact KB.Del.here | assumption | apply KB.Del.there))) (by (repeat (first | exact KB.Del.here | assumption | apply KB.Del.there))) (by (repeat (first | exact KB.At.here | assumption | apply KB.At.there))) (by omega) w0 (by omega) fun w s2 C hw2 hs2 h => ?_
  have hww := hw w hw2
  have go : ∀ (w' : List Nat) (C' : Cp), w' = [109, 97, 107, 101] ∨ w' = w → (w' ∈ [[109, 111, 118, 101], [99, 97, 108, 108], [100, 114, 111, 112]] → ms ≠ []) → (w' = [117, 110, 100, 111] → ks ≠ []) → St S C0 C' ((p, s2.c r, true) :: (r, s2.l, true) :: (m, .lst (ms.map fun d => stD d.st), true) :: L2) → r__law_doing_7 { nx := fun x C' => ∃ C'', KB.Sub C'' C' ∧ Q D.non C'', rt := fun d C' => ∃ C'', KB.Sub C'' C' ∧ Q d C'' } [some (.ptr p), some (.ptr kn), some (.ptr wa), some (.ptr m), none, some (stD o), some (.str w'), none] C' := by
    intro w' C' e e1 e2 h
    refine doing7 h ak hk hml hm ho ?_ e1 e2 (by omega) fun w3 s3 C3 t1 t2 t3 t4 t5 => k w3 s3 C3 t1 t2 ?_ (by omega) t5
    · rcases e with e | e <;> subst e
      · simp [WORDS]
      · exact hww
    · rw [t3]
      rcases e with e | e <;> subst e
      · exact List.mem_cons_self
      · exact List.mem_cons_of_mem _ hw2
  have mk : ∀ C', St S C0 C' ((p, s2.c r, true) :: (r, s2.l, true) :: (m, .lst (ms.map fun d => stD d.st), true) :: L2) → r__law_doing_7 { nx := fun x C' => ∃ C'', KB.Sub C'' C' ∧ Q D.non C'', rt := fun d C' => ∃ C'', KB.Sub C'' C' ∧ Q d C'' } [some (.ptr p), some (.ptr kn), some (.ptr wa), some (.ptr m), none, some (stD o), some (.str [109, 97, 107, 101]), none] C' := fun C' h => go _ C' (.inl rfl) (fun z => by simp at z) (fun z => by simp at z) h
  have okm : okEqs (ms.map fun d => stD d.st) := okEqs_of (n := 1) (by decide) (fun _ => rfl) (fun _ => Nat.le_refl _) ms
  have eqm : ∀ {α : Type} (f : α → D) (xs : List α), eqDs (xs.map f) [] = xs.isEmpty := fun f xs => by cases xs <;> rfl
  have okk : okEqs (ks.map ddD) := okEqs_dd ks
  refine ⟨rfl, okEqs_strs [[109, 111, 118, 101], [99, 97, 108, 108], [100, 114, 111, 112]], ?_⟩
  rw [show memD [D.str [109, 111, 118, 101], D.str [99, 97, 108, 108], D.str [100, 114, 111, 112]] (.str w) = decide (w ∈ [[109, 111, 118, 101], [99, 97, 108, 108], [100, 114, 111, 112]]) from memD_strs [[109, 111, 118, 101], [99, 97, 108, 108], [100, 114, 111, 112]] w]
  split
  · rename_i e
    replace e := of_decide_eq_true e
    refine alloc_st h fun z C h => ?_
    refine eqL_st h (by (repeat (first | exact KB.At.here | assumption | apply KB.At.there))) (by (repeat (first | exact KB.At.here | assumption | apply KB.At.there))) okm rfl ?_
    refine ⟨_, rfl, ?_⟩
    rw [eqm]
    simp only [Bool.false_eq_true, if_false]
    split
    · exact mk _ h.tail
    · rename_i e1
      try simp only [dFor_e_p, dRng1_p, dRng2_p, dOver_p, dOverT_p, dOverS_p, dAltI_p, dEnum_p, dZip_p, dLc_e_p, dWhile_e_p, Int.toNat_natCast, dSeq_p, dChain_p, dOrT_p, dAndT_p, dNotT_p, dGetI_eq_p, Bool.not_true, Bool.not_false, dAsg_p, dOp_p, dVar_p, dC_p, gNm_p, gTp_p, gCn_p, gNl_p, dRet_p, dIf_p, dTest_p, dTru_p, dNot_p, dAnd_p, dOr_p, dNext_p, dDrop_p, dCons_p, dNil_p, dTup_p, dLst_e_p, dEmp_e_p, dEmpG_e_p, dDisp_e_p, dListZip_e_p, dGhE_e, dGh_e, dOverK_e, dFld_e, dSetF_e, dMake_e, dMeth_e, dPar_p, dPar3_p, dSetI_p, dCall_p, dCB_p, dBM_p, dBM0_p, dIfE_p, dNeg_p, dSl_p, dPart_p, dNoP_p, dAug_p, addI_p, dBreak_p, dCont_p, dAlt_p, dYes_p, dPairs_n, dPairs_c, gSubD_p, dBMd_p, addD_ii_p, addD_ss_p, addD_tt_p, subD_ii_p, mulD_ii_p, modD_ii_p, fdivD_ii_p, powE_ii_p, Int.reduceToNat, Int.reducePow, Int.reduceNeg, Int.neg_neg, ltD_ii_p, leD_ii_p, gtD_ii_p, geD_ii_p, ltD_ss_p, leD_ss_p, eqR_ii, eqR_ss, eqR_tt_p, eqR_bb, intR_b, intR_i, dFmt_e, dJs_n, dJs_c, strK_s, dJoined_p, fmtR_s, fmtR_i, strR_s, strR_i, lenR_t, lenR_s, tupleR_t, isNR_p, abs_ii, max_ii, min_ii, truD_b_p, slD_t_p, slD_s_p, inR_t, List.map, List.length, List.replicate, List.cons_append, List.nil_append, List.append_nil, List.getElem?_cons_succ, List.getElem?_cons_zero, Option.some.injEq, exists_eq_left', exists_eq_left, ex2, ex3, exists_eq', List.set_cons_succ, List.set_cons_zero, Nat.reduceAdd, Nat.reduceSub, true_and, and_true, D.bl.injEq, D.int.injEq, D.str.injEq, D.ptr.injEq, D.tup.injEq, decide_eq_true_eq, beq_iff_eq, Bool.false_eq_true, if_true, if_false, reduceIte, wipeD, List.foldr_cons, List.foldr_nil, Nat.reduceLeDiff, List.cons.injEq, and_self, List.length_cons, List.length_nil]
      split
      · rename_i e2
        subst e2
        simp at e
      · rename_i e2
        exact go w _ (.inr rfl) (fun _ z => e1 (by rw [z]; rfl)) (fun z => absurd z e2) h.tail
  · rename_i e
    replace e := fun z => e (decide_eq_true z)
    try simp only [dFor_e_p, dRng1_p, dRng2_p, dOver_p, dOverT_p, dOverS_p, dAltI_p, dEnum_p, dZip_p, dLc_e_p, dWhile_e_p, Int.toNat_natCast, dSeq_p, dChain_p, dOrT_p, dAndT_p, dNotT_p, dGetI_eq_p, Bool.not_true, Bool.not_false, dAsg_p, dOp_p, dVar_p, dC_p, gNm_p, gTp_p, gCn_p, gNl_p, dRet_p, dIf_p, dTest_p, dTru_p, dNot_p, dAnd_p, dOr_p, dNext_p, dDrop_p, dCons_p, dNil_p, dTup_p, dLst_e_p, dEmp_e_p, dEmpG_e_p, dDisp_e_p, dListZip_e_p, dGhE_e, dGh_e, dOverK_e, dFld_e, dSetF_e, dMake_e, dMeth_e, dPar_p, dPar3_p, dSetI_p, dCall_p, dCB_p, dBM_p, dBM0_p, dIfE_p, dNeg_p, dSl_p, dPart_p, dNoP_p, dAug_p, addI_p, dBreak_p, dCont_p, dAlt_p, dYes_p, dPairs_n, dPairs_c, gSubD_p, dBMd_p, addD_ii_p, addD_ss_p, addD_tt_p, subD_ii_p, mulD_ii_p, modD_ii_p, fdivD_ii_p, powE_ii_p, Int.reduceToNat, Int.reducePow, Int.reduceNeg, Int.neg_neg, ltD_ii_p, leD_ii_p, gtD_ii_p, geD_ii_p, ltD_ss_p, leD_ss_p, eqR_ii, eqR_ss, eqR_tt_p, eqR_bb, intR_b, intR_i, dFmt_e, dJs_n, dJs_c, strK_s, dJoined_p, fmtR_s, fmtR_i, strR_s, strR_i, lenR_t, lenR_s, tupleR_t, isNR_p, abs_ii, max_ii, min_ii, truD_b_p, slD_t_p, slD_s_p, inR_t, List.map, List.length, List.replicate, List.cons_append, List.nil_append, List.append_nil, List.getElem?_cons_succ, List.getElem?_cons_zero, Option.some.injEq, exists_eq_left', exists_eq_left, ex2, ex3, exists_eq', List.set_cons_succ, List.set_cons_zero, Nat.reduceAdd, Nat.reduceSub, true_and, and_true, D.bl.injEq, D.int.injEq, D.str.injEq, D.ptr.injEq, D.tup.injEq, decide_eq_true_eq, beq_iff_eq, Bool.false_eq_true, if_true, if_false, reduceIte, wipeD, List.foldr_cons, List.foldr_nil, Nat.reduceLeDiff, List.cons.injEq, and_self, List.length_cons, List.length_nil]
    split
    · rename_i e2
      refine alloc_st h fun z C h => ?_
      refine eqL_st h (by (repeat (first | exact KB.At.here | assumption | apply KB.At.there))) (by (repeat (first | exact KB.At.here | assumption | apply KB.At.there))) okk rfl ?_
      refine ⟨_, rfl, ?_⟩
      rw [eqm]
      simp only [Bool.false_eq_true, if_false]
      split
      · exact mk _ h.tail
      · rename_i e1
        exact go w _ (.inr rfl) (fun z => absurd z e) (fun _ z => e1 (by rw [z]; rfl)) h.tail
    · rename_i e2
      exact go w _ (.inr rfl) (fun z => absurd z e) (fun z => absurd z e2) h
end K15

namespace K15
open PySem PySem.Spec PyProof.Rows KB
open L2 hiding op_eqD op_neD call_listD
/-- a clock: the last number of each place -/
abbrev Ck := List (List Nat × Int)
def ckD (c : Ck) : List (DKey × D) := c.map fun x => (.inr x.1, .int x.2)
def gt (c : Ck) (k : List Nat) : Int := (lookA c k).getD 0
theorem ck_look (c : Ck) (k : List Nat) : lookA (ckD c) (.inr k) = (lookA c k).map D.int := by
  induction c with
  | nil => rfl
  | cons x r ih =>
    unfold ckD
    rw [List.map_cons, lookA_cons, lookA_cons]
    by_cases h : x.1 = k
    · rw [if_pos (by rw [h]), if_pos h]; rfl
    · rw [if_neg (fun z => h (Sum.inr.inj z)), if_neg h]; exact ih
theorem ck_any (c : Ck) (k : List Nat) : ((ckD c).any fun kv => decide (kv.1 = .inr k)) = c.any fun kv => decide (kv.1 = k) := by
  unfold ckD
  rw [List.any_map]
  congr 1
  funext x
  simp
theorem ck_put (c : Ck) (k : List Nat) (v : Int) : putA (ckD c) (.inr k) (.int v) = ckD (putA c k v) := by
  unfold putA
  rw [ck_any]
  split
  · unfold ckD
    rw [List.map_map, List.map_map]
    refine List.map_congr_left fun x _ => ?_
    simp only [Function.comp]
    by_cases h : x.1 = k
    · rw [if_pos (by rw [h]), if_pos h]
    · rw [if_neg (fun z => h (Sum.inr.inj z)), if_neg h]
  · unfold ckD
    rw [List.map_append]
    rfl
theorem gt_put (c : Ck) (k j : List Nat) (v : Int) : gt (putA c k v) j = if j = k then v else gt c j := by
  unfold gt
  rw [lookA_put]
  split <;> rfl
theorem look_mem {c : Ck} {k : List Nat} {v : Int} (h : lookA c k = some v) : (k, v) ∈ c := by
  induction c with
  | nil => cases h
  | cons x r ih =>
    rw [lookA_cons] at h
    by_cases e : x.1 = k
    · rw [if_pos e] at h
      cases h
      subst e
      exact List.mem_cons_self
    · rw [if_neg e] at h
      exact List.mem_cons_of_mem _ (ih h)
theorem mem_look {c : Ck} {k : List Nat} {v : Int} (nd : (c.map (·.1)).Nodup) (h : (k, v) ∈ c) : lookA c k = some v := by
  induction c with
  | nil => cases h
  | cons x r ih =>
    rw [List.map_cons] at nd
    obtain ⟨n1, n2⟩ := List.nodup_cons.mp nd
    rw [lookA_cons]
    rcases List.mem_cons.mp h with e | e
    · subst e; rw [if_pos rfl]
    · rw [if_neg (fun z => n1 (by rw [z]; exact List.mem_map.mpr ⟨_, e, rfl⟩))]
      exact ih n2 e
theorem keys_put (c : Ck) (k : List Nat) (v : Int) : (putA c k v).map (·.1) = if k ∈ c.map (·.1) then c.map (·.1) else c.map (·.1) ++ [k] := by
  unfold putA
  have : (c.any fun kv => decide (kv.1 = k)) = decide (k ∈ c.map (·.1)) := by
    rw [Bool.eq_iff_iff, List.any_eq_true, decide_eq_true_eq, List.mem_map]
    constructor
    · rintro ⟨x, h1, h2⟩; exact ⟨x, h1, by simpa using h2⟩
    · rintro ⟨x, h1, h2⟩; exact ⟨x, h1, by simpa using h2⟩
  rw [this]
  by_cases h : k ∈ c.map (·.1)
  · rw [if_pos (by simpa using h), if_pos h, List.map_map]
    refine List.map_congr_left fun x _ => ?_
    simp only [Function.comp]
    split <;> rfl
  · rw [if_neg (by simpa using h), if_neg h, List.map_append]
    rfl
theorem mem_put {c : Ck} {k : List Nat} {v : Int} {x : List Nat × Int} (h : x ∈ putA c k v) : x = (k, v) ∨ x ∈ c := by
  unfold putA at h
  split at h
  · obtain ⟨y, hy, e⟩ := List.mem_map.mp h
    split at e
    · rename_i z; rw [← e, z]; exact .inl rfl
    · rw [← e]; exact .inr hy
  · rcases List.mem_append.mp h with h | h
    · exact .inr h
    · exact .inl (List.mem_singleton.mp h)
theorem put_same {c : Ck} {k : List Nat} {v : Int} (nd : (c.map (·.1)).Nodup) (h : (k, v) ∈ c) : putA c k v = c := by
  unfold putA
  rw [if_pos (List.any_eq_true.mpr ⟨_, h, by simp⟩)]
  conv => rhs; rw [← List.map_id c]
  refine List.map_congr_left fun x hx => ?_
  split
  · rename_i e
    have h1 := mem_look nd h
    have h2 := mem_look nd (k := x.1) (v := x.2) hx
    rw [e, h1] at h2
    cases h2
    rfl
  · rfl
/-- the seven places and the ghost -/
def KEYS : List (List Nat) := [[98], [97], [112, 108, 97, 99, 101, 45, 97, 98, 99, 100, 101, 102], [112, 108, 97, 99, 101, 45, 97, 98, 99, 100, 101, 103], [57], [49, 48], [122, 122], [103, 104, 111, 115, 116]]
structure Gd (B : Int) (c : Ck) : Prop where
  nd : (c.map (·.1)).Nodup
  ok : ∀ x ∈ c, x.1 ∈ KEYS ∧ 1 ≤ x.2 ∧ x.2 ≤ B
theorem Gd.nil {B : Int} : Gd B [] := ⟨List.nodup_nil, fun x h => by cases h⟩
theorem nodup_len {α : Type} [DecidableEq α] : ∀ {xs ys : List α}, xs.Nodup → (∀ x ∈ xs, x ∈ ys) → xs.length ≤ ys.length
  | [], _, _, _ => Nat.zero_le _
  | x :: r, ys, nd, h => by
    obtain ⟨n1, n2⟩ := List.nodup_cons.mp nd
    have hx := h x List.mem_cons_self
    have := nodup_len (xs := r) (ys := ys.erase x) n2 fun z hz => (List.mem_erase_of_ne (fun e => n1 (by rw [← e]; exact hz))).mpr (h z (List.mem_cons_of_mem _ hz))
    rw [List.length_erase_of_mem hx] at this
    have := List.length_pos_of_mem hx
    rw [List.length_cons]
    omega
theorem Gd.len {B : Int} {c : Ck} (h : Gd B c) : c.length ≤ 8 := by
  have := nodup_len (xs := c.map (·.1)) (ys := KEYS) h.nd fun x hx => by
    obtain ⟨y, hy, rfl⟩ := List.mem_map.mp hx
    exact (h.ok y hy).1
  rw [List.length_map] at this
  exact this
theorem Gd.up {B B' : Int} {c : Ck} (h : Gd B c) (e : B ≤ B') : Gd B' c := ⟨h.nd, fun x hx => ⟨(h.ok x hx).1, (h.ok x hx).2.1, Int.le_trans (h.ok x hx).2.2 e⟩⟩
theorem Gd.put {B : Int} {c : Ck} (h : Gd B c) {k : List Nat} {v : Int} (hk : k ∈ KEYS) (h0 : 1 ≤ v) (h1 : v ≤ B) : Gd B (putA c k v) := by
  refine ⟨?_, fun x hx => ?_⟩
  · rw [keys_put]
    split
    · exact h.nd
    · rename_i n
      exact List.nodup_append.mpr ⟨h.nd, List.nodup_cons.mpr ⟨List.not_mem_nil, List.nodup_nil⟩, fun a ha b hb => by rw [List.mem_singleton.mp hb]; exact fun z => n (by rw [← z]; exact ha)⟩
  · rcases mem_put hx with e | e
    · subst e; exact ⟨hk, h0, h1⟩
    · exact h.ok x e
theorem Gd.gt {B : Int} {c : Ck} (h : Gd B c) (b : 0 ≤ B) (k : List Nat) : 0 ≤ gt c k ∧ gt c k ≤ B := by
  unfold K15.gt
  cases e : lookA c k with
  | none => exact ⟨Int.le_refl _, b⟩
  | some v =>
    have := (h.ok _ (look_mem e)).2
    exact ⟨Int.le_trans (by decide) this.1, this.2⟩
/-- no number is lost -/
def Le (c c' : Ck) : Prop := ∀ k, K15.gt c k ≤ K15.gt c' k
theorem Le.refl (c : Ck) : Le c c := fun _ => Int.le_refl _
theorem Le.trans {a b c : Ck} (h : Le a b) (g : Le b c) : Le a c := fun k => Int.le_trans (h k) (g k)
theorem Le.put {c : Ck} {k : List Nat} {v : Int} (h : K15.gt c k ≤ v) : Le c (putA c k v) := fun j => by
  rw [gt_put]
  split
  · rename_i e; subst e; exact h
  · exact Int.le_refl _
section
variable {S : Addr → Prop} {C0 C : Cp} {L L' L1 L2 : List Ent} {p q r : Addr} {Q : DQ} {R : Cp → Prop} {c : Ck} {k : List Nat} {v : Int} {ep : Nat}
theorem getC (h : St S C0 C L) (a : At L p (.dk (ckD c))) (z : Q (.int (gt c k)) C) : getR (.ptr p) [.str k, .int 0] C Q := by
  refine ⟨p, .str k, .int 0, lookA (ckD c) (.inr k), rfl, .inl rfl, .inl ⟨_, .inr k, h.get a, rfl, rfl⟩, ?_⟩
  rw [ck_look]
  unfold gt at z
  cases e : lookA c k with
  | none => rw [e] at z; exact z
  | some v => rw [e] at z; exact z
theorem getCw (h : St S C0 C L) (a : At L p (.lk (ckD c) ep)) (z : Q (.int (gt c k)) C) : getR (.ptr p) [.str k, .int 0] C Q := by
  refine ⟨p, .str k, .int 0, lookA (ckD c) (.inr k), rfl, .inl rfl, .inr (.inr ⟨_, _, .inr k, h.get a, rfl, rfl⟩), ?_⟩
  rw [ck_look]
  unfold gt at z
  cases e : lookA c k with
  | none => rw [e] at z; exact z
  | some v => rw [e] at z; exact z
theorem gotCw (h : St S C0 C L) (a : At L p (.lk (ckD c) ep)) (e : lookA c k = some v) (z : Q (.int v) C) : getX (.ptr p) (.str k) C Q := ⟨p, .int v, rfl, .inr (.inr ⟨_, _, .inr k, h.get a, rfl, by rw [ck_look, e]; rfl⟩), z⟩
theorem putC (h : St S C0 C L) (z : c.length ≤ 100) (u : Upd L p (.dk (ckD c)) (.dk (ckD (putA c k v))) L') (n : ∀ C', St S C0 C' L' → R C') : setR (.ptr p) (.str k) (.int v) C R := by
  refine put_k (h.get u.at) (.inr k) (by unfold ckD; rw [List.length_map, sizeLine_eq]; omega) ?_
  rw [ck_put]
  exact n _ (h.put u)
theorem putCw (h : St S C0 C L) (a : At L p (.lk (ckD c) ep)) (u : Upd L p (.lk (ckD c) ep) (.lk (ckD (putA c k v)) ep) L') (hk : k ∈ c.map (·.1)) (n : ∀ C', St S C0 C' L' → R C') : setR (.ptr p) (.str k) (.int v) C R := by
  refine ⟨p, _, rfl, .inr (.inr (.inr ⟨_, ep, .inr k, h.get a, rfl, ?_, rfl⟩)), ?_⟩
  · obtain ⟨x, hx, e⟩ := List.mem_map.mp hk
    exact List.mem_map.mpr ⟨(.inr x.1, .int x.2), List.mem_map.mpr ⟨x, hx, rfl⟩, by rw [← e]⟩
  · rw [ck_put]
    exact n _ (h.put u)
end
end K15

namespace K15
open PySem PySem.Spec PyProof.Rows KB
open L2 hiding op_eqD op_neD call_listD
section
variable {S : Addr → Prop} {C0 C : Cp} {L L' L1 L2 : List Ent} {p q r a b : Addr} {Q : DQ} {B : Int} {ca cb : Ck} {ED : DEnds} {x0 x1 x2 x3 x4 x5 x6 x7 x8 x9 x10 x11 x14 x15 : Option D}
theorem key_items (c : Ck) : (ckD c).map (fun q => keyD q.1) = c.map fun x => D.str x.1 := by
  unfold ckD
  rw [List.map_map]
  rfl
theorem merge2 (h : St S C0 C ((a, .dk (ckD ca), true) :: (b, .dk (ckD cb), true) :: L)) (ga : Gd B ca) (gb : Gd B cb) (hB : 0 ≤ B)
    (k : ∀ ca' x14' C', Gd B ca' → (∀ k, gt ca' k = max (gt ca k) (gt cb k)) → St S C0 C' ((a, .dk (ckD ca'), true) :: (b, .dk (ckD cb), true) :: L) → ED.nx [x0, x1, x2, x3, x4, x5, x6, x7, x8, x9, x10, x11, some (.ptr a), some (.ptr b), x14', x15] C') :
    dGh (dFor (dOverK (dVar 13)) (gNm 14) (l__law_row_2)) ED [x0, x1, x2, x3, x4, x5, x6, x7, x8, x9, x10, x11, some (.ptr a), some (.ptr b), x14, x15] C := by
  try simp only [dFor_e_p, dRng1_p, dRng2_p, dOver_p, dOverT_p, dOverS_p, dAltI_p, dEnum_p, dZip_p, dLc_e_p, dWhile_e_p, Int.toNat_natCast, dSeq_p, dChain_p, dOrT_p, dAndT_p, dNotT_p, dGetI_eq_p, Bool.not_true, Bool.not_false, dAsg_p, dOp_p, dVar_p, dC_p, gNm_p, gTp_p, gCn_p, gNl_p, dRet_p, dIf_p, dTest_p, dTru_p, dNot_p, dAnd_p, dOr_p, dNext_p, dDrop_p, dCons_p, dNil_p, dTup_p, dLst_e_p, dEmp_e_p, dEmpG_e_p, dDisp_e_p, dListZip_e_p, dGhE_e, dGh_e, dOverK_e, dFld_e, dSetF_e, dMake_e, dMeth_e, dPar_p, dPar3_p, dSetI_p, dCall_p, dCB_p, dBM_p, dBM0_p, dIfE_p, dNeg_p, dSl_p, dPart_p, dNoP_p, dAug_p, addI_p, dBreak_p, dCont_p, dAlt_p, dYes_p, dPairs_n, dPairs_c, gSubD_p, dBMd_p, addD_ii_p, addD_ss_p, addD_tt_p, subD_ii_p, mulD_ii_p, modD_ii_p, fdivD_ii_p, powE_ii_p, Int.reduceToNat, Int.reducePow, Int.reduceNeg, Int.neg_neg, ltD_ii_p, leD_ii_p, gtD_ii_p, geD_ii_p, ltD_ss_p, leD_ss_p, eqR_ii, eqR_ss, eqR_tt_p, eqR_bb, intR_b, intR_i, dFmt_e, dJs_n, dJs_c, strK_s, dJoined_p, fmtR_s, fmtR_i, strR_s, strR_i, lenR_t, lenR_s, tupleR_t, isNR_p, abs_ii, max_ii, min_ii, truD_b_p, slD_t_p, slD_s_p, inR_t, List.map, List.length, List.replicate, List.cons_append, List.nil_append, List.append_nil, List.getElem?_cons_succ, List.getElem?_cons_zero, Option.some.injEq, exists_eq_left', exists_eq_left, ex2, ex3, exists_eq', List.set_cons_succ, List.set_cons_zero, Nat.reduceAdd, Nat.reduceSub, true_and, and_true, D.bl.injEq, D.int.injEq, D.str.injEq, D.ptr.injEq, D.tup.injEq, decide_eq_true_eq, beq_iff_eq, Bool.false_eq_true, if_true, if_false, reduceIte, wipeD, List.foldr_cons, List.foldr_nil, Nat.reduceLeDiff, List.cons.injEq, and_self, List.length_cons, List.length_nil]
  refine overK_st h (by (repeat (first | exact KB.Del.here | assumption | apply KB.Del.there))) fun ep C h => ?_
  rw [key_items]
  refine for_st (fun j sl C => ∃ (ca' : Ck) (x14 : Option D), sl = [x0, x1, x2, x3, x4, x5, x6, x7, x8, x9, x10, x11, some (.ptr a), some (.ptr b), x14, x15] ∧ Gd B ca' ∧ (∀ k, gt ca' k = if k ∈ (cb.take j).map (·.1) then max (gt ca k) (gt cb k) else gt ca k) ∧ St S C0 C ((b, .lk (ckD cb) ep, true) :: (a, .dk (ckD ca'), true) :: L))
    ⟨ca, _, rfl, ga, fun k => by rw [List.take_zero]; rfl, h⟩ (fun j sl C hJ => ?_) (fun j x sl C hj hx hJ => ?_) fun sl C hJ => ?_
  · obtain ⟨ca', x14, rfl, g1, g2, h⟩ := hJ
    exact ⟨_, h.get .here, rfl⟩
  · obtain ⟨ca', x14, rfl, g1, g2, h⟩ := hJ
    rw [List.length_map] at hj
    rw [List.getElem?_map, List.getElem?_eq_getElem hj] at hx
    cases hx
    have hm := List.getElem_mem hj
    have htk : cb.take (j + 1) = cb.take j ++ [cb[j]] := by rw [List.take_add_one, List.getElem?_eq_getElem hj]; rfl
    rw [htk]
    generalize cb[j] = y at hm
    obtain ⟨kk, v⟩ := y
    obtain ⟨o1, o2, o3⟩ := gb.ok _ hm
    unfold l__law_row_2
    try simp only [dFor_e_p, dRng1_p, dRng2_p, dOver_p, dOverT_p, dOverS_p, dAltI_p, dEnum_p, dZip_p, dLc_e_p, dWhile_e_p, Int.toNat_natCast, dSeq_p, dChain_p, dOrT_p, dAndT_p, dNotT_p, dGetI_eq_p, Bool.not_true, Bool.not_false, dAsg_p, dOp_p, dVar_p, dC_p, gNm_p, gTp_p, gCn_p, gNl_p, dRet_p, dIf_p, dTest_p, dTru_p, dNot_p, dAnd_p, dOr_p, dNext_p, dDrop_p, dCons_p, dNil_p, dTup_p, dLst_e_p, dEmp_e_p, dEmpG_e_p, dDisp_e_p, dListZip_e_p, dGhE_e, dGh_e, dOverK_e, dFld_e, dSetF_e, dMake_e, dMeth_e, dPar_p, dPar3_p, dSetI_p, dCall_p, dCB_p, dBM_p, dBM0_p, dIfE_p, dNeg_p, dSl_p, dPart_p, dNoP_p, dAug_p, addI_p, dBreak_p, dCont_p, dAlt_p, dYes_p, dPairs_n, dPairs_c, gSubD_p, dBMd_p, addD_ii_p, addD_ss_p, addD_tt_p, subD_ii_p, mulD_ii_p, modD_ii_p, fdivD_ii_p, powE_ii_p, Int.reduceToNat, Int.reducePow, Int.reduceNeg, Int.neg_neg, ltD_ii_p, leD_ii_p, gtD_ii_p, geD_ii_p, ltD_ss_p, leD_ss_p, eqR_ii, eqR_ss, eqR_tt_p, eqR_bb, intR_b, intR_i, dFmt_e, dJs_n, dJs_c, strK_s, dJoined_p, fmtR_s, fmtR_i, strR_s, strR_i, lenR_t, lenR_s, tupleR_t, isNR_p, abs_ii, max_ii, min_ii, truD_b_p, slD_t_p, slD_s_p, inR_t, List.map, List.length, List.replicate, List.cons_append, List.nil_append, List.append_nil, List.getElem?_cons_succ, List.getElem?_cons_zero, Option.some.injEq, exists_eq_left', exists_eq_left, ex2, ex3, exists_eq', List.set_cons_succ, List.set_cons_zero, Nat.reduceAdd, Nat.reduceSub, true_and, and_true, D.bl.injEq, D.int.injEq, D.str.injEq, D.ptr.injEq, D.tup.injEq, decide_eq_true_eq, beq_iff_eq, Bool.false_eq_true, if_true, if_false, reduceIte, wipeD, List.foldr_cons, List.foldr_nil, Nat.reduceLeDiff, List.cons.injEq, and_self, List.length_cons, List.length_nil]
    refine ⟨.inl ⟨_, h.get (by (repeat (first | exact KB.At.here | assumption | apply KB.At.there)))⟩, getC h (by (repeat (first | exact KB.At.here | assumption | apply KB.At.there))) ?_⟩
    refine gotCw h (by (repeat (first | exact KB.At.here | assumption | apply KB.At.there))) (mem_look gb.nd hm) ?_
    try simp only [dFor_e_p, dRng1_p, dRng2_p, dOver_p, dOverT_p, dOverS_p, dAltI_p, dEnum_p, dZip_p, dLc_e_p, dWhile_e_p, Int.toNat_natCast, dSeq_p, dChain_p, dOrT_p, dAndT_p, dNotT_p, dGetI_eq_p, Bool.not_true, Bool.not_false, dAsg_p, dOp_p, dVar_p, dC_p, gNm_p, gTp_p, gCn_p, gNl_p, dRet_p, dIf_p, dTest_p, dTru_p, dNot_p, dAnd_p, dOr_p, dNext_p, dDrop_p, dCons_p, dNil_p, dTup_p, dLst_e_p, dEmp_e_p, dEmpG_e_p, dDisp_e_p, dListZip_e_p, dGhE_e, dGh_e, dOverK_e, dFld_e, dSetF_e, dMake_e, dMeth_e, dPar_p, dPar3_p, dSetI_p, dCall_p, dCB_p, dBM_p, dBM0_p, dIfE_p, dNeg_p, dSl_p, dPart_p, dNoP_p, dAug_p, addI_p, dBreak_p, dCont_p, dAlt_p, dYes_p, dPairs_n, dPairs_c, gSubD_p, dBMd_p, addD_ii_p, addD_ss_p, addD_tt_p, subD_ii_p, mulD_ii_p, modD_ii_p, fdivD_ii_p, powE_ii_p, Int.reduceToNat, Int.reducePow, Int.reduceNeg, Int.neg_neg, ltD_ii_p, leD_ii_p, gtD_ii_p, geD_ii_p, ltD_ss_p, leD_ss_p, eqR_ii, eqR_ss, eqR_tt_p, eqR_bb, intR_b, intR_i, dFmt_e, dJs_n, dJs_c, strK_s, dJoined_p, fmtR_s, fmtR_i, strR_s, strR_i, lenR_t, lenR_s, tupleR_t, isNR_p, abs_ii, max_ii, min_ii, truD_b_p, slD_t_p, slD_s_p, inR_t, List.map, List.length, List.replicate, List.cons_append, List.nil_append, List.append_nil, List.getElem?_cons_succ, List.getElem?_cons_zero, Option.some.injEq, exists_eq_left', exists_eq_left, ex2, ex3, exists_eq', List.set_cons_succ, List.set_cons_zero, Nat.reduceAdd, Nat.reduceSub, true_and, and_true, D.bl.injEq, D.int.injEq, D.str.injEq, D.ptr.injEq, D.tup.injEq, decide_eq_true_eq, beq_iff_eq, Bool.false_eq_true, if_true, if_false, reduceIte, wipeD, List.foldr_cons, List.foldr_nil, Nat.reduceLeDiff, List.cons.injEq, and_self, List.length_cons, List.length_nil]
    have hg := g1.gt hB kk
    have o2 : 1 ≤ v := o2
    have o3 : v ≤ B := o3
    refine putC (c := ca') h (by have := g1.len; omega) (.there .here) fun C h => ?_
    refine ⟨C, Sub.refl _, _, g1.put (k := kk) (show kk ∈ KEYS from o1) (by split <;> omega) (by split <;> omega), fun k => ?_, h⟩
    have hgb : gt cb kk = v := by unfold gt; rw [mem_look gb.nd hm]; rfl
    have h3 := g2 k
    rw [gt_put, List.map_append, List.map_cons, List.map_nil]
    by_cases e : k = kk
    · subst e
      rw [if_pos rfl, if_pos (List.mem_append_right _ List.mem_cons_self), hgb]
      rw [hgb] at h3
      split at h3 <;> split <;> omega
    · rw [if_neg e, h3]
      have : k ∈ List.map (·.1) (cb.take j) ++ [(kk, v).1] ↔ k ∈ List.map (·.1) (cb.take j) := by
        rw [List.mem_append, List.mem_singleton]
        exact ⟨fun h => h.resolve_right e, .inl⟩
      simp only [this]
  · obtain ⟨ca', x14, rfl, g1, g2, h⟩ := hJ
    rw [List.length_map, List.take_of_length_le (Nat.le_refl _)] at g2
    refine unlK_st h .here fun C h => k ca' x14 C g1 (fun k => ?_) h.swap
    rw [g2 k]
    split
    · rfl
    · rename_i n
      have z : gt cb k = 0 := by
        unfold gt
        cases e : lookA cb k with
        | none => rfl
        | some v => exact absurd (List.mem_map.mpr ⟨_, look_mem e, rfl⟩) n
      have := (ga.gt hB k).1
      rw [z]
      omega
theorem merge1 (h : St S C0 C ((a, .dk (ckD ca), true) :: L)) (ga : Gd B ca)
    (k : ∀ x14' C', St S C0 C' ((a, .dk (ckD ca), true) :: L) → ED.nx [x0, x1, x2, x3, x4, x5, x6, x7, x8, x9, x10, x11, some (.ptr a), some (.ptr a), x14', x15] C') :
    dGh (dFor (dOverK (dVar 13)) (gNm 14) (l__law_row_2)) ED [x0, x1, x2, x3, x4, x5, x6, x7, x8, x9, x10, x11, some (.ptr a), some (.ptr a), x14, x15] C := by
  try simp only [dFor_e_p, dRng1_p, dRng2_p, dOver_p, dOverT_p, dOverS_p, dAltI_p, dEnum_p, dZip_p, dLc_e_p, dWhile_e_p, Int.toNat_natCast, dSeq_p, dChain_p, dOrT_p, dAndT_p, dNotT_p, dGetI_eq_p, Bool.not_true, Bool.not_false, dAsg_p, dOp_p, dVar_p, dC_p, gNm_p, gTp_p, gCn_p, gNl_p, dRet_p, dIf_p, dTest_p, dTru_p, dNot_p, dAnd_p, dOr_p, dNext_p, dDrop_p, dCons_p, dNil_p, dTup_p, dLst_e_p, dEmp_e_p, dEmpG_e_p, dDisp_e_p, dListZip_e_p, dGhE_e, dGh_e, dOverK_e, dFld_e, dSetF_e, dMake_e, dMeth_e, dPar_p, dPar3_p, dSetI_p, dCall_p, dCB_p, dBM_p, dBM0_p, dIfE_p, dNeg_p, dSl_p, dPart_p, dNoP_p, dAug_p, addI_p, dBreak_p, dCont_p, dAlt_p, dYes_p, dPairs_n, dPairs_c, gSubD_p, dBMd_p, addD_ii_p, addD_ss_p, addD_tt_p, subD_ii_p, mulD_ii_p, modD_ii_p, fdivD_ii_p, powE_ii_p, Int.reduceToNat, Int.reducePow, Int.reduceNeg, Int.neg_neg, ltD_ii_p, leD_ii_p, gtD_ii_p, geD_ii_p, ltD_ss_p, leD_ss_p, eqR_ii, eqR_ss, eqR_tt_p, eqR_bb, intR_b, intR_i, dFmt_e, dJs_n, dJs_c, strK_s, dJoined_p, fmtR_s, fmtR_i, strR_s, strR_i, lenR_t, lenR_s, tupleR_t, isNR_p, abs_ii, max_ii, min_ii, truD_b_p, slD_t_p, slD_s_p, inR_t, List.map, List.length, List.replicate, List.cons_append, List.nil_append, List.append_nil, List.getElem?_cons_succ, List.getElem?_cons_zero, Option.some.injEq, exists_eq_left', exists_eq_left, ex2, ex3, exists_eq', List.set_cons_succ, List.set_cons_zero, Nat.reduceAdd, Nat.reduceSub, true_and, and_true, D.bl.injEq, D.int.injEq, D.str.injEq, D.ptr.injEq, D.tup.injEq, decide_eq_true_eq, beq_iff_eq, Bool.false_eq_true, if_true, if_false, reduceIte, wipeD, List.foldr_cons, List.foldr_nil, Nat.reduceLeDiff, List.cons.injEq, and_self, List.length_cons, List.length_nil]
  refine overK_st h (by (repeat (first | exact KB.Del.here | assumption | apply KB.Del.there))) fun ep C h => ?_
  rw [key_items]
  refine for_st (fun j sl C => ∃ (x14 : Option D), sl = [x0, x1, x2, x3, x4, x5, x6, x7, x8, x9, x10, x11, some (.ptr a), some (.ptr a), x14, x15] ∧ St S C0 C ((a, .lk (ckD ca) ep, true) :: L))
    ⟨_, rfl, h⟩ (fun j sl C hJ => ?_) (fun j x sl C hj hx hJ => ?_) fun sl C hJ => ?_
  · obtain ⟨x14, rfl, h⟩ := hJ
    exact ⟨_, h.get .here, rfl⟩
  · obtain ⟨x14, rfl, h⟩ := hJ
    rw [List.length_map] at hj
    rw [List.getElem?_map, List.getElem?_eq_getElem hj] at hx
    cases hx
    have hm := List.getElem_mem hj
    generalize ca[j] = y at hm
    obtain ⟨kk, v⟩ := y
    obtain ⟨o1, o2, o3⟩ := ga.ok _ hm
    have hl := mem_look ga.nd hm
    unfold l__law_row_2
    try simp only [dFor_e_p, dRng1_p, dRng2_p, dOver_p, dOverT_p, dOverS_p, dAltI_p, dEnum_p, dZip_p, dLc_e_p, dWhile_e_p, Int.toNat_natCast, dSeq_p, dChain_p, dOrT_p, dAndT_p, dNotT_p, dGetI_eq_p, Bool.not_true, Bool.not_false, dAsg_p, dOp_p, dVar_p, dC_p, gNm_p, gTp_p, gCn_p, gNl_p, dRet_p, dIf_p, dTest_p, dTru_p, dNot_p, dAnd_p, dOr_p, dNext_p, dDrop_p, dCons_p, dNil_p, dTup_p, dLst_e_p, dEmp_e_p, dEmpG_e_p, dDisp_e_p, dListZip_e_p, dGhE_e, dGh_e, dOverK_e, dFld_e, dSetF_e, dMake_e, dMeth_e, dPar_p, dPar3_p, dSetI_p, dCall_p, dCB_p, dBM_p, dBM0_p, dIfE_p, dNeg_p, dSl_p, dPart_p, dNoP_p, dAug_p, addI_p, dBreak_p, dCont_p, dAlt_p, dYes_p, dPairs_n, dPairs_c, gSubD_p, dBMd_p, addD_ii_p, addD_ss_p, addD_tt_p, subD_ii_p, mulD_ii_p, modD_ii_p, fdivD_ii_p, powE_ii_p, Int.reduceToNat, Int.reducePow, Int.reduceNeg, Int.neg_neg, ltD_ii_p, leD_ii_p, gtD_ii_p, geD_ii_p, ltD_ss_p, leD_ss_p, eqR_ii, eqR_ss, eqR_tt_p, eqR_bb, intR_b, intR_i, dFmt_e, dJs_n, dJs_c, strK_s, dJoined_p, fmtR_s, fmtR_i, strR_s, strR_i, lenR_t, lenR_s, tupleR_t, isNR_p, abs_ii, max_ii, min_ii, truD_b_p, slD_t_p, slD_s_p, inR_t, List.map, List.length, List.replicate, List.cons_append, List.nil_append, List.append_nil, List.getElem?_cons_succ, List.getElem?_cons_zero, Option.some.injEq, exists_eq_left', exists_eq_left, ex2, ex3, exists_eq', List.set_cons_succ, List.set_cons_zero, Nat.reduceAdd, Nat.reduceSub, true_and, and_true, D.bl.injEq, D.int.injEq, D.str.injEq, D.ptr.injEq, D.tup.injEq, decide_eq_true_eq, beq_iff_eq, Bool.false_eq_true, if_true, if_false, reduceIte, wipeD, List.foldr_cons, List.foldr_nil, Nat.reduceLeDiff, List.cons.injEq, and_self, List.length_cons, List.length_nil]
    refine ⟨.inr (.inr ⟨_, _, h.get (by (repeat (first | exact KB.At.here | assumption | apply KB.At.there)))⟩), getCw h (by (repeat (first | exact KB.At.here | assumption | apply KB.At.there))) ?_⟩
    refine gotCw h (by (repeat (first | exact KB.At.here | assumption | apply KB.At.there))) hl ?_
    rw [show gt ca kk = v by unfold gt; rw [hl]; rfl]
    try simp only [dFor_e_p, dRng1_p, dRng2_p, dOver_p, dOverT_p, dOverS_p, dAltI_p, dEnum_p, dZip_p, dLc_e_p, dWhile_e_p, Int.toNat_natCast, dSeq_p, dChain_p, dOrT_p, dAndT_p, dNotT_p, dGetI_eq_p, Bool.not_true, Bool.not_false, dAsg_p, dOp_p, dVar_p, dC_p, gNm_p, gTp_p, gCn_p, gNl_p, dRet_p, dIf_p, dTest_p, dTru_p, dNot_p, dAnd_p, dOr_p, dNext_p, dDrop_p, dCons_p, dNil_p, dTup_p, dLst_e_p, dEmp_e_p, dEmpG_e_p, dDisp_e_p, dListZip_e_p, dGhE_e, dGh_e, dOverK_e, dFld_e, dSetF_e, dMake_e, dMeth_e, dPar_p, dPar3_p, dSetI_p, dCall_p, dCB_p, dBM_p, dBM0_p, dIfE_p, dNeg_p, dSl_p, dPart_p, dNoP_p, dAug_p, addI_p, dBreak_p, dCont_p, dAlt_p, dYes_p, dPairs_n, dPairs_c, gSubD_p, dBMd_p, addD_ii_p, addD_ss_p, addD_tt_p, subD_ii_p, mulD_ii_p, modD_ii_p, fdivD_ii_p, powE_ii_p, Int.reduceToNat, Int.reducePow, Int.reduceNeg, Int.neg_neg, ltD_ii_p, leD_ii_p, gtD_ii_p, geD_ii_p, ltD_ss_p, leD_ss_p, eqR_ii, eqR_ss, eqR_tt_p, eqR_bb, intR_b, intR_i, dFmt_e, dJs_n, dJs_c, strK_s, dJoined_p, fmtR_s, fmtR_i, strR_s, strR_i, lenR_t, lenR_s, tupleR_t, isNR_p, abs_ii, max_ii, min_ii, truD_b_p, slD_t_p, slD_s_p, inR_t, List.map, List.length, List.replicate, List.cons_append, List.nil_append, List.append_nil, List.getElem?_cons_succ, List.getElem?_cons_zero, Option.some.injEq, exists_eq_left', exists_eq_left, ex2, ex3, exists_eq', List.set_cons_succ, List.set_cons_zero, Nat.reduceAdd, Nat.reduceSub, true_and, and_true, D.bl.injEq, D.int.injEq, D.str.injEq, D.ptr.injEq, D.tup.injEq, decide_eq_true_eq, beq_iff_eq, Bool.false_eq_true, if_true, if_false, reduceIte, wipeD, List.foldr_cons, List.foldr_nil, Nat.reduceLeDiff, List.cons.injEq, and_self, List.length_cons, List.length_nil]
    have es : (if v < v then v else v) = v := by split <;> rfl
    rw [es]
    refine putCw (c := ca) h (by (repeat (first | exact KB.At.here | assumption | apply KB.At.there))) .here (List.mem_map.mpr ⟨_, hm, rfl⟩) fun C h => ?_
    rw [put_same ga.nd hm] at h
    exact ⟨C, Sub.refl _, h⟩
  · obtain ⟨x14, rfl, h⟩ := hJ
    exact unlK_st h .here fun C h => k x14 C h
end
end K15

namespace K15
open PySem PySem.Spec PyProof.Rows KB
open L2 hiding op_eqD op_neD call_listD
def clE (cs : List (Addr × Ck)) : List Ent := cs.map fun x => (x.1, Cell.dk (ckD x.2), true)
theorem ckD_inj : ∀ {a b : Ck}, ckD a = ckD b → a = b
  | [], [], _ => rfl
  | [], _ :: _, h => by cases h
  | _ :: _, [], h => by cases h
  | x :: a, y :: b, h => by
    unfold ckD at h
    rw [List.map_cons, List.map_cons] at h
    injection h with h1 h2
    simp only [Prod.mk.injEq, Sum.inr.injEq, D.int.injEq] at h1
    rw [ckD_inj (a := a) (b := b) h2, Prod.ext h1.1 h1.2]
theorem clE_perm {cs ds : List (Addr × Ck)} (h : cs.Perm ds) : (clE cs).Perm (clE ds) := h.map _
theorem dListValues_e {t : DE} {s : Sl} {C : Cp} {Q : DQ} : dListValues t s C Q = t s C fun x C1 => ∃ d kvs, x = .ptr d ∧ C1 d = some (.dk kvs) ∧ alloc (.lst (kvs.map (·.2))) C1 Q := propext Iff.rfl
theorem dListItems_e {t : DE} {s : Sl} {C : Cp} {Q : DQ} : dListItems t s C Q = t s C fun x C1 => ∃ d kvs, x = .ptr d ∧ C1 d = some (.dk kvs) ∧ alloc (.lst (kvs.map prD)) C1 Q := propext Iff.rfl
def vls (c : Ck) : List Int := List.map Prod.snd c
theorem vals_ck (c : Ck) : (ckD c).map (·.2) = (vls c).map D.int := by
  unfold ckD vls
  rw [List.map_map, List.map_map]
  rfl
theorem items_ck (c : Ck) : (ckD c).map prD = c.map seD := by
  unfold ckD
  rw [List.map_map]
  rfl
theorem sortOk_se (c : Ck) : SortOk (c.map seD) := by
  refine ⟨.inl ⟨fun a ha b hb => ?_, .inl fun d hd => ?_⟩, fun x hx => ?_⟩
  · obtain ⟨c, hc, rfl⟩ := List.mem_map.mp ha
    obtain ⟨e, he, rfl⟩ := List.mem_map.mp hb
    obtain ⟨x, _, rfl⟩ := List.mem_map.mp hc
    obtain ⟨y, _, rfl⟩ := List.mem_map.mp he
    rfl
  · obtain ⟨c, hc, rfl⟩ := List.mem_map.mp hd
    obtain ⟨x, _, rfl⟩ := List.mem_map.mp hc
    exact ⟨_, rfl⟩
  · obtain ⟨c, hc, rfl⟩ := List.mem_map.mp hx
    exact ⟨rfl, by show (1 : Nat) ≤ 60; decide⟩
def NB : Int := 100000000000000000000000000000
/-- a deed of a row -/
structure OkD (B : Int) (rows : List Dd) (d : Dd) : Prop where
  tx : d.w.tx
  st0 : 1 ≤ d.st.1
  st1 : d.st.1 ≤ B
  pl : d.st.2 ∈ KEYS
  seen : Gd B d.seen
  nam : ∀ o ∈ d.w.named ++ d.w.undone, o = root ∨ (o ∈ rows.map (·.st) ∧ o.1 < d.st.1)
theorem OkD.up {B B' : Int} {rows rows' : List Dd} {d : Dd} (h : OkD B rows d) (e : B ≤ B') (m : ∀ x ∈ rows, x ∈ rows') : OkD B' rows' d := ⟨h.tx, h.st0, Int.le_trans h.st1 e, h.pl, h.seen.up e, fun o ho => (h.nam o ho).imp id fun ⟨z, l⟩ => ⟨by obtain ⟨x, hx, e⟩ := List.mem_map.mp z; exact List.mem_map.mpr ⟨x, m x hx, e⟩, l⟩⟩
structure RowI (tb : List (DKey × D)) (ps : List (List Nat)) (B : Int) (rows : List Dd) (cs : List (Addr × Ck)) : Prop where
  gd : ∀ x ∈ cs, Gd B x.2
  own : ∀ d ∈ rows, ∃ a c, lookA tb (.inr d.st.2) = some (.ptr a) ∧ (a, c) ∈ cs ∧ d.st.1 ≤ gt c d.st.2
  nd : (rows.map (·.st)).Nodup
  ok : ∀ d ∈ rows, OkD B rows d
  kn : ∀ P ∈ ps, ∀ a cP, lookA tb (.inr P) = some (.ptr a) → (a, cP) ∈ cs → (∀ x ∈ cs, gt x.2 P ≤ gt cP P) ∧ ∀ d ∈ rows, gt d.seen P ≤ gt cP P
  ca : ∀ x ∈ cs, ∀ d ∈ rows, d.st.1 ≤ gt x.2 d.st.2 → ∀ k, gt d.seen k ≤ gt x.2 k
  pl : ∀ d ∈ rows, d.st.2 ∈ ps
  late : rows.Pairwise fun d e => gt d.seen e.st.2 < e.st.1
  self : ∀ d ∈ rows, gt d.seen d.st.2 < d.st.1
  same : rows.Pairwise fun e d => e.st.2 = d.st.2 → e.st.1 ≤ gt d.seen e.st.2
  caus : rows.Pairwise fun e d => e.st.1 ≤ gt d.seen e.st.2 → ∀ k, gt e.seen k ≤ gt d.seen k
/-- the ghost -/
def GH : List Nat := [103, 104, 111, 115, 116]
theorem gt_perm {c c' : Ck} (nd : (c.map (·.1)).Nodup) (h : c'.Perm c) (k : List Nat) : gt c' k = gt c k := by
  have nd' := (h.map (·.1)).nodup_iff.mpr nd
  unfold gt
  cases e : lookA c k with
  | some v => rw [mem_look nd' (h.mem_iff.mpr (look_mem e))]
  | none =>
    cases e' : lookA c' k with
    | none => rfl
    | some v =>
      have := mem_look nd (h.mem_iff.mp (look_mem e'))
      rw [e] at this; cases this
section
variable {S : Addr → Prop} {C0 C : Cp} {L L0 L' L1 L2 : List Ent} {p q r a rw pl ct wa : Addr} {s : PS} {Q : DQ} {B : Int} {ca : Ck} {ED : DEnds} {tb : List (DKey × D)} {rows : List Dd} {cs : List (Addr × Ck)} {ps ws : List (List Nat)} {m : Nat}
theorem at_app {X L : List Ent} {p : Addr} {c : Cell} (h : At L p c) : At (X ++ L) p c := by
  induction X with
  | nil => exact h
  | cons x r ih => exact .there ih
/-- the places' frame of a turn -/
abbrev Fr5 (p r rw pl ct : Addr) (s : PS) (rows : List Dd) (ps : List (List Nat)) (tb : List (DKey × D)) (L : List Ent) : List Ent := (p, s.c r, true) :: (r, s.l, true) :: (rw, .lst (rows.map ddD), true) :: (pl, .lst (ps.map D.str), true) :: (ct, .dk tb, true) :: L
theorem turn1 {x3 x5 x11 x14 x15 x9 x10 : Option D} {pc : List Nat} {b : Addr} (h : St S C0 C (Fr5 p r rw pl ct s rows ps tb ((a, .dk (ckD ca), true) :: (clE cs ++ L0)))) (aw : At L0 wa (.lst (ws.map D.str))) (w0 : ws ≠ []) (w1 : ws.length < 50) (hw : ∀ w ∈ ws, w ∈ WORDS) (hr : rows.length < 100) (hn : s.n < 2 ^ 16) (ga : Gd (B + 3) ca) (hB : 0 ≤ B) (hpc : pc ∈ KEYS)
    (k : ∀ (d : Dd) (s' : PS) x9 x10 x11 x15 C', d.st.2 = pc → (∀ k, gt ca k < d.st.1) → d.st.1 ≤ B + 3 + NB / 10 + 1 → d.w.tx → d.seen.Perm ca → (∀ o ∈ d.w.named ++ d.w.undone, o = root ∨ ∃ e ∈ rows, e.st = o ∧ e.st.1 ≤ gt ca e.st.2) → d.w.wd ∈ [109, 97, 107, 101] :: ws → s'.n ≤ s.n + 43 → St S C0 C' (Fr5 p r rw pl ct s' (rows ++ [d]) ps tb ((a, .dk (ckD (putA ca pc d.st.1)), true) :: (clE cs ++ L0))) → ED.nx [some (.ptr p), some (.int m), some (.ptr wa), x3, some (.ptr ct), x5, some (.ptr pl), some (.ptr rw), some (.str pc), x9, x10, x11, some (.ptr a), some (.ptr b), x14, x15] C') :
    r__law_row_1 ED [some (.ptr p), some (.int m), some (.ptr wa), x3, some (.ptr ct), x5, some (.ptr pl), some (.ptr rw), some (.str pc), x9, x10, x11, some (.ptr a), some (.ptr b), x14, x15] C := by
  unfold r__law_row_1
  try simp only [dFor_e_p, dRng1_p, dRng2_p, dOver_p, dOverT_p, dOverS_p, dAltI_p, dEnum_p, dZip_p, dLc_e_p, dWhile_e_p, Int.toNat_natCast, dSeq_p, dChain_p, dOrT_p, dAndT_p, dNotT_p, dGetI_eq_p, Bool.not_true, Bool.not_false, dAsg_p, dOp_p, dVar_p, dC_p, gNm_p, gTp_p, gCn_p, gNl_p, dRet_p, dIf_p, dTest_p, dTru_p, dNot_p, dAnd_p, dOr_p, dNext_p, dDrop_p, dCons_p, dNil_p, dTup_p, dLst_e_p, dEmp_e_p, dEmpG_e_p, dDisp_e_p, dListZip_e_p, dGhE_e, dGh_e, dOverK_e, dFld_e, dSetF_e, dMake_e, dMeth_e, dPar_p, dPar3_p, dSetI_p, dCall_p, dCB_p, dBM_p, dBM0_p, dIfE_p, dNeg_p, dSl_p, dPart_p, dNoP_p, dAug_p, addI_p, dBreak_p, dCont_p, dAlt_p, dYes_p, dPairs_n, dPairs_c, gSubD_p, dBMd_p, addD_ii_p, addD_ss_p, addD_tt_p, subD_ii_p, mulD_ii_p, modD_ii_p, fdivD_ii_p, powE_ii_p, Int.reduceToNat, Int.reducePow, Int.reduceNeg, Int.neg_neg, ltD_ii_p, leD_ii_p, gtD_ii_p, geD_ii_p, ltD_ss_p, leD_ss_p, eqR_ii, eqR_ss, eqR_tt_p, eqR_bb, intR_b, intR_i, dFmt_e, dJs_n, dJs_c, strK_s, dJoined_p, fmtR_s, fmtR_i, strR_s, strR_i, lenR_t, lenR_s, tupleR_t, isNR_p, abs_ii, max_ii, min_ii, truD_b_p, slD_t_p, slD_s_p, inR_t, List.map, List.length, List.replicate, List.cons_append, List.nil_append, List.append_nil, List.getElem?_cons_succ, List.getElem?_cons_zero, Option.some.injEq, exists_eq_left', exists_eq_left, ex2, ex3, exists_eq', List.set_cons_succ, List.set_cons_zero, Nat.reduceAdd, Nat.reduceSub, true_and, and_true, D.bl.injEq, D.int.injEq, D.str.injEq, D.ptr.injEq, D.tup.injEq, decide_eq_true_eq, beq_iff_eq, Bool.false_eq_true, if_true, if_false, reduceIte, wipeD, List.foldr_cons, List.foldr_nil, Nat.reduceLeDiff, List.cons.injEq, and_self, List.length_cons, List.length_nil]
  refine ⟨by decide +kernel, ?_⟩
  refine take h (by (repeat (first | exact KB.Del.here | assumption | apply KB.Del.there))) (by (repeat (first | exact KB.Del.here | assumption | apply KB.Del.there))) (by omega) (by decide) (by decide) fun t s1 C ht hs1 h => ?_
  try simp only [dFor_e_p, dRng1_p, dRng2_p, dOver_p, dOverT_p, dOverS_p, dAltI_p, dEnum_p, dZip_p, dLc_e_p, dWhile_e_p, Int.toNat_natCast, dSeq_p, dChain_p, dOrT_p, dAndT_p, dNotT_p, dGetI_eq_p, Bool.not_true, Bool.not_false, dAsg_p, dOp_p, dVar_p, dC_p, gNm_p, gTp_p, gCn_p, gNl_p, dRet_p, dIf_p, dTest_p, dTru_p, dNot_p, dAnd_p, dOr_p, dNext_p, dDrop_p, dCons_p, dNil_p, dTup_p, dLst_e_p, dEmp_e_p, dEmpG_e_p, dDisp_e_p, dListZip_e_p, dGhE_e, dGh_e, dOverK_e, dFld_e, dSetF_e, dMake_e, dMeth_e, dPar_p, dPar3_p, dSetI_p, dCall_p, dCB_p, dBM_p, dBM0_p, dIfE_p, dNeg_p, dSl_p, dPart_p, dNoP_p, dAug_p, addI_p, dBreak_p, dCont_p, dAlt_p, dYes_p, dPairs_n, dPairs_c, gSubD_p, dBMd_p, addD_ii_p, addD_ss_p, addD_tt_p, subD_ii_p, mulD_ii_p, modD_ii_p, fdivD_ii_p, powE_ii_p, Int.reduceToNat, Int.reducePow, Int.reduceNeg, Int.neg_neg, ltD_ii_p, leD_ii_p, gtD_ii_p, geD_ii_p, ltD_ss_p, leD_ss_p, eqR_ii, eqR_ss, eqR_tt_p, eqR_bb, intR_b, intR_i, dFmt_e, dJs_n, dJs_c, strK_s, dJoined_p, fmtR_s, fmtR_i, strR_s, strR_i, lenR_t, lenR_s, tupleR_t, isNR_p, abs_ii, max_ii, min_ii, truD_b_p, slD_t_p, slD_s_p, inR_t, List.map, List.length, List.replicate, List.cons_append, List.nil_append, List.append_nil, List.getElem?_cons_succ, List.getElem?_cons_zero, Option.some.injEq, exists_eq_left', exists_eq_left, ex2, ex3, exists_eq', List.set_cons_succ, List.set_cons_zero, Nat.reduceAdd, Nat.reduceSub, true_and, and_true, D.bl.injEq, D.int.injEq, D.str.injEq, D.ptr.injEq, D.tup.injEq, decide_eq_true_eq, beq_iff_eq, Bool.false_eq_true, if_true, if_false, reduceIte, wipeD, List.foldr_cons, List.foldr_nil, Nat.reduceLeDiff, List.cons.injEq, and_self, List.length_cons, List.length_nil]
  refine ⟨by decide +kernel, ?_⟩
  refine alloc_st h fun z C h => ?_
  refine of_m (zs := [(0 : Int), 0, 0, 0, 1, 7, 90, t, 10000000000000000000000000000]) (f := D.int) h (by (repeat (first | exact KB.Del.here | assumption | apply KB.Del.there))) (by (repeat (first | exact KB.Del.here | assumption | apply KB.Del.there))) (by (repeat (first | exact KB.At.here | assumption | apply KB.At.there))) (by omega) (by simp) (by simp) fun g s2 C hg hs2 h => ?_
  have hg : 0 ≤ g ∧ g ≤ NB / 10 := by
    simp only [List.mem_cons, List.mem_nil_iff, or_false] at hg
    have : NB / 10 = 10000000000000000000000000000 := by decide
    omega
  have h := pr3 h
  try simp only [dFor_e_p, dRng1_p, dRng2_p, dOver_p, dOverT_p, dOverS_p, dAltI_p, dEnum_p, dZip_p, dLc_e_p, dWhile_e_p, Int.toNat_natCast, dSeq_p, dChain_p, dOrT_p, dAndT_p, dNotT_p, dGetI_eq_p, Bool.not_true, Bool.not_false, dAsg_p, dOp_p, dVar_p, dC_p, gNm_p, gTp_p, gCn_p, gNl_p, dRet_p, dIf_p, dTest_p, dTru_p, dNot_p, dAnd_p, dOr_p, dNext_p, dDrop_p, dCons_p, dNil_p, dTup_p, dLst_e_p, dEmp_e_p, dEmpG_e_p, dDisp_e_p, dListZip_e_p, dGhE_e, dGh_e, dOverK_e, dFld_e, dSetF_e, dMake_e, dMeth_e, dPar_p, dPar3_p, dSetI_p, dCall_p, dCB_p, dBM_p, dBM0_p, dIfE_p, dNeg_p, dSl_p, dPart_p, dNoP_p, dAug_p, addI_p, dBreak_p, dCont_p, dAlt_p, dYes_p, dPairs_n, dPairs_c, gSubD_p, dBMd_p, addD_ii_p, addD_ss_p, addD_tt_p, subD_ii_p, mulD_ii_p, modD_ii_p, fdivD_ii_p, powE_ii_p, Int.reduceToNat, Int.reducePow, Int.reduceNeg, Int.neg_neg, ltD_ii_p, leD_ii_p, gtD_ii_p, geD_ii_p, ltD_ss_p, leD_ss_p, eqR_ii, eqR_ss, eqR_tt_p, eqR_bb, intR_b, intR_i, dFmt_e, dJs_n, dJs_c, strK_s, dJoined_p, fmtR_s, fmtR_i, strR_s, strR_i, lenR_t, lenR_s, tupleR_t, isNR_p, abs_ii, max_ii, min_ii, truD_b_p, slD_t_p, slD_s_p, inR_t, List.map, List.length, List.replicate, List.cons_append, List.nil_append, List.append_nil, List.getElem?_cons_succ, List.getElem?_cons_zero, Option.some.injEq, exists_eq_left', exists_eq_left, ex2, ex3, exists_eq', List.set_cons_succ, List.set_cons_zero, Nat.reduceAdd, Nat.reduceSub, true_and, and_true, D.bl.injEq, D.int.injEq, D.str.injEq, D.ptr.injEq, D.tup.injEq, decide_eq_true_eq, beq_iff_eq, Bool.false_eq_true, if_true, if_false, reduceIte, wipeD, List.foldr_cons, List.foldr_nil, Nat.reduceLeDiff, List.cons.injEq, and_self, List.length_cons, List.length_nil]
  rw [dListValues_e]
  try simp only [dFor_e_p, dRng1_p, dRng2_p, dOver_p, dOverT_p, dOverS_p, dAltI_p, dEnum_p, dZip_p, dLc_e_p, dWhile_e_p, Int.toNat_natCast, dSeq_p, dChain_p, dOrT_p, dAndT_p, dNotT_p, dGetI_eq_p, Bool.not_true, Bool.not_false, dAsg_p, dOp_p, dVar_p, dC_p, gNm_p, gTp_p, gCn_p, gNl_p, dRet_p, dIf_p, dTest_p, dTru_p, dNot_p, dAnd_p, dOr_p, dNext_p, dDrop_p, dCons_p, dNil_p, dTup_p, dLst_e_p, dEmp_e_p, dEmpG_e_p, dDisp_e_p, dListZip_e_p, dGhE_e, dGh_e, dOverK_e, dFld_e, dSetF_e, dMake_e, dMeth_e, dPar_p, dPar3_p, dSetI_p, dCall_p, dCB_p, dBM_p, dBM0_p, dIfE_p, dNeg_p, dSl_p, dPart_p, dNoP_p, dAug_p, addI_p, dBreak_p, dCont_p, dAlt_p, dYes_p, dPairs_n, dPairs_c, gSubD_p, dBMd_p, addD_ii_p, addD_ss_p, addD_tt_p, subD_ii_p, mulD_ii_p, modD_ii_p, fdivD_ii_p, powE_ii_p, Int.reduceToNat, Int.reducePow, Int.reduceNeg, Int.neg_neg, ltD_ii_p, leD_ii_p, gtD_ii_p, geD_ii_p, ltD_ss_p, leD_ss_p, eqR_ii, eqR_ss, eqR_tt_p, eqR_bb, intR_b, intR_i, dFmt_e, dJs_n, dJs_c, strK_s, dJoined_p, fmtR_s, fmtR_i, strR_s, strR_i, lenR_t, lenR_s, tupleR_t, isNR_p, abs_ii, max_ii, min_ii, truD_b_p, slD_t_p, slD_s_p, inR_t, List.map, List.length, List.replicate, List.cons_append, List.nil_append, List.append_nil, List.getElem?_cons_succ, List.getElem?_cons_zero, Option.some.injEq, exists_eq_left', exists_eq_left, ex2, ex3, exists_eq', List.set_cons_succ, List.set_cons_zero, Nat.reduceAdd, Nat.reduceSub, true_and, and_true, D.bl.injEq, D.int.injEq, D.str.injEq, D.ptr.injEq, D.tup.injEq, decide_eq_true_eq, beq_iff_eq, Bool.false_eq_true, if_true, if_false, reduceIte, wipeD, List.foldr_cons, List.foldr_nil, Nat.reduceLeDiff, List.cons.injEq, and_self, List.length_cons, List.length_nil]
  refine ⟨a, ckD ca, rfl, h.get (by (repeat (first | exact KB.At.here | assumption | apply KB.At.there))), ?_⟩
  rw [vals_ck]
  refine alloc_st h fun v C h => ?_
  refine alloc_st h fun v2 C h => ?_
  have gl := ga.len
  refine add_st (xs := (vls ca).map D.int) (ys := [D.int 0]) h (by (repeat (first | exact KB.At.here | assumption | apply KB.At.there))) (by (repeat (first | exact KB.At.here | assumption | apply KB.At.there))) (by rw [sizeLine_eq]; simp only [vls, List.length_map, List.length_singleton]; omega) fun v3 C h => ?_
  rw [show (vls ca).map D.int ++ [D.int 0] = (vls ca ++ [0]).map D.int by simp] at h
  refine ⟨v3, vls ca ++ [0], rfl, .inl (h.get .here), by simp, fun M hM hmax => ?_⟩
  have hM0 : 0 ≤ M := hmax 0 (by simp)
  have hMg : ∀ k, gt ca k ≤ M := fun k => by
    unfold gt
    cases e : lookA ca k with
    | none => exact hM0
    | some v => exact hmax v (List.mem_append_left _ (List.mem_map.mpr ⟨_, look_mem e, rfl⟩))
  have hM1 : M ≤ B + 3 := by
    rcases List.mem_append.mp hM with e | e
    · obtain ⟨x, hx, rfl⟩ := List.mem_map.mp e
      exact (ga.ok x hx).2.2
    · rw [List.mem_singleton.mp e]; omega
  have h := h.tail.tail.tail
  clear hM hmax
  try simp only [dFor_e_p, dRng1_p, dRng2_p, dOver_p, dOverT_p, dOverS_p, dAltI_p, dEnum_p, dZip_p, dLc_e_p, dWhile_e_p, Int.toNat_natCast, dSeq_p, dChain_p, dOrT_p, dAndT_p, dNotT_p, dGetI_eq_p, Bool.not_true, Bool.not_false, dAsg_p, dOp_p, dVar_p, dC_p, gNm_p, gTp_p, gCn_p, gNl_p, dRet_p, dIf_p, dTest_p, dTru_p, dNot_p, dAnd_p, dOr_p, dNext_p, dDrop_p, dCons_p, dNil_p, dTup_p, dLst_e_p, dEmp_e_p, dEmpG_e_p, dDisp_e_p, dListZip_e_p, dGhE_e, dGh_e, dOverK_e, dFld_e, dSetF_e, dMake_e, dMeth_e, dPar_p, dPar3_p, dSetI_p, dCall_p, dCB_p, dBM_p, dBM0_p, dIfE_p, dNeg_p, dSl_p, dPart_p, dNoP_p, dAug_p, addI_p, dBreak_p, dCont_p, dAlt_p, dYes_p, dPairs_n, dPairs_c, gSubD_p, dBMd_p, addD_ii_p, addD_ss_p, addD_tt_p, subD_ii_p, mulD_ii_p, modD_ii_p, fdivD_ii_p, powE_ii_p, Int.reduceToNat, Int.reducePow, Int.reduceNeg, Int.neg_neg, ltD_ii_p, leD_ii_p, gtD_ii_p, geD_ii_p, ltD_ss_p, leD_ss_p, eqR_ii, eqR_ss, eqR_tt_p, eqR_bb, intR_b, intR_i, dFmt_e, dJs_n, dJs_c, strK_s, dJoined_p, fmtR_s, fmtR_i, strR_s, strR_i, lenR_t, lenR_s, tupleR_t, isNR_p, abs_ii, max_ii, min_ii, truD_b_p, slD_t_p, slD_s_p, inR_t, List.map, List.length, List.replicate, List.cons_append, List.nil_append, List.append_nil, List.getElem?_cons_succ, List.getElem?_cons_zero, Option.some.injEq, exists_eq_left', exists_eq_left, ex2, ex3, exists_eq', List.set_cons_succ, List.set_cons_zero, Nat.reduceAdd, Nat.reduceSub, true_and, and_true, D.bl.injEq, D.int.injEq, D.str.injEq, D.ptr.injEq, D.tup.injEq, decide_eq_true_eq, beq_iff_eq, Bool.false_eq_true, if_true, if_false, reduceIte, wipeD, List.foldr_cons, List.foldr_nil, Nat.reduceLeDiff, List.cons.injEq, and_self, List.length_cons, List.length_nil]
  refine ⟨rows.map ddD, .inl (h.get (by (repeat (first | exact KB.At.here | assumption | apply KB.At.there)))), ?_⟩
  refine lc_pick rows (fun d => decide (gt ca d.st.2 ≥ d.st.1)) ddD ddD rfl h (fun _ h => .inl (h.get (by (repeat (first | exact KB.At.here | assumption | apply KB.At.there))))) (fun d C' hd h Qt Q' k1 k2 => ?_) (by rw [sizeLine_eq]; omega) fun kn C h => ?_
  · rw [show ddD d = .tup [.tup [.int d.st.1, .str d.st.2], .tup (d.seen.map seD), .str d.w.wd, d.w.x, d.w.y] from rfl] at k1 ⊢
    try simp only [dFor_e_p, dRng1_p, dRng2_p, dOver_p, dOverT_p, dOverS_p, dAltI_p, dEnum_p, dZip_p, dLc_e_p, dWhile_e_p, Int.toNat_natCast, dSeq_p, dChain_p, dOrT_p, dAndT_p, dNotT_p, dGetI_eq_p, Bool.not_true, Bool.not_false, dAsg_p, dOp_p, dVar_p, dC_p, gNm_p, gTp_p, gCn_p, gNl_p, dRet_p, dIf_p, dTest_p, dTru_p, dNot_p, dAnd_p, dOr_p, dNext_p, dDrop_p, dCons_p, dNil_p, dTup_p, dLst_e_p, dEmp_e_p, dEmpG_e_p, dDisp_e_p, dListZip_e_p, dGhE_e, dGh_e, dOverK_e, dFld_e, dSetF_e, dMake_e, dMeth_e, dPar_p, dPar3_p, dSetI_p, dCall_p, dCB_p, dBM_p, dBM0_p, dIfE_p, dNeg_p, dSl_p, dPart_p, dNoP_p, dAug_p, addI_p, dBreak_p, dCont_p, dAlt_p, dYes_p, dPairs_n, dPairs_c, gSubD_p, dBMd_p, addD_ii_p, addD_ss_p, addD_tt_p, subD_ii_p, mulD_ii_p, modD_ii_p, fdivD_ii_p, powE_ii_p, Int.reduceToNat, Int.reducePow, Int.reduceNeg, Int.neg_neg, ltD_ii_p, leD_ii_p, gtD_ii_p, geD_ii_p, ltD_ss_p, leD_ss_p, eqR_ii, eqR_ss, eqR_tt_p, eqR_bb, intR_b, intR_i, dFmt_e, dJs_n, dJs_c, strK_s, dJoined_p, fmtR_s, fmtR_i, strR_s, strR_i, lenR_t, lenR_s, tupleR_t, isNR_p, abs_ii, max_ii, min_ii, truD_b_p, slD_t_p, slD_s_p, inR_t, List.map, List.length, List.replicate, List.cons_append, List.nil_append, List.append_nil, List.getElem?_cons_succ, List.getElem?_cons_zero, Option.some.injEq, exists_eq_left', exists_eq_left, ex2, ex3, exists_eq', List.set_cons_succ, List.set_cons_zero, Nat.reduceAdd, Nat.reduceSub, true_and, and_true, D.bl.injEq, D.int.injEq, D.str.injEq, D.ptr.injEq, D.tup.injEq, decide_eq_true_eq, beq_iff_eq, Bool.false_eq_true, if_true, if_false, reduceIte, wipeD, List.foldr_cons, List.foldr_nil, Nat.reduceLeDiff, List.cons.injEq, and_self, List.length_cons, List.length_nil]
    refine ⟨.inl ⟨_, h.get (by (repeat (first | exact KB.At.here | assumption | apply KB.At.there)))⟩, ix_t rfl (ix_t rfl (getC h (by (repeat (first | exact KB.At.here | assumption | apply KB.At.there))) (ix_t rfl (ix_t rfl ?_))))⟩
    try simp only [dFor_e_p, dRng1_p, dRng2_p, dOver_p, dOverT_p, dOverS_p, dAltI_p, dEnum_p, dZip_p, dLc_e_p, dWhile_e_p, Int.toNat_natCast, dSeq_p, dChain_p, dOrT_p, dAndT_p, dNotT_p, dGetI_eq_p, Bool.not_true, Bool.not_false, dAsg_p, dOp_p, dVar_p, dC_p, gNm_p, gTp_p, gCn_p, gNl_p, dRet_p, dIf_p, dTest_p, dTru_p, dNot_p, dAnd_p, dOr_p, dNext_p, dDrop_p, dCons_p, dNil_p, dTup_p, dLst_e_p, dEmp_e_p, dEmpG_e_p, dDisp_e_p, dListZip_e_p, dGhE_e, dGh_e, dOverK_e, dFld_e, dSetF_e, dMake_e, dMeth_e, dPar_p, dPar3_p, dSetI_p, dCall_p, dCB_p, dBM_p, dBM0_p, dIfE_p, dNeg_p, dSl_p, dPart_p, dNoP_p, dAug_p, addI_p, dBreak_p, dCont_p, dAlt_p, dYes_p, dPairs_n, dPairs_c, gSubD_p, dBMd_p, addD_ii_p, addD_ss_p, addD_tt_p, subD_ii_p, mulD_ii_p, modD_ii_p, fdivD_ii_p, powE_ii_p, Int.reduceToNat, Int.reducePow, Int.reduceNeg, Int.neg_neg, ltD_ii_p, leD_ii_p, gtD_ii_p, geD_ii_p, ltD_ss_p, leD_ss_p, eqR_ii, eqR_ss, eqR_tt_p, eqR_bb, intR_b, intR_i, dFmt_e, dJs_n, dJs_c, strK_s, dJoined_p, fmtR_s, fmtR_i, strR_s, strR_i, lenR_t, lenR_s, tupleR_t, isNR_p, abs_ii, max_ii, min_ii, truD_b_p, slD_t_p, slD_s_p, inR_t, List.map, List.length, List.replicate, List.cons_append, List.nil_append, List.append_nil, List.getElem?_cons_succ, List.getElem?_cons_zero, Option.some.injEq, exists_eq_left', exists_eq_left, ex2, ex3, exists_eq', List.set_cons_succ, List.set_cons_zero, Nat.reduceAdd, Nat.reduceSub, true_and, and_true, D.bl.injEq, D.int.injEq, D.str.injEq, D.ptr.injEq, D.tup.injEq, decide_eq_true_eq, beq_iff_eq, Bool.false_eq_true, if_true, if_false, reduceIte, wipeD, List.foldr_cons, List.foldr_nil, Nat.reduceLeDiff, List.cons.injEq, and_self, List.length_cons, List.length_nil]
    split
    · rename_i e
      exact k1 (by simpa using e) _ h
    · rename_i e
      exact k2 (by simpa using e) _ _ h
  generalize hks : (rows.filter fun d => decide (gt ca d.st.2 ≥ d.st.1)) = ks at h
  have hk : ∀ e ∈ ks, e ∈ rows ∧ e.st.1 ≤ gt ca e.st.2 := fun d hd => by
    rw [← hks] at hd
    have := List.mem_filter.mp hd
    exact ⟨this.1, by simpa using this.2⟩
  have hkl : ks.length ≤ rows.length := by rw [← hks]; exact List.length_filter_le _ _
  try simp only [dFor_e_p, dRng1_p, dRng2_p, dOver_p, dOverT_p, dOverS_p, dAltI_p, dEnum_p, dZip_p, dLc_e_p, dWhile_e_p, Int.toNat_natCast, dSeq_p, dChain_p, dOrT_p, dAndT_p, dNotT_p, dGetI_eq_p, Bool.not_true, Bool.not_false, dAsg_p, dOp_p, dVar_p, dC_p, gNm_p, gTp_p, gCn_p, gNl_p, dRet_p, dIf_p, dTest_p, dTru_p, dNot_p, dAnd_p, dOr_p, dNext_p, dDrop_p, dCons_p, dNil_p, dTup_p, dLst_e_p, dEmp_e_p, dEmpG_e_p, dDisp_e_p, dListZip_e_p, dGhE_e, dGh_e, dOverK_e, dFld_e, dSetF_e, dMake_e, dMeth_e, dPar_p, dPar3_p, dSetI_p, dCall_p, dCB_p, dBM_p, dBM0_p, dIfE_p, dNeg_p, dSl_p, dPart_p, dNoP_p, dAug_p, addI_p, dBreak_p, dCont_p, dAlt_p, dYes_p, dPairs_n, dPairs_c, gSubD_p, dBMd_p, addD_ii_p, addD_ss_p, addD_tt_p, subD_ii_p, mulD_ii_p, modD_ii_p, fdivD_ii_p, powE_ii_p, Int.reduceToNat, Int.reducePow, Int.reduceNeg, Int.neg_neg, ltD_ii_p, leD_ii_p, gtD_ii_p, geD_ii_p, ltD_ss_p, leD_ss_p, eqR_ii, eqR_ss, eqR_tt_p, eqR_bb, intR_b, intR_i, dFmt_e, dJs_n, dJs_c, strK_s, dJoined_p, fmtR_s, fmtR_i, strR_s, strR_i, lenR_t, lenR_s, tupleR_t, isNR_p, abs_ii, max_ii, min_ii, truD_b_p, slD_t_p, slD_s_p, inR_t, List.map, List.length, List.replicate, List.cons_append, List.nil_append, List.append_nil, List.getElem?_cons_succ, List.getElem?_cons_zero, Option.some.injEq, exists_eq_left', exists_eq_left, ex2, ex3, exists_eq', List.set_cons_succ, List.set_cons_zero, Nat.reduceAdd, Nat.reduceSub, true_and, and_true, D.bl.injEq, D.int.injEq, D.str.injEq, D.ptr.injEq, D.tup.injEq, decide_eq_true_eq, beq_iff_eq, Bool.false_eq_true, if_true, if_false, reduceIte, wipeD, List.foldr_cons, List.foldr_nil, Nat.reduceLeDiff, List.cons.injEq, and_self, List.length_cons, List.length_nil]
  refine ⟨ty_st h (by (repeat (first | exact KB.At.here | assumption | apply KB.At.there))), ?_⟩
  rw [dListItems_e]
  try simp only [dFor_e_p, dRng1_p, dRng2_p, dOver_p, dOverT_p, dOverS_p, dAltI_p, dEnum_p, dZip_p, dLc_e_p, dWhile_e_p, Int.toNat_natCast, dSeq_p, dChain_p, dOrT_p, dAndT_p, dNotT_p, dGetI_eq_p, Bool.not_true, Bool.not_false, dAsg_p, dOp_p, dVar_p, dC_p, gNm_p, gTp_p, gCn_p, gNl_p, dRet_p, dIf_p, dTest_p, dTru_p, dNot_p, dAnd_p, dOr_p, dNext_p, dDrop_p, dCons_p, dNil_p, dTup_p, dLst_e_p, dEmp_e_p, dEmpG_e_p, dDisp_e_p, dListZip_e_p, dGhE_e, dGh_e, dOverK_e, dFld_e, dSetF_e, dMake_e, dMeth_e, dPar_p, dPar3_p, dSetI_p, dCall_p, dCB_p, dBM_p, dBM0_p, dIfE_p, dNeg_p, dSl_p, dPart_p, dNoP_p, dAug_p, addI_p, dBreak_p, dCont_p, dAlt_p, dYes_p, dPairs_n, dPairs_c, gSubD_p, dBMd_p, addD_ii_p, addD_ss_p, addD_tt_p, subD_ii_p, mulD_ii_p, modD_ii_p, fdivD_ii_p, powE_ii_p, Int.reduceToNat, Int.reducePow, Int.reduceNeg, Int.neg_neg, ltD_ii_p, leD_ii_p, gtD_ii_p, geD_ii_p, ltD_ss_p, leD_ss_p, eqR_ii, eqR_ss, eqR_tt_p, eqR_bb, intR_b, intR_i, dFmt_e, dJs_n, dJs_c, strK_s, dJoined_p, fmtR_s, fmtR_i, strR_s, strR_i, lenR_t, lenR_s, tupleR_t, isNR_p, abs_ii, max_ii, min_ii, truD_b_p, slD_t_p, slD_s_p, inR_t, List.map, List.length, List.replicate, List.cons_append, List.nil_append, List.append_nil, List.getElem?_cons_succ, List.getElem?_cons_zero, Option.some.injEq, exists_eq_left', exists_eq_left, ex2, ex3, exists_eq', List.set_cons_succ, List.set_cons_zero, Nat.reduceAdd, Nat.reduceSub, true_and, and_true, D.bl.injEq, D.int.injEq, D.str.injEq, D.ptr.injEq, D.tup.injEq, decide_eq_true_eq, beq_iff_eq, Bool.false_eq_true, if_true, if_false, reduceIte, wipeD, List.foldr_cons, List.foldr_nil, Nat.reduceLeDiff, List.cons.injEq, and_self, List.length_cons, List.length_nil]
  refine ⟨a, ckD ca, rfl, h.get (by (repeat (first | exact KB.At.here | assumption | apply KB.At.there))), ?_⟩
  rw [items_ck]
  refine alloc_st h fun v C h => ?_
  refine sortedM_st h (by (repeat (first | exact KB.At.here | assumption | apply KB.At.there))) (sortOk_se ca) fun sn v2 C hp h => ?_
  refine tup_st h (by (repeat (first | exact KB.At.here | assumption | apply KB.At.there))) ?_
  have h := h.tail.tail
  have h := h.perm (List.Perm.trans (List.Perm.swap _ _ _) (List.Perm.cons _ (List.Perm.swap _ _ _)))
  refine doing (L2 := (kn, .lst (ks.map ddD), true) :: (rw, .lst (rows.map ddD), true) :: (pl, .lst (ps.map D.str), true) :: (ct, .dk tb, true) :: (a, .dk (ckD ca), true) :: (clE cs ++ L0)) h (by (repeat (first | exact KB.Del.here | assumption | apply KB.Del.there))) (by (repeat (first | exact KB.Del.here | assumption | apply KB.Del.there))) .here (.there (.there (.there (.there (.there (at_app aw)))))) w0 w1 hw (by omega) (by omega) fun w s3 C wt wn ww hs3 h => ?_
  have h := pr3 h
  try simp only [dFor_e_p, dRng1_p, dRng2_p, dOver_p, dOverT_p, dOverS_p, dAltI_p, dEnum_p, dZip_p, dLc_e_p, dWhile_e_p, Int.toNat_natCast, dSeq_p, dChain_p, dOrT_p, dAndT_p, dNotT_p, dGetI_eq_p, Bool.not_true, Bool.not_false, dAsg_p, dOp_p, dVar_p, dC_p, gNm_p, gTp_p, gCn_p, gNl_p, dRet_p, dIf_p, dTest_p, dTru_p, dNot_p, dAnd_p, dOr_p, dNext_p, dDrop_p, dCons_p, dNil_p, dTup_p, dLst_e_p, dEmp_e_p, dEmpG_e_p, dDisp_e_p, dListZip_e_p, dGhE_e, dGh_e, dOverK_e, dFld_e, dSetF_e, dMake_e, dMeth_e, dPar_p, dPar3_p, dSetI_p, dCall_p, dCB_p, dBM_p, dBM0_p, dIfE_p, dNeg_p, dSl_p, dPart_p, dNoP_p, dAug_p, addI_p, dBreak_p, dCont_p, dAlt_p, dYes_p, dPairs_n, dPairs_c, gSubD_p, dBMd_p, addD_ii_p, addD_ss_p, addD_tt_p, subD_ii_p, mulD_ii_p, modD_ii_p, fdivD_ii_p, powE_ii_p, Int.reduceToNat, Int.reducePow, Int.reduceNeg, Int.neg_neg, ltD_ii_p, leD_ii_p, gtD_ii_p, geD_ii_p, ltD_ss_p, leD_ss_p, eqR_ii, eqR_ss, eqR_tt_p, eqR_bb, intR_b, intR_i, dFmt_e, dJs_n, dJs_c, strK_s, dJoined_p, fmtR_s, fmtR_i, strR_s, strR_i, lenR_t, lenR_s, tupleR_t, isNR_p, abs_ii, max_ii, min_ii, truD_b_p, slD_t_p, slD_s_p, inR_t, List.map, List.length, List.replicate, List.cons_append, List.nil_append, List.append_nil, List.getElem?_cons_succ, List.getElem?_cons_zero, Option.some.injEq, exists_eq_left', exists_eq_left, ex2, ex3, exists_eq', List.set_cons_succ, List.set_cons_zero, Nat.reduceAdd, Nat.reduceSub, true_and, and_true, D.bl.injEq, D.int.injEq, D.str.injEq, D.ptr.injEq, D.tup.injEq, decide_eq_true_eq, beq_iff_eq, Bool.false_eq_true, if_true, if_false, reduceIte, wipeD, List.foldr_cons, List.foldr_nil, Nat.reduceLeDiff, List.cons.injEq, and_self, List.length_cons, List.length_nil]
  refine ⟨by rw [sizeLine_eq]; decide, app_st (xs := rows.map ddD) h (by rw [List.length_map, sizeLine_eq]; omega) (by (repeat (first | exact KB.Upd.here | assumption | apply KB.Upd.there))) fun C h => ?_⟩
  rw [show rows.map ddD ++ [D.tup [.tup [.int (1 + g + M), .str pc], .tup (sn.map seD), .str w.wd, w.x, w.y]] = (rows ++ [(⟨(1 + g + M, pc), sn, w⟩ : Dd)]).map ddD by rw [List.map_append]; rfl] at h
  refine putC (c := ca) h (by omega) (.there (.there (.there (.there (.there .here))))) fun C h => ?_
  refine k ⟨(1 + g + M, pc), sn, w⟩ s3 _ _ _ _ C rfl (fun k => ?_) ?_ wt hp (fun o ho => ?_) ww (by omega) h
  · have := hMg k
    show gt ca k < 1 + g + M
    omega
  · show 1 + g + M ≤ _
    omega
  · rcases List.mem_append.mp ho with ho | ho
    · refine (wn.1 o ho).imp id fun ⟨e, he, ee⟩ => ⟨e, (hk e he).1, ee, (hk e he).2⟩
    · obtain ⟨e, he, ee⟩ := wn.2 o ho
      exact .inr ⟨e, (hk e he).1, ee, (hk e he).2⟩
end
end K15

namespace K15
open PySem PySem.Spec PyProof.Rows KB
open L2 hiding op_eqD op_neD call_listD
section
variable {S : Addr → Prop} {C0 C : Cp} {L L0 L' L1 L2 : List Ent} {p q r a rw pl ct wa : Addr} {s : PS} {Q : DQ} {B : Int} {ca : Ck} {ED : DEnds} {tb : List (DKey × D)} {rows : List Dd} {cs : List (Addr × Ck)} {ps ws : List (List Nat)} {m : Nat}
theorem turn2 {x3 x5 x11 x14 x15 x9 x10 : Option D} {pc : List Nat} {b : Addr} (h : St S C0 C (Fr5 p r rw pl ct s rows ps tb ((a, .dk (ckD ca), true) :: (clE cs ++ L0)))) (aw : At L0 wa (.lst (ws.map D.str))) (w0 : ws ≠ []) (w1 : ws.length < 50) (hw : ∀ w ∈ ws, w ∈ WORDS) (hr : rows.length < 100) (hn : s.n < 2 ^ 15) (ga : Gd B ca) (hB : 0 ≤ B) (hpc : pc ∈ KEYS)
    (k : ∀ (d : Dd) (c2 : Ck) (s' : PS) x9 x10 x11 x15 C', Le ca c2 → (∀ k, k ≠ GH → gt c2 k = gt ca k) → Gd (B + 3) c2 → d.st.2 = pc → (∀ k, gt c2 k < d.st.1) → d.st.1 ≤ B + 3 + NB / 10 + 1 → d.w.tx → d.seen.Perm c2 → (∀ o ∈ d.w.named ++ d.w.undone, o = root ∨ ∃ e ∈ rows, e.st = o ∧ e.st.1 ≤ gt c2 e.st.2) → d.w.wd ∈ [109, 97, 107, 101] :: ws → s'.n ≤ s.n + 45 → St S C0 C' (Fr5 p r rw pl ct s' (rows ++ [d]) ps tb ((a, .dk (ckD (putA c2 pc d.st.1)), true) :: (clE cs ++ L0))) → ED.nx [some (.ptr p), some (.int m), some (.ptr wa), x3, some (.ptr ct), x5, some (.ptr pl), some (.ptr rw), some (.str pc), x9, x10, x11, some (.ptr a), some (.ptr b), x14, x15] C') :
    r__law_row_2 ED [some (.ptr p), some (.int m), some (.ptr wa), x3, some (.ptr ct), x5, some (.ptr pl), some (.ptr rw), some (.str pc), x9, x10, x11, some (.ptr a), some (.ptr b), x14, x15] C := by
  unfold r__law_row_2
  try simp only [dFor_e_p, dRng1_p, dRng2_p, dOver_p, dOverT_p, dOverS_p, dAltI_p, dEnum_p, dZip_p, dLc_e_p, dWhile_e_p, Int.toNat_natCast, dSeq_p, dChain_p, dOrT_p, dAndT_p, dNotT_p, dGetI_eq_p, Bool.not_true, Bool.not_false, dAsg_p, dOp_p, dVar_p, dC_p, gNm_p, gTp_p, gCn_p, gNl_p, dRet_p, dIf_p, dTest_p, dTru_p, dNot_p, dAnd_p, dOr_p, dNext_p, dDrop_p, dCons_p, dNil_p, dTup_p, dLst_e_p, dEmp_e_p, dEmpG_e_p, dDisp_e_p, dListZip_e_p, dGhE_e, dGh_e, dOverK_e, dFld_e, dSetF_e, dMake_e, dMeth_e, dPar_p, dPar3_p, dSetI_p, dCall_p, dCB_p, dBM_p, dBM0_p, dIfE_p, dNeg_p, dSl_p, dPart_p, dNoP_p, dAug_p, addI_p, dBreak_p, dCont_p, dAlt_p, dYes_p, dPairs_n, dPairs_c, gSubD_p, dBMd_p, addD_ii_p, addD_ss_p, addD_tt_p, subD_ii_p, mulD_ii_p, modD_ii_p, fdivD_ii_p, powE_ii_p, Int.reduceToNat, Int.reducePow, Int.reduceNeg, Int.neg_neg, ltD_ii_p, leD_ii_p, gtD_ii_p, geD_ii_p, ltD_ss_p, leD_ss_p, eqR_ii, eqR_ss, eqR_tt_p, eqR_bb, intR_b, intR_i, dFmt_e, dJs_n, dJs_c, strK_s, dJoined_p, fmtR_s, fmtR_i, strR_s, strR_i, lenR_t, lenR_s, tupleR_t, isNR_p, abs_ii, max_ii, min_ii, truD_b_p, slD_t_p, slD_s_p, inR_t, List.map, List.length, List.replicate, List.cons_append, List.nil_append, List.append_nil, List.getElem?_cons_succ, List.getElem?_cons_zero, Option.some.injEq, exists_eq_left', exists_eq_left, ex2, ex3, exists_eq', List.set_cons_succ, List.set_cons_zero, Nat.reduceAdd, Nat.reduceSub, true_and, and_true, D.bl.injEq, D.int.injEq, D.str.injEq, D.ptr.injEq, D.tup.injEq, decide_eq_true_eq, beq_iff_eq, Bool.false_eq_true, if_true, if_false, reduceIte, wipeD, List.foldr_cons, List.foldr_nil, Nat.reduceLeDiff, List.cons.injEq, and_self, List.length_cons, List.length_nil]
  refine take h (by (repeat (first | exact KB.Del.here | assumption | apply KB.Del.there))) (by (repeat (first | exact KB.Del.here | assumption | apply KB.Del.there))) (by omega) (by decide) (by decide) fun t s1 C ht hs1 h => ?_
  try simp only [dFor_e_p, dRng1_p, dRng2_p, dOver_p, dOverT_p, dOverS_p, dAltI_p, dEnum_p, dZip_p, dLc_e_p, dWhile_e_p, Int.toNat_natCast, dSeq_p, dChain_p, dOrT_p, dAndT_p, dNotT_p, dGetI_eq_p, Bool.not_true, Bool.not_false, dAsg_p, dOp_p, dVar_p, dC_p, gNm_p, gTp_p, gCn_p, gNl_p, dRet_p, dIf_p, dTest_p, dTru_p, dNot_p, dAnd_p, dOr_p, dNext_p, dDrop_p, dCons_p, dNil_p, dTup_p, dLst_e_p, dEmp_e_p, dEmpG_e_p, dDisp_e_p, dListZip_e_p, dGhE_e, dGh_e, dOverK_e, dFld_e, dSetF_e, dMake_e, dMeth_e, dPar_p, dPar3_p, dSetI_p, dCall_p, dCB_p, dBM_p, dBM0_p, dIfE_p, dNeg_p, dSl_p, dPart_p, dNoP_p, dAug_p, addI_p, dBreak_p, dCont_p, dAlt_p, dYes_p, dPairs_n, dPairs_c, gSubD_p, dBMd_p, addD_ii_p, addD_ss_p, addD_tt_p, subD_ii_p, mulD_ii_p, modD_ii_p, fdivD_ii_p, powE_ii_p, Int.reduceToNat, Int.reducePow, Int.reduceNeg, Int.neg_neg, ltD_ii_p, leD_ii_p, gtD_ii_p, geD_ii_p, ltD_ss_p, leD_ss_p, eqR_ii, eqR_ss, eqR_tt_p, eqR_bb, intR_b, intR_i, dFmt_e, dJs_n, dJs_c, strK_s, dJoined_p, fmtR_s, fmtR_i, strR_s, strR_i, lenR_t, lenR_s, tupleR_t, isNR_p, abs_ii, max_ii, min_ii, truD_b_p, slD_t_p, slD_s_p, inR_t, List.map, List.length, List.replicate, List.cons_append, List.nil_append, List.append_nil, List.getElem?_cons_succ, List.getElem?_cons_zero, Option.some.injEq, exists_eq_left', exists_eq_left, ex2, ex3, exists_eq', List.set_cons_succ, List.set_cons_zero, Nat.reduceAdd, Nat.reduceSub, true_and, and_true, D.bl.injEq, D.int.injEq, D.str.injEq, D.ptr.injEq, D.tup.injEq, decide_eq_true_eq, beq_iff_eq, Bool.false_eq_true, if_true, if_false, reduceIte, wipeD, List.foldr_cons, List.foldr_nil, Nat.reduceLeDiff, List.cons.injEq, and_self, List.length_cons, List.length_nil]
  split
  · refine ⟨.inl ⟨_, h.get (by (repeat (first | exact KB.At.here | assumption | apply KB.At.there)))⟩, getC h (by (repeat (first | exact KB.At.here | assumption | apply KB.At.there))) ?_⟩
    try simp only [dFor_e_p, dRng1_p, dRng2_p, dOver_p, dOverT_p, dOverS_p, dAltI_p, dEnum_p, dZip_p, dLc_e_p, dWhile_e_p, Int.toNat_natCast, dSeq_p, dChain_p, dOrT_p, dAndT_p, dNotT_p, dGetI_eq_p, Bool.not_true, Bool.not_false, dAsg_p, dOp_p, dVar_p, dC_p, gNm_p, gTp_p, gCn_p, gNl_p, dRet_p, dIf_p, dTest_p, dTru_p, dNot_p, dAnd_p, dOr_p, dNext_p, dDrop_p, dCons_p, dNil_p, dTup_p, dLst_e_p, dEmp_e_p, dEmpG_e_p, dDisp_e_p, dListZip_e_p, dGhE_e, dGh_e, dOverK_e, dFld_e, dSetF_e, dMake_e, dMeth_e, dPar_p, dPar3_p, dSetI_p, dCall_p, dCB_p, dBM_p, dBM0_p, dIfE_p, dNeg_p, dSl_p, dPart_p, dNoP_p, dAug_p, addI_p, dBreak_p, dCont_p, dAlt_p, dYes_p, dPairs_n, dPairs_c, gSubD_p, dBMd_p, addD_ii_p, addD_ss_p, addD_tt_p, subD_ii_p, mulD_ii_p, modD_ii_p, fdivD_ii_p, powE_ii_p, Int.reduceToNat, Int.reducePow, Int.reduceNeg, Int.neg_neg, ltD_ii_p, leD_ii_p, gtD_ii_p, geD_ii_p, ltD_ss_p, leD_ss_p, eqR_ii, eqR_ss, eqR_tt_p, eqR_bb, intR_b, intR_i, dFmt_e, dJs_n, dJs_c, strK_s, dJoined_p, fmtR_s, fmtR_i, strR_s, strR_i, lenR_t, lenR_s, tupleR_t, isNR_p, abs_ii, max_ii, min_ii, truD_b_p, slD_t_p, slD_s_p, inR_t, List.map, List.length, List.replicate, List.cons_append, List.nil_append, List.append_nil, List.getElem?_cons_succ, List.getElem?_cons_zero, Option.some.injEq, exists_eq_left', exists_eq_left, ex2, ex3, exists_eq', List.set_cons_succ, List.set_cons_zero, Nat.reduceAdd, Nat.reduceSub, true_and, and_true, D.bl.injEq, D.int.injEq, D.str.injEq, D.ptr.injEq, D.tup.injEq, decide_eq_true_eq, beq_iff_eq, Bool.false_eq_true, if_true, if_false, reduceIte, wipeD, List.foldr_cons, List.foldr_nil, Nat.reduceLeDiff, List.cons.injEq, and_self, List.length_cons, List.length_nil]
    refine take h (by (repeat (first | exact KB.Del.here | assumption | apply KB.Del.there))) (by (repeat (first | exact KB.Del.here | assumption | apply KB.Del.there))) (by omega) (by decide) (by decide) fun t2 s2 C ht2 hs2 h => ?_
    try simp only [dFor_e_p, dRng1_p, dRng2_p, dOver_p, dOverT_p, dOverS_p, dAltI_p, dEnum_p, dZip_p, dLc_e_p, dWhile_e_p, Int.toNat_natCast, dSeq_p, dChain_p, dOrT_p, dAndT_p, dNotT_p, dGetI_eq_p, Bool.not_true, Bool.not_false, dAsg_p, dOp_p, dVar_p, dC_p, gNm_p, gTp_p, gCn_p, gNl_p, dRet_p, dIf_p, dTest_p, dTru_p, dNot_p, dAnd_p, dOr_p, dNext_p, dDrop_p, dCons_p, dNil_p, dTup_p, dLst_e_p, dEmp_e_p, dEmpG_e_p, dDisp_e_p, dListZip_e_p, dGhE_e, dGh_e, dOverK_e, dFld_e, dSetF_e, dMake_e, dMeth_e, dPar_p, dPar3_p, dSetI_p, dCall_p, dCB_p, dBM_p, dBM0_p, dIfE_p, dNeg_p, dSl_p, dPart_p, dNoP_p, dAug_p, addI_p, dBreak_p, dCont_p, dAlt_p, dYes_p, dPairs_n, dPairs_c, gSubD_p, dBMd_p, addD_ii_p, addD_ss_p, addD_tt_p, subD_ii_p, mulD_ii_p, modD_ii_p, fdivD_ii_p, powE_ii_p, Int.reduceToNat, Int.reducePow, Int.reduceNeg, Int.neg_neg, ltD_ii_p, leD_ii_p, gtD_ii_p, geD_ii_p, ltD_ss_p, leD_ss_p, eqR_ii, eqR_ss, eqR_tt_p, eqR_bb, intR_b, intR_i, dFmt_e, dJs_n, dJs_c, strK_s, dJoined_p, fmtR_s, fmtR_i, strR_s, strR_i, lenR_t, lenR_s, tupleR_t, isNR_p, abs_ii, max_ii, min_ii, truD_b_p, slD_t_p, slD_s_p, inR_t, List.map, List.length, List.replicate, List.cons_append, List.nil_append, List.append_nil, List.getElem?_cons_succ, List.getElem?_cons_zero, Option.some.injEq, exists_eq_left', exists_eq_left, ex2, ex3, exists_eq', List.set_cons_succ, List.set_cons_zero, Nat.reduceAdd, Nat.reduceSub, true_and, and_true, D.bl.injEq, D.int.injEq, D.str.injEq, D.ptr.injEq, D.tup.injEq, decide_eq_true_eq, beq_iff_eq, Bool.false_eq_true, if_true, if_false, reduceIte, wipeD, List.foldr_cons, List.foldr_nil, Nat.reduceLeDiff, List.cons.injEq, and_self, List.length_cons, List.length_nil]
    have hg := ga.gt hB [103, 104, 111, 115, 116]
    refine putC (c := ca) h (by have := ga.len; omega) (.there (.there (.there (.there (.there .here))))) fun C h => ?_
    refine turn1 h aw w0 w1 hw hr (by omega) ((ga.up (B' := B + 3) (by omega)).put (k := [103, 104, 111, 115, 116]) (by decide) (by omega) (by omega)) hB hpc fun d s' x9 x10 x11 x15 C' t1 t2 t3 t4 t5 t6 t7 t8 h => ?_
    exact k d _ s' _ _ _ _ C' (Le.put (by omega)) (fun k hk => by rw [gt_put]; exact if_neg hk) ((ga.up (B' := B + 3) (by omega)).put (k := [103, 104, 111, 115, 116]) (by decide) (by omega) (by omega)) t1 t2 t3 t4 t5 t6 t7 (by omega) h
  · refine turn1 h aw w0 w1 hw hr (by omega) (ga.up (by omega)) hB hpc fun d s' x9 x10 x11 x15 C' t1 t2 t3 t4 t5 t6 t7 t8 h => ?_
    exact k d _ s' _ _ _ _ C' (.refl _) (fun _ _ => rfl) (ga.up (by omega)) t1 t2 t3 t4 t5 t6 t7 (by omega) h
/-- each place has a clock -/
def Tab (tb : List (DKey × D)) (ps : List (List Nat)) (cs : List (Addr × Ck)) : Prop := ∀ x ∈ ps, ∃ a c, lookA tb (.inr x) = some (.ptr a) ∧ (a, c) ∈ cs
theorem split_at {α : Type} {x : α} {xs : List α} (h : x ∈ xs) : ∃ ys, xs.Perm (x :: ys) := by
  obtain ⟨a, b, rfl⟩ := List.append_of_mem h
  exact ⟨a ++ b, List.perm_middle⟩
theorem Fr_perm {X : List Ent} (h : L.Perm L') : (X ++ L).Perm (X ++ L') := h.append_left X
theorem mv1 {x1 x2 x3 x4 x5 a : Ent} {R : List Ent} : (x1 :: x2 :: x3 :: x4 :: x5 :: a :: R).Perm (a :: x1 :: x2 :: x3 :: x4 :: x5 :: R) := (List.perm_append_comm (l₁ := [x1, x2, x3, x4, x5]) (l₂ := [a])).append_right R
theorem mv2 {x1 x2 x3 x4 x5 a b : Ent} {R : List Ent} : (x1 :: x2 :: x3 :: x4 :: x5 :: a :: b :: R).Perm (a :: b :: x1 :: x2 :: x3 :: x4 :: x5 :: R) := (List.perm_append_comm (l₁ := [x1, x2, x3, x4, x5]) (l₂ := [a, b])).append_right R
theorem in5 {x1 x2 x3 x4 x5 x : Ent} {R : List Ent} (h : x ∈ R) : x ∈ x1 :: x2 :: x3 :: x4 :: x5 :: R := List.mem_append_right [x1, x2, x3, x4, x5] h
theorem turn3 {x3 x5 x8 x11 x12 x13 x14 x15 x9 x10 : Option D} (h : St S C0 C (Fr5 p r rw pl ct s rows ps tb (clE cs ++ L0))) (aw : At L0 wa (.lst (ws.map D.str))) (w0 : ws ≠ []) (w1 : ws.length < 50) (hw : ∀ w ∈ ws, w ∈ WORDS) (hr : rows.length < 100) (hn : s.n < 2 ^ 14) (hp0 : ps ≠ []) (hpl : ps.length < 100) (hpk : ∀ x ∈ ps, x ∈ KEYS) (hgh : ∀ x ∈ ps, x ≠ GH) (ht : Tab tb ps cs) (hB : 0 ≤ B) (hI : RowI tb ps B rows cs)
    (k : ∀ (d : Dd) (cs' : List (Addr × Ck)) (s' : PS) x8 x9 x10 x11 x12 x13 x14 x15 C', Tab tb ps cs' → RowI tb ps (B + NB) (rows ++ [d]) cs' → d.w.wd ∈ [109, 97, 107, 101] :: ws → s'.n ≤ s.n + 50 → St S C0 C' (Fr5 p r rw pl ct s' (rows ++ [d]) ps tb (clE cs' ++ L0)) → ED.nx [some (.ptr p), some (.int m), some (.ptr wa), x3, some (.ptr ct), x5, some (.ptr pl), some (.ptr rw), x8, x9, x10, x11, x12, x13, x14, x15] C') :
    l__law_row_3 ED [some (.ptr p), some (.int m), some (.ptr wa), x3, some (.ptr ct), x5, some (.ptr pl), some (.ptr rw), x8, x9, x10, x11, x12, x13, x14, x15] C := by
  unfold l__law_row_3
  try simp only [dFor_e_p, dRng1_p, dRng2_p, dOver_p, dOverT_p, dOverS_p, dAltI_p, dEnum_p, dZip_p, dLc_e_p, dWhile_e_p, Int.toNat_natCast, dSeq_p, dChain_p, dOrT_p, dAndT_p, dNotT_p, dGetI_eq_p, Bool.not_true, Bool.not_false, dAsg_p, dOp_p, dVar_p, dC_p, gNm_p, gTp_p, gCn_p, gNl_p, dRet_p, dIf_p, dTest_p, dTru_p, dNot_p, dAnd_p, dOr_p, dNext_p, dDrop_p, dCons_p, dNil_p, dTup_p, dLst_e_p, dEmp_e_p, dEmpG_e_p, dDisp_e_p, dListZip_e_p, dGhE_e, dGh_e, dOverK_e, dFld_e, dSetF_e, dMake_e, dMeth_e, dPar_p, dPar3_p, dSetI_p, dCall_p, dCB_p, dBM_p, dBM0_p, dIfE_p, dNeg_p, dSl_p, dPart_p, dNoP_p, dAug_p, addI_p, dBreak_p, dCont_p, dAlt_p, dYes_p, dPairs_n, dPairs_c, gSubD_p, dBMd_p, addD_ii_p, addD_ss_p, addD_tt_p, subD_ii_p, mulD_ii_p, modD_ii_p, fdivD_ii_p, powE_ii_p, Int.reduceToNat, Int.reducePow, Int.reduceNeg, Int.neg_neg, ltD_ii_p, leD_ii_p, gtD_ii_p, geD_ii_p, ltD_ss_p, leD_ss_p, eqR_ii, eqR_ss, eqR_tt_p, eqR_bb, intR_b, intR_i, dFmt_e, dJs_n, dJs_c, strK_s, dJoined_p, fmtR_s, fmtR_i, strR_s, strR_i, lenR_t, lenR_s, tupleR_t, isNR_p, abs_ii, max_ii, min_ii, truD_b_p, slD_t_p, slD_s_p, inR_t, List.map, List.length, List.replicate, List.cons_append, List.nil_append, List.append_nil, List.getElem?_cons_succ, List.getElem?_cons_zero, Option.some.injEq, exists_eq_left', exists_eq_left, ex2, ex3, exists_eq', List.set_cons_succ, List.set_cons_zero, Nat.reduceAdd, Nat.reduceSub, true_and, and_true, D.bl.injEq, D.int.injEq, D.str.injEq, D.ptr.injEq, D.tup.injEq, decide_eq_true_eq, beq_iff_eq, Bool.false_eq_true, if_true, if_false, reduceIte, wipeD, List.foldr_cons, List.foldr_nil, Nat.reduceLeDiff, List.cons.injEq, and_self, List.length_cons, List.length_nil]
  refine of_m (f := D.str) h (by (repeat (first | exact KB.Del.here | assumption | apply KB.Del.there))) (by (repeat (first | exact KB.Del.here | assumption | apply KB.Del.there))) (by (repeat (first | exact KB.At.here | assumption | apply KB.At.there))) (by omega) hp0 (by omega) fun pc s1 C hpc hs1 h => ?_
  obtain ⟨a, ca, e1, m1⟩ := ht pc hpc
  try simp only [dFor_e_p, dRng1_p, dRng2_p, dOver_p, dOverT_p, dOverS_p, dAltI_p, dEnum_p, dZip_p, dLc_e_p, dWhile_e_p, Int.toNat_natCast, dSeq_p, dChain_p, dOrT_p, dAndT_p, dNotT_p, dGetI_eq_p, Bool.not_true, Bool.not_false, dAsg_p, dOp_p, dVar_p, dC_p, gNm_p, gTp_p, gCn_p, gNl_p, dRet_p, dIf_p, dTest_p, dTru_p, dNot_p, dAnd_p, dOr_p, dNext_p, dDrop_p, dCons_p, dNil_p, dTup_p, dLst_e_p, dEmp_e_p, dEmpG_e_p, dDisp_e_p, dListZip_e_p, dGhE_e, dGh_e, dOverK_e, dFld_e, dSetF_e, dMake_e, dMeth_e, dPar_p, dPar3_p, dSetI_p, dCall_p, dCB_p, dBM_p, dBM0_p, dIfE_p, dNeg_p, dSl_p, dPart_p, dNoP_p, dAug_p, addI_p, dBreak_p, dCont_p, dAlt_p, dYes_p, dPairs_n, dPairs_c, gSubD_p, dBMd_p, addD_ii_p, addD_ss_p, addD_tt_p, subD_ii_p, mulD_ii_p, modD_ii_p, fdivD_ii_p, powE_ii_p, Int.reduceToNat, Int.reducePow, Int.reduceNeg, Int.neg_neg, ltD_ii_p, leD_ii_p, gtD_ii_p, geD_ii_p, ltD_ss_p, leD_ss_p, eqR_ii, eqR_ss, eqR_tt_p, eqR_bb, intR_b, intR_i, dFmt_e, dJs_n, dJs_c, strK_s, dJoined_p, fmtR_s, fmtR_i, strR_s, strR_i, lenR_t, lenR_s, tupleR_t, isNR_p, abs_ii, max_ii, min_ii, truD_b_p, slD_t_p, slD_s_p, inR_t, List.map, List.length, List.replicate, List.cons_append, List.nil_append, List.append_nil, List.getElem?_cons_succ, List.getElem?_cons_zero, Option.some.injEq, exists_eq_left', exists_eq_left, ex2, ex3, exists_eq', List.set_cons_succ, List.set_cons_zero, Nat.reduceAdd, Nat.reduceSub, true_and, and_true, D.bl.injEq, D.int.injEq, D.str.injEq, D.ptr.injEq, D.tup.injEq, decide_eq_true_eq, beq_iff_eq, Bool.false_eq_true, if_true, if_false, reduceIte, wipeD, List.foldr_cons, List.foldr_nil, Nat.reduceLeDiff, List.cons.injEq, and_self, List.length_cons, List.length_nil]
  refine getS_st h (by (repeat (first | exact KB.At.here | assumption | apply KB.At.there))) e1 ?_
  refine of_m (f := D.str) h (by (repeat (first | exact KB.Del.here | assumption | apply KB.Del.there))) (by (repeat (first | exact KB.Del.here | assumption | apply KB.Del.there))) (by (repeat (first | exact KB.At.here | assumption | apply KB.At.there))) (by omega) hp0 (by omega) fun pb s2 C hpb hs2 h => ?_
  obtain ⟨b, cb, e2, m2⟩ := ht pb hpb
  refine getS_st h (by (repeat (first | exact KB.At.here | assumption | apply KB.At.there))) e2 ?_
  try simp only [dFor_e_p, dRng1_p, dRng2_p, dOver_p, dOverT_p, dOverS_p, dAltI_p, dEnum_p, dZip_p, dLc_e_p, dWhile_e_p, Int.toNat_natCast, dSeq_p, dChain_p, dOrT_p, dAndT_p, dNotT_p, dGetI_eq_p, Bool.not_true, Bool.not_false, dAsg_p, dOp_p, dVar_p, dC_p, gNm_p, gTp_p, gCn_p, gNl_p, dRet_p, dIf_p, dTest_p, dTru_p, dNot_p, dAnd_p, dOr_p, dNext_p, dDrop_p, dCons_p, dNil_p, dTup_p, dLst_e_p, dEmp_e_p, dEmpG_e_p, dDisp_e_p, dListZip_e_p, dGhE_e, dGh_e, dOverK_e, dFld_e, dSetF_e, dMake_e, dMeth_e, dPar_p, dPar3_p, dSetI_p, dCall_p, dCB_p, dBM_p, dBM0_p, dIfE_p, dNeg_p, dSl_p, dPart_p, dNoP_p, dAug_p, addI_p, dBreak_p, dCont_p, dAlt_p, dYes_p, dPairs_n, dPairs_c, gSubD_p, dBMd_p, addD_ii_p, addD_ss_p, addD_tt_p, subD_ii_p, mulD_ii_p, modD_ii_p, fdivD_ii_p, powE_ii_p, Int.reduceToNat, Int.reducePow, Int.reduceNeg, Int.neg_neg, ltD_ii_p, leD_ii_p, gtD_ii_p, geD_ii_p, ltD_ss_p, leD_ss_p, eqR_ii, eqR_ss, eqR_tt_p, eqR_bb, intR_b, intR_i, dFmt_e, dJs_n, dJs_c, strK_s, dJoined_p, fmtR_s, fmtR_i, strR_s, strR_i, lenR_t, lenR_s, tupleR_t, isNR_p, abs_ii, max_ii, min_ii, truD_b_p, slD_t_p, slD_s_p, inR_t, List.map, List.length, List.replicate, List.cons_append, List.nil_append, List.append_nil, List.getElem?_cons_succ, List.getElem?_cons_zero, Option.some.injEq, exists_eq_left', exists_eq_left, ex2, ex3, exists_eq', List.set_cons_succ, List.set_cons_zero, Nat.reduceAdd, Nat.reduceSub, true_and, and_true, D.bl.injEq, D.int.injEq, D.str.injEq, D.ptr.injEq, D.tup.injEq, decide_eq_true_eq, beq_iff_eq, Bool.false_eq_true, if_true, if_false, reduceIte, wipeD, List.foldr_cons, List.foldr_nil, Nat.reduceLeDiff, List.cons.injEq, and_self, List.length_cons, List.length_nil]
  refine take h (by (repeat (first | exact KB.Del.here | assumption | apply KB.Del.there))) (by (repeat (first | exact KB.Del.here | assumption | apply KB.Del.there))) (by omega) (by decide) (by decide) fun t s3 C ht3 hs3 h => ?_
  obtain ⟨cs1, hp1⟩ := split_at m1
  have ga := hI.gd _ m1
  have gb := hI.gd _ m2
  have hcell := h.at_
  -- what follows the joining of clocks
  have fin : ∀ (ca' c0 : Ck) x14' C', Gd B ca' → (∃ a0, (a0, c0) ∈ cs) → (∀ k, gt ca' k = max (gt ca k) (gt c0 k)) → St S C0 C' (Fr5 p r rw pl ct s3 rows ps tb ((a, .dk (ckD ca'), true) :: (clE cs1 ++ L0))) → r__law_row_2 ED [some (.ptr p), some (.int m), some (.ptr wa), x3, some (.ptr ct), x5, some (.ptr pl), some (.ptr rw), some (.str pc), x9, x10, x11, some (.ptr a), some (.ptr b), x14', x15] C' := by
    intro ca' c0 x14' C' g1 hc0 hmx h
    obtain ⟨a0, hc0⟩ := hc0
    have g2 : Le ca ca' := fun k => by rw [hmx k]; omega
    have g20 : Le c0 ca' := fun k => by rw [hmx k]; omega
    refine turn2 h aw w0 w1 hw hr (by omega) g1 hB (hpk _ hpc) fun d c2 s' x9 x10 x11 x15 C' l2 ngh gd2 t1 t2 t3 t4 t5 t6 t7 t8 h => ?_
    have l3 : Le ca c2 := g2.trans l2
    have nb : NB / 10 = 10000000000000000000000000000 ∧ NB = 100000000000000000000000000000 := ⟨by decide, rfl⟩
    have d0 : 1 ≤ d.st.1 := by
      have h1 := t2 pc
      have h2 := (gd2.gt (by omega) pc).1
      omega
    have gt3 : gt (putA c2 pc d.st.1) pc = d.st.1 := by rw [gt_put, if_pos rfl]
    have l4 : Le c2 (putA c2 pc d.st.1) := Le.put (by have := t2 pc; omega)
    have inn : ∀ x ∈ cs, x = (a, ca) ∨ x ∈ cs1 := fun x hx => List.mem_cons.mp (hp1.mem_iff.mp hx)
    have same : ∀ c, (a, c) ∈ cs → c = ca := fun c hc => by
      have q1 := hcell (a, .dk (ckD c), true) (in5 (List.mem_append_left _ (List.mem_map.mpr ⟨(a, c), hc, rfl⟩)))
      have q2 := hcell (a, .dk (ckD ca), true) (in5 (List.mem_append_left _ (List.mem_map.mpr ⟨(a, ca), m1, rfl⟩)))
      have q3 := q1.symm.trans q2
      simp only [Option.some.injEq, Cell.dk.injEq] at q3
      exact ckD_inj q3
    have fcell := h.at_
    have same' : ∀ c, (a, c) ∈ (a, putA c2 pc d.st.1) :: cs1 → c = putA c2 pc d.st.1 := fun c hc => by
      have q1 := fcell (a, .dk (ckD c), true) (in5 (show _ ∈ clE ((a, putA c2 pc d.st.1) :: cs1) ++ L0 from List.mem_append_left _ (List.mem_map.mpr ⟨(a, c), hc, rfl⟩)))
      have q2 := fcell (a, .dk (ckD (putA c2 pc d.st.1)), true) (in5 List.mem_cons_self)
      have q3 := q1.symm.trans q2
      simp only [Option.some.injEq, Cell.dk.injEq] at q3
      exact ckD_inj q3
    have in1 : ∀ x ∈ cs1, x ∈ cs := fun x hx => hp1.mem_iff.mpr (List.mem_cons_of_mem _ hx)
    have ds : ∀ k, gt d.seen k = gt c2 k := gt_perm gd2.nd t5
    have g3 : ∀ k, gt (putA c2 pc d.st.1) k = if k = pc then d.st.1 else gt c2 k := fun k => gt_put c2 pc k d.st.1
    have c2P : ∀ P ∈ ps, gt c2 P = max (gt ca P) (gt c0 P) := fun P hP => by rw [ngh P (hgh P hP), hmx P]
    obtain ⟨kn1, kn2⟩ := hI.kn pc hpc a ca e1 m1
    have ownp : ∀ e ∈ rows, e.st.2 = pc → e.st.1 ≤ gt ca pc := fun e he ee => by
      obtain ⟨a', c', z1, z2, z3⟩ := hI.own e he
      rw [ee] at z1 z3
      rw [e1] at z1
      cases z1
      rw [same c' z2] at z3
      exact z3
    have sees : ∀ e ∈ rows, e.st.1 ≤ gt c2 e.st.2 → ∀ k, gt e.seen k ≤ gt c2 k := fun e he hle k => by
      rw [c2P _ (hI.pl e he)] at hle
      rcases (by omega : e.st.1 ≤ gt ca e.st.2 ∨ e.st.1 ≤ gt c0 e.st.2) with z | z
      · exact Int.le_trans (hI.ca _ m1 e he z k) (l3 k)
      · exact Int.le_trans (hI.ca _ hc0 e he z k) (Int.le_trans (g20 k) (l2 k))
    refine k d ((a, putA c2 pc d.st.1) :: cs1) s' _ _ _ _ _ _ _ _ C' (fun x hx => ?_) ⟨fun x hx => ?_, fun e he => ?_, ?_, fun e he => ?_, fun P hP aP cP hlk hin => ?_, fun x hx e he hle k => ?_, fun e he => ?_, ?_, fun e he => ?_, ?_, ?_⟩ t7 (by omega) h
    · obtain ⟨a', c', z1, z2⟩ := ht x hx
      rcases inn _ z2 with e | e
      · cases e; exact ⟨_, _, z1, List.mem_cons_self⟩
      · exact ⟨_, _, z1, List.mem_cons_of_mem _ e⟩
    · rcases List.mem_cons.mp hx with e | e
      · subst e
        exact (gd2.up (by omega)).put (hpk _ hpc) (by omega) (by omega)
      · exact (hI.gd x (hp1.mem_iff.mpr (List.mem_cons_of_mem _ e))).up (by omega)
    · rcases List.mem_append.mp he with he | he
      · obtain ⟨a', c', z1, z2, z3⟩ := hI.own e he
        rcases inn _ z2 with e | e
        · cases e; exact ⟨_, _, z1, List.mem_cons_self, Int.le_trans z3 (Int.le_trans (l3 _) (l4 _))⟩
        · exact ⟨_, _, z1, List.mem_cons_of_mem _ e, z3⟩
      · rw [List.mem_singleton.mp he, t1]
        exact ⟨a, _, e1, List.mem_cons_self, by rw [gt3]; exact Int.le_refl _⟩
    · rw [List.map_append]
      refine List.nodup_append.mpr ⟨hI.nd, List.nodup_cons.mpr ⟨List.not_mem_nil, List.nodup_nil⟩, fun x hx y hy => ?_⟩
      rw [List.map_cons, List.map_nil, List.mem_singleton] at hy
      subst hy
      intro e
      obtain ⟨e', he', ee⟩ := List.mem_map.mp hx
      have e5 : e'.st = d.st := ee.trans e
      obtain ⟨a', c', z1, z2, z3⟩ := hI.own e' he'
      rw [e5, t1] at z1
      rw [e1] at z1
      cases z1
      rw [same c' z2, e5, t1] at z3
      have h1 := l3 pc
      have h2 := t2 pc
      omega
    · rcases List.mem_append.mp he with he | he
      · exact (hI.ok e he).up (by omega) fun x hx => List.mem_append_left _ hx
      · rw [List.mem_singleton.mp he]
        refine ⟨t4, d0, by omega, by rw [t1]; exact hpk _ hpc, ⟨(t5.map _).nodup_iff.mpr gd2.nd, fun x hx => ?_⟩, fun o ho => (t6 o ho).imp id fun ⟨e, he, ee, el⟩ => ⟨?_, ?_⟩⟩
        · have := gd2.ok x (t5.mem_iff.mp hx)
          exact ⟨this.1, this.2.1, by omega⟩
        · rw [List.map_append]
          exact List.mem_append_left _ (List.mem_map.mpr ⟨e, he, ee⟩)
        · rw [← ee]
          have := t2 e.st.2
          omega
    · by_cases hPc : P = pc
      · rw [hPc] at hlk ⊢
        rw [e1] at hlk
        cases hlk
        rw [same' cP hin, gt3]
        have n2 := t2 pc
        have l3p := l3 pc
        refine ⟨fun x hx => ?_, fun e he => ?_⟩
        · rcases List.mem_cons.mp hx with z | z
          · rw [z, gt3]; exact Int.le_refl _
          · have := kn1 x (in1 x z)
            omega
        · rcases List.mem_append.mp he with z | z
          · have := kn2 e z
            omega
          · rw [List.mem_singleton.mp z, ds]; omega
      · have e3 : gt (putA c2 pc d.st.1) P = gt c2 P := by rw [g3, if_neg hPc]
        rcases List.mem_cons.mp hin with z | z
        · cases z
          obtain ⟨k1, k2⟩ := hI.kn P hP a ca hlk m1
          have l3p := l3 P
          rw [e3]
          refine ⟨fun x hx => ?_, fun e he => ?_⟩
          · rcases List.mem_cons.mp hx with z | z
            · rw [z, e3]; exact Int.le_refl _
            · have := k1 x (in1 x z)
              omega
          · rcases List.mem_append.mp he with z | z
            · have := k2 e z
              omega
            · rw [List.mem_singleton.mp z, ds]; exact Int.le_refl _
        · obtain ⟨k1, k2⟩ := hI.kn P hP aP cP hlk (in1 _ z)
          have b1 : gt ca P ≤ gt cP P := k1 _ m1
          have b2 : gt c0 P ≤ gt cP P := k1 _ hc0
          have b3 := c2P P hP
          refine ⟨fun x hx => ?_, fun e he => ?_⟩
          · rcases List.mem_cons.mp hx with z | z
            · rw [z, e3]; omega
            · exact k1 x (in1 x z)
          · rcases List.mem_append.mp he with z | z
            · exact k2 e z
            · rw [List.mem_singleton.mp z, ds]; omega
    · have kn1x := kn1
      rcases List.mem_append.mp he with ze | ze
      · rcases List.mem_cons.mp hx with z | z
        · rw [z] at hle ⊢
          refine Int.le_trans (sees e ze ?_ k) (l4 k)
          rw [g3] at hle
          split at hle
          · rename_i ee
            have := ownp e ze ee
            rw [ee]
            exact Int.le_trans this (l3 pc)
          · exact hle
        · exact hI.ca x (in1 x z) e ze hle k
      · rw [List.mem_singleton.mp ze] at hle ⊢
        rcases List.mem_cons.mp hx with z | z
        · rw [z, ds]; exact l4 k
        · rw [t1] at hle
          have := kn1 x (in1 x z)
          have := l3 pc
          have := t2 pc
          omega
    · rcases List.mem_append.mp he with z | z
      · exact hI.pl e z
      · rw [List.mem_singleton.mp z, t1]; exact hpc
    · refine List.pairwise_append.mpr ⟨hI.late, List.pairwise_singleton _ _, fun e he e' he' => ?_⟩
      rw [List.mem_singleton.mp he', t1]
      have := kn2 e he
      have := l3 pc
      have := t2 pc
      omega
    · rcases List.mem_append.mp he with z | z
      · exact hI.self e z
      · rw [List.mem_singleton.mp z, ds, t1]; exact t2 pc
    · refine List.pairwise_append.mpr ⟨hI.same, List.pairwise_singleton _ _, fun e he e' he' ee => ?_⟩
      rw [List.mem_singleton.mp he'] at ee ⊢
      rw [t1] at ee
      rw [ds, ee]
      exact Int.le_trans (ownp e he ee) (l3 pc)
    · refine List.pairwise_append.mpr ⟨hI.caus, List.pairwise_singleton _ _, fun e he e' he' hle k => ?_⟩
      rw [List.mem_singleton.mp he'] at hle ⊢
      rw [ds] at hle ⊢
      exact sees e he hle k
  have hP : St S C0 C (Fr5 p r rw pl ct s3 rows ps tb ((a, .dk (ckD ca), true) :: (clE cs1 ++ L0))) := h.perm (Fr_perm (X := [_, _, _, _, _]) ((clE_perm hp1).append_right L0))
  try simp only [dFor_e_p, dRng1_p, dRng2_p, dOver_p, dOverT_p, dOverS_p, dAltI_p, dEnum_p, dZip_p, dLc_e_p, dWhile_e_p, Int.toNat_natCast, dSeq_p, dChain_p, dOrT_p, dAndT_p, dNotT_p, dGetI_eq_p, Bool.not_true, Bool.not_false, dAsg_p, dOp_p, dVar_p, dC_p, gNm_p, gTp_p, gCn_p, gNl_p, dRet_p, dIf_p, dTest_p, dTru_p, dNot_p, dAnd_p, dOr_p, dNext_p, dDrop_p, dCons_p, dNil_p, dTup_p, dLst_e_p, dEmp_e_p, dEmpG_e_p, dDisp_e_p, dListZip_e_p, dGhE_e, dGh_e, dOverK_e, dFld_e, dSetF_e, dMake_e, dMeth_e, dPar_p, dPar3_p, dSetI_p, dCall_p, dCB_p, dBM_p, dBM0_p, dIfE_p, dNeg_p, dSl_p, dPart_p, dNoP_p, dAug_p, addI_p, dBreak_p, dCont_p, dAlt_p, dYes_p, dPairs_n, dPairs_c, gSubD_p, dBMd_p, addD_ii_p, addD_ss_p, addD_tt_p, subD_ii_p, mulD_ii_p, modD_ii_p, fdivD_ii_p, powE_ii_p, Int.reduceToNat, Int.reducePow, Int.reduceNeg, Int.neg_neg, ltD_ii_p, leD_ii_p, gtD_ii_p, geD_ii_p, ltD_ss_p, leD_ss_p, eqR_ii, eqR_ss, eqR_tt_p, eqR_bb, intR_b, intR_i, dFmt_e, dJs_n, dJs_c, strK_s, dJoined_p, fmtR_s, fmtR_i, strR_s, strR_i, lenR_t, lenR_s, tupleR_t, isNR_p, abs_ii, max_ii, min_ii, truD_b_p, slD_t_p, slD_s_p, inR_t, List.map, List.length, List.replicate, List.cons_append, List.nil_append, List.append_nil, List.getElem?_cons_succ, List.getElem?_cons_zero, Option.some.injEq, exists_eq_left', exists_eq_left, ex2, ex3, exists_eq', List.set_cons_succ, List.set_cons_zero, Nat.reduceAdd, Nat.reduceSub, true_and, and_true, D.bl.injEq, D.int.injEq, D.str.injEq, D.ptr.injEq, D.tup.injEq, decide_eq_true_eq, beq_iff_eq, Bool.false_eq_true, if_true, if_false, reduceIte, wipeD, List.foldr_cons, List.foldr_nil, Nat.reduceLeDiff, List.cons.injEq, and_self, List.length_cons, List.length_nil]
  split
  · by_cases hab : a = b
    · subst hab
      have hQ := hP.perm mv1
      suffices h : dGh (dFor (dOverK (dVar 13)) (gNm 14) (l__law_row_2)) { ED with nx := r__law_row_2 ED } [some (.ptr p), some (.int m), some (.ptr wa), x3, some (.ptr ct), x5, some (.ptr pl), some (.ptr rw), some (.str pc), x9, x10, x11, some (.ptr a), some (.ptr a), x14, x15] C by
        simp only [dFor_e_p, dRng1_p, dRng2_p, dOver_p, dOverT_p, dOverS_p, dAltI_p, dEnum_p, dZip_p, dLc_e_p, dWhile_e_p, Int.toNat_natCast, dSeq_p, dChain_p, dOrT_p, dAndT_p, dNotT_p, dGetI_eq_p, Bool.not_true, Bool.not_false, dAsg_p, dOp_p, dVar_p, dC_p, gNm_p, gTp_p, gCn_p, gNl_p, dRet_p, dIf_p, dTest_p, dTru_p, dNot_p, dAnd_p, dOr_p, dNext_p, dDrop_p, dCons_p, dNil_p, dTup_p, dLst_e_p, dEmp_e_p, dEmpG_e_p, dDisp_e_p, dListZip_e_p, dGhE_e, dGh_e, dOverK_e, dFld_e, dSetF_e, dMake_e, dMeth_e, dPar_p, dPar3_p, dSetI_p, dCall_p, dCB_p, dBM_p, dBM0_p, dIfE_p, dNeg_p, dSl_p, dPart_p, dNoP_p, dAug_p, addI_p, dBreak_p, dCont_p, dAlt_p, dYes_p, dPairs_n, dPairs_c, gSubD_p, dBMd_p, addD_ii_p, addD_ss_p, addD_tt_p, subD_ii_p, mulD_ii_p, modD_ii_p, fdivD_ii_p, powE_ii_p, Int.reduceToNat, Int.reducePow, Int.reduceNeg, Int.neg_neg, ltD_ii_p, leD_ii_p, gtD_ii_p, geD_ii_p, ltD_ss_p, leD_ss_p, eqR_ii, eqR_ss, eqR_tt_p, eqR_bb, intR_b, intR_i, dFmt_e, dJs_n, dJs_c, strK_s, dJoined_p, fmtR_s, fmtR_i, strR_s, strR_i, lenR_t, lenR_s, tupleR_t, isNR_p, abs_ii, max_ii, min_ii, truD_b_p, slD_t_p, slD_s_p, inR_t, List.map, List.length, List.replicate, List.cons_append, List.nil_append, List.append_nil, List.getElem?_cons_succ, List.getElem?_cons_zero, Option.some.injEq, exists_eq_left', exists_eq_left, ex2, ex3, exists_eq', List.set_cons_succ, List.set_cons_zero, Nat.reduceAdd, Nat.reduceSub, true_and, and_true, D.bl.injEq, D.int.injEq, D.str.injEq, D.ptr.injEq, D.tup.injEq, decide_eq_true_eq, beq_iff_eq, Bool.false_eq_true, if_true, if_false, reduceIte, wipeD, List.foldr_cons, List.foldr_nil, Nat.reduceLeDiff, List.cons.injEq, and_self, List.length_cons, List.length_nil] at h
        exact h
      refine merge1 (ED := { ED with nx := r__law_row_2 ED }) hQ ga fun x14' C' h => ?_
      exact fin ca ca x14' C' ga ⟨a, m1⟩ (fun k => by omega) (h.perm mv1.symm)
    · have m3 : (b, cb) ∈ cs1 := by
        rcases List.mem_cons.mp (hp1.mem_iff.mp m2) with e | e
        · cases e; exact absurd rfl hab
        · exact e
      obtain ⟨cs2, hp2⟩ := split_at m3
      have hP2 : St S C0 C (Fr5 p r rw pl ct s3 rows ps tb ((a, .dk (ckD ca), true) :: (b, .dk (ckD cb), true) :: (clE cs2 ++ L0))) := hP.perm (Fr_perm (X := [_, _, _, _, _, _]) ((clE_perm hp2).append_right L0))
      have hQ := hP2.perm mv2
      suffices h : dGh (dFor (dOverK (dVar 13)) (gNm 14) (l__law_row_2)) { ED with nx := r__law_row_2 ED } [some (.ptr p), some (.int m), some (.ptr wa), x3, some (.ptr ct), x5, some (.ptr pl), some (.ptr rw), some (.str pc), x9, x10, x11, some (.ptr a), some (.ptr b), x14, x15] C by
        simp only [dFor_e_p, dRng1_p, dRng2_p, dOver_p, dOverT_p, dOverS_p, dAltI_p, dEnum_p, dZip_p, dLc_e_p, dWhile_e_p, Int.toNat_natCast, dSeq_p, dChain_p, dOrT_p, dAndT_p, dNotT_p, dGetI_eq_p, Bool.not_true, Bool.not_false, dAsg_p, dOp_p, dVar_p, dC_p, gNm_p, gTp_p, gCn_p, gNl_p, dRet_p, dIf_p, dTest_p, dTru_p, dNot_p, dAnd_p, dOr_p, dNext_p, dDrop_p, dCons_p, dNil_p, dTup_p, dLst_e_p, dEmp_e_p, dEmpG_e_p, dDisp_e_p, dListZip_e_p, dGhE_e, dGh_e, dOverK_e, dFld_e, dSetF_e, dMake_e, dMeth_e, dPar_p, dPar3_p, dSetI_p, dCall_p, dCB_p, dBM_p, dBM0_p, dIfE_p, dNeg_p, dSl_p, dPart_p, dNoP_p, dAug_p, addI_p, dBreak_p, dCont_p, dAlt_p, dYes_p, dPairs_n, dPairs_c, gSubD_p, dBMd_p, addD_ii_p, addD_ss_p, addD_tt_p, subD_ii_p, mulD_ii_p, modD_ii_p, fdivD_ii_p, powE_ii_p, Int.reduceToNat, Int.reducePow, Int.reduceNeg, Int.neg_neg, ltD_ii_p, leD_ii_p, gtD_ii_p, geD_ii_p, ltD_ss_p, leD_ss_p, eqR_ii, eqR_ss, eqR_tt_p, eqR_bb, intR_b, intR_i, dFmt_e, dJs_n, dJs_c, strK_s, dJoined_p, fmtR_s, fmtR_i, strR_s, strR_i, lenR_t, lenR_s, tupleR_t, isNR_p, abs_ii, max_ii, min_ii, truD_b_p, slD_t_p, slD_s_p, inR_t, List.map, List.length, List.replicate, List.cons_append, List.nil_append, List.append_nil, List.getElem?_cons_succ, List.getElem?_cons_zero, Option.some.injEq, exists_eq_left', exists_eq_left, ex2, ex3, exists_eq', List.set_cons_succ, List.set_cons_zero, Nat.reduceAdd, Nat.reduceSub, true_and, and_true, D.bl.injEq, D.int.injEq, D.str.injEq, D.ptr.injEq, D.tup.injEq, decide_eq_true_eq, beq_iff_eq, Bool.false_eq_true, if_true, if_false, reduceIte, wipeD, List.foldr_cons, List.foldr_nil, Nat.reduceLeDiff, List.cons.injEq, and_self, List.length_cons, List.length_nil] at h
        exact h
      refine merge2 (ED := { ED with nx := r__law_row_2 ED }) hQ ga gb hB fun ca' x14' C' g1 g2 h => ?_
      refine fin ca' cb x14' C' g1 ⟨b, m2⟩ g2 ?_
      have h := h.perm mv2.symm
      exact h.perm (Fr_perm (X := [_, _, _, _, _, _]) ((clE_perm hp2.symm).append_right L0))
  · exact fin ca ca _ C ga ⟨a, m1⟩ (fun k => by omega) hP
end
end K15

namespace K15
open PySem PySem.Spec PyProof.Rows KB
open L2 hiding op_eqD op_neD call_listD
section
variable {S : Addr → Prop} {C0 C : Cp} {L L0 L' L1 L2 : List Ent} {p q r a wa : Addr} {s : PS} {Q : DQ} {ED : DEnds} {ws : List (List Nat)} {m : Nat} {E : Exn → Cp → Prop}
theorem merge_look {A : List Addr} {k : List Nat} : ∀ (es : List (List Nat × Addr)) (acc : List (DKey × D)), (∀ x ∈ es, x.2 ∈ A) → ((k ∈ es.map (·.1)) ∨ ∃ a ∈ A, lookA acc (.inr k) = some (.ptr a)) → ∃ a ∈ A, lookA (mergeA acc (es.map fun x => (.inr x.1, D.ptr x.2))) (.inr k) = some (.ptr a)
  | [], acc, _, h => by
    rcases h with h | h
    · cases h
    · exact h
  | x :: es, acc, hA, h => by
    rw [List.map_cons, show mergeA acc ((Sum.inr x.1, D.ptr x.2) :: es.map fun x => (.inr x.1, D.ptr x.2)) = mergeA (putA acc (.inr x.1) (.ptr x.2)) (es.map fun x => (.inr x.1, D.ptr x.2)) from rfl]
    refine merge_look es _ (fun y hy => hA y (List.mem_cons_of_mem _ hy)) ?_
    by_cases e : k = x.1
    · refine .inr ⟨x.2, hA x List.mem_cons_self, ?_⟩
      rw [lookA_put, if_pos (by rw [e])]
    · rcases h with h | ⟨a, ha, h⟩
      · rw [List.map_cons] at h
        rcases List.mem_cons.mp h with h | h
        · exact absurd h e
        · exact .inl h
      · refine .inr ⟨a, ha, ?_⟩
        rw [lookA_put, if_neg (fun z => e (Sum.inr.inj z))]
        exact h
theorem St.sub (h : St S C0 C L) (e : L'.Sublist L) : St S C0 C L' := ⟨h.kp, fun x hx => h.at_ x (e.subset hx), (e.map _).nodup h.nd, fun x hx => h.wr x (e.subset hx)⟩
theorem mv4 {x1 x2 x3 x4 a : Ent} {R : List Ent} : (x1 :: x2 :: x3 :: x4 :: a :: R).Perm (a :: x1 :: x2 :: x3 :: x4 :: R) := (List.perm_append_comm (l₁ := [x1, x2, x3, x4]) (l₂ := [a])).append_right R
/-- new clocks -/
def nw (es : List (List Nat × Addr)) : List (Addr × Ck) := es.map fun x => (x.2, [])
theorem nw_snoc (es : List (List Nat × Addr)) (x : List Nat × Addr) : (clE (nw (es ++ [x]))).Perm ((x.2, .dk (ckD []), true) :: clE (nw es)) := by
  unfold clE nw
  rw [List.map_append, List.map_append]
  exact List.perm_append_singleton _ _
/-- what the deeds of a row saw of one another -/
structure RowF (rows : List Dd) : Prop where
  late : rows.Pairwise fun d e => gt d.seen e.st.2 < e.st.1
  self : ∀ d ∈ rows, gt d.seen d.st.2 < d.st.1
  same : rows.Pairwise fun e d => e.st.2 = d.st.2 → e.st.1 ≤ gt d.seen e.st.2
  caus : rows.Pairwise fun e d => e.st.1 ≤ gt d.seen e.st.2 → ∀ k, gt e.seen k ≤ gt d.seen k
theorem row (h : St S C0 C L) (d : Del L p (s.c r) true L1) (e : Del L1 r s.l true L2) (aw : At L2 wa (.lst (ws.map D.str))) (w0 : ws ≠ []) (w1 : ws.length < 50) (hw : ∀ w ∈ ws, w ∈ WORDS) (hm : m ≤ 20) (hn : s.n < 2 ^ 13)
    (k : ∀ (rows : List Dd) rw (s' : PS) C', rows.length = m → (rows.map (·.st)).Nodup → (∀ d ∈ rows, OkD (m * NB) rows d) → (∀ d ∈ rows, d.w.wd ∈ [109, 97, 107, 101] :: ws) → RowF rows → s'.n ≤ s.n + 1010 → St S C0 C' ((p, s'.c r, true) :: (r, s'.l, true) :: (rw, .lst (rows.map ddD), true) :: L2) → Q (.ptr rw) C') : D__law_row [.ptr p, .int m, .ptr wa] C Q E := by
  have h := two h d e
  unfold D__law_row runD r__law_row
  try simp only [dFor_e_p, dRng1_p, dRng2_p, dOver_p, dOverT_p, dOverS_p, dAltI_p, dEnum_p, dZip_p, dLc_e_p, dWhile_e_p, Int.toNat_natCast, dSeq_p, dChain_p, dOrT_p, dAndT_p, dNotT_p, dGetI_eq_p, Bool.not_true, Bool.not_false, dAsg_p, dOp_p, dVar_p, dC_p, gNm_p, gTp_p, gCn_p, gNl_p, dRet_p, dIf_p, dTest_p, dTru_p, dNot_p, dAnd_p, dOr_p, dNext_p, dDrop_p, dCons_p, dNil_p, dTup_p, dLst_e_p, dEmp_e_p, dEmpG_e_p, dDisp_e_p, dListZip_e_p, dGhE_e, dGh_e, dOverK_e, dFld_e, dSetF_e, dMake_e, dMeth_e, dPar_p, dPar3_p, dSetI_p, dCall_p, dCB_p, dBM_p, dBM0_p, dIfE_p, dNeg_p, dSl_p, dPart_p, dNoP_p, dAug_p, addI_p, dBreak_p, dCont_p, dAlt_p, dYes_p, dPairs_n, dPairs_c, gSubD_p, dBMd_p, addD_ii_p, addD_ss_p, addD_tt_p, subD_ii_p, mulD_ii_p, modD_ii_p, fdivD_ii_p, powE_ii_p, Int.reduceToNat, Int.reducePow, Int.reduceNeg, Int.neg_neg, ltD_ii_p, leD_ii_p, gtD_ii_p, geD_ii_p, ltD_ss_p, leD_ss_p, eqR_ii, eqR_ss, eqR_tt_p, eqR_bb, intR_b, intR_i, dFmt_e, dJs_n, dJs_c, strK_s, dJoined_p, fmtR_s, fmtR_i, strR_s, strR_i, lenR_t, lenR_s, tupleR_t, isNR_p, abs_ii, max_ii, min_ii, truD_b_p, slD_t_p, slD_s_p, inR_t, List.map, List.length, List.replicate, List.cons_append, List.nil_append, List.append_nil, List.getElem?_cons_succ, List.getElem?_cons_zero, Option.some.injEq, exists_eq_left', exists_eq_left, ex2, ex3, exists_eq', List.set_cons_succ, List.set_cons_zero, Nat.reduceAdd, Nat.reduceSub, true_and, and_true, D.bl.injEq, D.int.injEq, D.str.injEq, D.ptr.injEq, D.tup.injEq, decide_eq_true_eq, beq_iff_eq, Bool.false_eq_true, if_true, if_false, reduceIte, wipeD, List.foldr_cons, List.foldr_nil, Nat.reduceLeDiff, List.cons.injEq, and_self, List.length_cons, List.length_nil]
  refine alloc_st h fun pl C h => ?_
  refine alloc_st h fun rw C h => ?_
  try simp only [dFor_e_p, dRng1_p, dRng2_p, dOver_p, dOverT_p, dOverS_p, dAltI_p, dEnum_p, dZip_p, dLc_e_p, dWhile_e_p, Int.toNat_natCast, dSeq_p, dChain_p, dOrT_p, dAndT_p, dNotT_p, dGetI_eq_p, Bool.not_true, Bool.not_false, dAsg_p, dOp_p, dVar_p, dC_p, gNm_p, gTp_p, gCn_p, gNl_p, dRet_p, dIf_p, dTest_p, dTru_p, dNot_p, dAnd_p, dOr_p, dNext_p, dDrop_p, dCons_p, dNil_p, dTup_p, dLst_e_p, dEmp_e_p, dEmpG_e_p, dDisp_e_p, dListZip_e_p, dGhE_e, dGh_e, dOverK_e, dFld_e, dSetF_e, dMake_e, dMeth_e, dPar_p, dPar3_p, dSetI_p, dCall_p, dCB_p, dBM_p, dBM0_p, dIfE_p, dNeg_p, dSl_p, dPart_p, dNoP_p, dAug_p, addI_p, dBreak_p, dCont_p, dAlt_p, dYes_p, dPairs_n, dPairs_c, gSubD_p, dBMd_p, addD_ii_p, addD_ss_p, addD_tt_p, subD_ii_p, mulD_ii_p, modD_ii_p, fdivD_ii_p, powE_ii_p, Int.reduceToNat, Int.reducePow, Int.reduceNeg, Int.neg_neg, ltD_ii_p, leD_ii_p, gtD_ii_p, geD_ii_p, ltD_ss_p, leD_ss_p, eqR_ii, eqR_ss, eqR_tt_p, eqR_bb, intR_b, intR_i, dFmt_e, dJs_n, dJs_c, strK_s, dJoined_p, fmtR_s, fmtR_i, strR_s, strR_i, lenR_t, lenR_s, tupleR_t, isNR_p, abs_ii, max_ii, min_ii, truD_b_p, slD_t_p, slD_s_p, inR_t, List.map, List.length, List.replicate, List.cons_append, List.nil_append, List.append_nil, List.getElem?_cons_succ, List.getElem?_cons_zero, Option.some.injEq, exists_eq_left', exists_eq_left, ex2, ex3, exists_eq', List.set_cons_succ, List.set_cons_zero, Nat.reduceAdd, Nat.reduceSub, true_and, and_true, D.bl.injEq, D.int.injEq, D.str.injEq, D.ptr.injEq, D.tup.injEq, decide_eq_true_eq, beq_iff_eq, Bool.false_eq_true, if_true, if_false, reduceIte, wipeD, List.foldr_cons, List.foldr_nil, Nat.reduceLeDiff, List.cons.injEq, and_self, List.length_cons, List.length_nil]
  refine take h (by (repeat (first | exact KB.Del.here | assumption | apply KB.Del.there))) (by (repeat (first | exact KB.Del.here | assumption | apply KB.Del.there))) (by omega) (by decide) (by decide) fun t s1 C ht hs1 h => ?_
  try simp only [dFor_e_p, dRng1_p, dRng2_p, dOver_p, dOverT_p, dOverS_p, dAltI_p, dEnum_p, dZip_p, dLc_e_p, dWhile_e_p, Int.toNat_natCast, dSeq_p, dChain_p, dOrT_p, dAndT_p, dNotT_p, dGetI_eq_p, Bool.not_true, Bool.not_false, dAsg_p, dOp_p, dVar_p, dC_p, gNm_p, gTp_p, gCn_p, gNl_p, dRet_p, dIf_p, dTest_p, dTru_p, dNot_p, dAnd_p, dOr_p, dNext_p, dDrop_p, dCons_p, dNil_p, dTup_p, dLst_e_p, dEmp_e_p, dEmpG_e_p, dDisp_e_p, dListZip_e_p, dGhE_e, dGh_e, dOverK_e, dFld_e, dSetF_e, dMake_e, dMeth_e, dPar_p, dPar3_p, dSetI_p, dCall_p, dCB_p, dBM_p, dBM0_p, dIfE_p, dNeg_p, dSl_p, dPart_p, dNoP_p, dAug_p, addI_p, dBreak_p, dCont_p, dAlt_p, dYes_p, dPairs_n, dPairs_c, gSubD_p, dBMd_p, addD_ii_p, addD_ss_p, addD_tt_p, subD_ii_p, mulD_ii_p, modD_ii_p, fdivD_ii_p, powE_ii_p, Int.reduceToNat, Int.reducePow, Int.reduceNeg, Int.neg_neg, ltD_ii_p, leD_ii_p, gtD_ii_p, geD_ii_p, ltD_ss_p, leD_ss_p, eqR_ii, eqR_ss, eqR_tt_p, eqR_bb, intR_b, intR_i, dFmt_e, dJs_n, dJs_c, strK_s, dJoined_p, fmtR_s, fmtR_i, strR_s, strR_i, lenR_t, lenR_s, tupleR_t, isNR_p, abs_ii, max_ii, min_ii, truD_b_p, slD_t_p, slD_s_p, inR_t, List.map, List.length, List.replicate, List.cons_append, List.nil_append, List.append_nil, List.getElem?_cons_succ, List.getElem?_cons_zero, Option.some.injEq, exists_eq_left', exists_eq_left, ex2, ex3, exists_eq', List.set_cons_succ, List.set_cons_zero, Nat.reduceAdd, Nat.reduceSub, true_and, and_true, D.bl.injEq, D.int.injEq, D.str.injEq, D.ptr.injEq, D.tup.injEq, decide_eq_true_eq, beq_iff_eq, Bool.false_eq_true, if_true, if_false, reduceIte, wipeD, List.foldr_cons, List.foldr_nil, Nat.reduceLeDiff, List.cons.injEq, and_self, List.length_cons, List.length_nil]
  refine ⟨by omega, by omega, ?_⟩
  have et : (1 + (t : Int)).toNat = t + 1 := by omega
  rw [et]
  refine forR_st (t + 1) (fun i sl C => ∃ (x3 x4 x5 x8 x9 x10 x11 x12 x13 x14 x15 : Option D) (ps : List (List Nat)) (s' : PS), sl = [some (.ptr p), some (.int m), some (.ptr wa), x3, x4, x5, some (.ptr pl), some (.ptr rw), x8, x9, x10, x11, x12, x13, x14, x15] ∧ ps.length = i ∧ (∀ x ∈ ps, x ∈ KEYS ∧ x ≠ GH) ∧ s'.n ≤ s.n + 1 + i ∧ St S C0 C ((p, s'.c r, true) :: (r, s'.l, true) :: (rw, .lst [], true) :: (pl, .lst (ps.map D.str), true) :: L2))
    ⟨none, none, none, none, none, none, none, none, none, none, none, [], s1, rfl, rfl, (fun x hx => by cases hx), by omega, h⟩ (fun _ => trivial) (fun i sl C hi hI => ?_) fun sl C hI => ?_
  · obtain ⟨x3, x4, x5, x8, x9, x10, x11, x12, x13, x14, x15, ps, s', rfl, hl, hP, hn', h⟩ := hI
    unfold l__law_row_1
    try simp only [dFor_e_p, dRng1_p, dRng2_p, dOver_p, dOverT_p, dOverS_p, dAltI_p, dEnum_p, dZip_p, dLc_e_p, dWhile_e_p, Int.toNat_natCast, dSeq_p, dChain_p, dOrT_p, dAndT_p, dNotT_p, dGetI_eq_p, Bool.not_true, Bool.not_false, dAsg_p, dOp_p, dVar_p, dC_p, gNm_p, gTp_p, gCn_p, gNl_p, dRet_p, dIf_p, dTest_p, dTru_p, dNot_p, dAnd_p, dOr_p, dNext_p, dDrop_p, dCons_p, dNil_p, dTup_p, dLst_e_p, dEmp_e_p, dEmpG_e_p, dDisp_e_p, dListZip_e_p, dGhE_e, dGh_e, dOverK_e, dFld_e, dSetF_e, dMake_e, dMeth_e, dPar_p, dPar3_p, dSetI_p, dCall_p, dCB_p, dBM_p, dBM0_p, dIfE_p, dNeg_p, dSl_p, dPart_p, dNoP_p, dAug_p, addI_p, dBreak_p, dCont_p, dAlt_p, dYes_p, dPairs_n, dPairs_c, gSubD_p, dBMd_p, addD_ii_p, addD_ss_p, addD_tt_p, subD_ii_p, mulD_ii_p, modD_ii_p, fdivD_ii_p, powE_ii_p, Int.reduceToNat, Int.reducePow, Int.reduceNeg, Int.neg_neg, ltD_ii_p, leD_ii_p, gtD_ii_p, geD_ii_p, ltD_ss_p, leD_ss_p, eqR_ii, eqR_ss, eqR_tt_p, eqR_bb, intR_b, intR_i, dFmt_e, dJs_n, dJs_c, strK_s, dJoined_p, fmtR_s, fmtR_i, strR_s, strR_i, lenR_t, lenR_s, tupleR_t, isNR_p, abs_ii, max_ii, min_ii, truD_b_p, slD_t_p, slD_s_p, inR_t, List.map, List.length, List.replicate, List.cons_append, List.nil_append, List.append_nil, List.getElem?_cons_succ, List.getElem?_cons_zero, Option.some.injEq, exists_eq_left', exists_eq_left, ex2, ex3, exists_eq', List.set_cons_succ, List.set_cons_zero, Nat.reduceAdd, Nat.reduceSub, true_and, and_true, D.bl.injEq, D.int.injEq, D.str.injEq, D.ptr.injEq, D.tup.injEq, decide_eq_true_eq, beq_iff_eq, Bool.false_eq_true, if_true, if_false, reduceIte, wipeD, List.foldr_cons, List.foldr_nil, Nat.reduceLeDiff, List.cons.injEq, and_self, List.length_cons, List.length_nil]
    refine ⟨ty_st h (by (repeat (first | exact KB.At.here | assumption | apply KB.At.there))), alloc_st h fun z C h => ?_⟩
    try simp only [dFor_e_p, dRng1_p, dRng2_p, dOver_p, dOverT_p, dOverS_p, dAltI_p, dEnum_p, dZip_p, dLc_e_p, dWhile_e_p, Int.toNat_natCast, dSeq_p, dChain_p, dOrT_p, dAndT_p, dNotT_p, dGetI_eq_p, Bool.not_true, Bool.not_false, dAsg_p, dOp_p, dVar_p, dC_p, gNm_p, gTp_p, gCn_p, gNl_p, dRet_p, dIf_p, dTest_p, dTru_p, dNot_p, dAnd_p, dOr_p, dNext_p, dDrop_p, dCons_p, dNil_p, dTup_p, dLst_e_p, dEmp_e_p, dEmpG_e_p, dDisp_e_p, dListZip_e_p, dGhE_e, dGh_e, dOverK_e, dFld_e, dSetF_e, dMake_e, dMeth_e, dPar_p, dPar3_p, dSetI_p, dCall_p, dCB_p, dBM_p, dBM0_p, dIfE_p, dNeg_p, dSl_p, dPart_p, dNoP_p, dAug_p, addI_p, dBreak_p, dCont_p, dAlt_p, dYes_p, dPairs_n, dPairs_c, gSubD_p, dBMd_p, addD_ii_p, addD_ss_p, addD_tt_p, subD_ii_p, mulD_ii_p, modD_ii_p, fdivD_ii_p, powE_ii_p, Int.reduceToNat, Int.reducePow, Int.reduceNeg, Int.neg_neg, ltD_ii_p, leD_ii_p, gtD_ii_p, geD_ii_p, ltD_ss_p, leD_ss_p, eqR_ii, eqR_ss, eqR_tt_p, eqR_bb, intR_b, intR_i, dFmt_e, dJs_n, dJs_c, strK_s, dJoined_p, fmtR_s, fmtR_i, strR_s, strR_i, lenR_t, lenR_s, tupleR_t, isNR_p, abs_ii, max_ii, min_ii, truD_b_p, slD_t_p, slD_s_p, inR_t, List.map, List.length, List.replicate, List.cons_append, List.nil_append, List.append_nil, List.getElem?_cons_succ, List.getElem?_cons_zero, Option.some.injEq, exists_eq_left', exists_eq_left, ex2, ex3, exists_eq', List.set_cons_succ, List.set_cons_zero, Nat.reduceAdd, Nat.reduceSub, true_and, and_true, D.bl.injEq, D.int.injEq, D.str.injEq, D.ptr.injEq, D.tup.injEq, decide_eq_true_eq, beq_iff_eq, Bool.false_eq_true, if_true, if_false, reduceIte, wipeD, List.foldr_cons, List.foldr_nil, Nat.reduceLeDiff, List.cons.injEq, and_self, List.length_cons, List.length_nil]
    refine ⟨CMulW_small (by omega), take h (by (repeat (first | exact KB.Del.here | assumption | apply KB.Del.there))) (by (repeat (first | exact KB.Del.here | assumption | apply KB.Del.there))) (by omega) (by decide) (by decide) fun t2 s2 C ht2 hs2 h => ?_⟩
    try simp only [dFor_e_p, dRng1_p, dRng2_p, dOver_p, dOverT_p, dOverS_p, dAltI_p, dEnum_p, dZip_p, dLc_e_p, dWhile_e_p, Int.toNat_natCast, dSeq_p, dChain_p, dOrT_p, dAndT_p, dNotT_p, dGetI_eq_p, Bool.not_true, Bool.not_false, dAsg_p, dOp_p, dVar_p, dC_p, gNm_p, gTp_p, gCn_p, gNl_p, dRet_p, dIf_p, dTest_p, dTru_p, dNot_p, dAnd_p, dOr_p, dNext_p, dDrop_p, dCons_p, dNil_p, dTup_p, dLst_e_p, dEmp_e_p, dEmpG_e_p, dDisp_e_p, dListZip_e_p, dGhE_e, dGh_e, dOverK_e, dFld_e, dSetF_e, dMake_e, dMeth_e, dPar_p, dPar3_p, dSetI_p, dCall_p, dCB_p, dBM_p, dBM0_p, dIfE_p, dNeg_p, dSl_p, dPart_p, dNoP_p, dAug_p, addI_p, dBreak_p, dCont_p, dAlt_p, dYes_p, dPairs_n, dPairs_c, gSubD_p, dBMd_p, addD_ii_p, addD_ss_p, addD_tt_p, subD_ii_p, mulD_ii_p, modD_ii_p, fdivD_ii_p, powE_ii_p, Int.reduceToNat, Int.reducePow, Int.reduceNeg, Int.neg_neg, ltD_ii_p, leD_ii_p, gtD_ii_p, geD_ii_p, ltD_ss_p, leD_ss_p, eqR_ii, eqR_ss, eqR_tt_p, eqR_bb, intR_b, intR_i, dFmt_e, dJs_n, dJs_c, strK_s, dJoined_p, fmtR_s, fmtR_i, strR_s, strR_i, lenR_t, lenR_s, tupleR_t, isNR_p, abs_ii, max_ii, min_ii, truD_b_p, slD_t_p, slD_s_p, inR_t, List.map, List.length, List.replicate, List.cons_append, List.nil_append, List.append_nil, List.getElem?_cons_succ, List.getElem?_cons_zero, Option.some.injEq, exists_eq_left', exists_eq_left, ex2, ex3, exists_eq', List.set_cons_succ, List.set_cons_zero, Nat.reduceAdd, Nat.reduceSub, true_and, and_true, D.bl.injEq, D.int.injEq, D.str.injEq, D.ptr.injEq, D.tup.injEq, decide_eq_true_eq, beq_iff_eq, Bool.false_eq_true, if_true, if_false, reduceIte, wipeD, List.foldr_cons, List.foldr_nil, Nat.reduceLeDiff, List.cons.injEq, and_self, List.length_cons, List.length_nil]
    refine ⟨by decide, ?_⟩
    obtain ⟨j, hj⟩ : ∃ j : Nat, (3 * (i : Int) + (t2 : Int)) % 7 = j := ⟨((3 * (i : Int) + (t2 : Int)) % 7).toNat, by omega⟩
    have hj7 : j < 7 := by omega
    rw [hj]
    have hx : ∃ l, [D.str [98], D.str [97], D.str [112, 108, 97, 99, 101, 45, 97, 98, 99, 100, 101, 102], D.str [112, 108, 97, 99, 101, 45, 97, 98, 99, 100, 101, 103], D.str [57], D.str [49, 48], D.str [122, 122]][j]? = some (.str l) ∧ l ∈ KEYS ∧ l ≠ GH := by
      match j, hj7 with
      | 0, _ => exact ⟨_, rfl, by decide, by decide⟩
      | 1, _ => exact ⟨_, rfl, by decide, by decide⟩
      | 2, _ => exact ⟨_, rfl, by decide, by decide⟩
      | 3, _ => exact ⟨_, rfl, by decide, by decide⟩
      | 4, _ => exact ⟨_, rfl, by decide, by decide⟩
      | 5, _ => exact ⟨_, rfl, by decide, by decide⟩
      | 6, _ => exact ⟨_, rfl, by decide, by decide⟩
    obtain ⟨l, hx, hlk⟩ := hx
    refine ix_st h (by (repeat (first | exact KB.At.here | assumption | apply KB.At.there))) (atI_nat hx) ?_
    have h := pr3 h
    refine app_st (xs := ps.map D.str) h (by rw [List.length_map, sizeLine_eq]; omega) (.there (.there (.there .here))) fun C h => ?_
    refine ⟨C, Sub.refl _, _, _, _, _, _, _, _, _, _, _, _, ps ++ [l], s2, ⟨rfl, rfl, rfl, rfl, rfl, rfl, rfl, rfl, rfl, rfl, rfl⟩, by rw [List.length_append, hl]; rfl, fun x hx => ?_, by omega, by rw [List.map_append]; exact h⟩
    rcases List.mem_append.mp hx with hx | hx
    · exact hP x hx
    · rw [List.mem_singleton.mp hx]; exact hlk
  obtain ⟨x3, x4, x5, x8, x9, x10, x11, x12, x13, x14, x15, ps, s2, rfl, hl, hP, hn', h⟩ := hI
  unfold r__law_row_4
  try simp only [dFor_e_p, dRng1_p, dRng2_p, dOver_p, dOverT_p, dOverS_p, dAltI_p, dEnum_p, dZip_p, dLc_e_p, dWhile_e_p, Int.toNat_natCast, dSeq_p, dChain_p, dOrT_p, dAndT_p, dNotT_p, dGetI_eq_p, Bool.not_true, Bool.not_false, dAsg_p, dOp_p, dVar_p, dC_p, gNm_p, gTp_p, gCn_p, gNl_p, dRet_p, dIf_p, dTest_p, dTru_p, dNot_p, dAnd_p, dOr_p, dNext_p, dDrop_p, dCons_p, dNil_p, dTup_p, dLst_e_p, dEmp_e_p, dEmpG_e_p, dDisp_e_p, dListZip_e_p, dGhE_e, dGh_e, dOverK_e, dFld_e, dSetF_e, dMake_e, dMeth_e, dPar_p, dPar3_p, dSetI_p, dCall_p, dCB_p, dBM_p, dBM0_p, dIfE_p, dNeg_p, dSl_p, dPart_p, dNoP_p, dAug_p, addI_p, dBreak_p, dCont_p, dAlt_p, dYes_p, dPairs_n, dPairs_c, gSubD_p, dBMd_p, addD_ii_p, addD_ss_p, addD_tt_p, subD_ii_p, mulD_ii_p, modD_ii_p, fdivD_ii_p, powE_ii_p, Int.reduceToNat, Int.reducePow, Int.reduceNeg, Int.neg_neg, ltD_ii_p, leD_ii_p, gtD_ii_p, geD_ii_p, ltD_ss_p, leD_ss_p, eqR_ii, eqR_ss, eqR_tt_p, eqR_bb, intR_b, intR_i, dFmt_e, dJs_n, dJs_c, strK_s, dJoined_p, fmtR_s, fmtR_i, strR_s, strR_i, lenR_t, lenR_s, tupleR_t, isNR_p, abs_ii, max_ii, min_ii, truD_b_p, slD_t_p, slD_s_p, inR_t, List.map, List.length, List.replicate, List.cons_append, List.nil_append, List.append_nil, List.getElem?_cons_succ, List.getElem?_cons_zero, Option.some.injEq, exists_eq_left', exists_eq_left, ex2, ex3, exists_eq', List.set_cons_succ, List.set_cons_zero, Nat.reduceAdd, Nat.reduceSub, true_and, and_true, D.bl.injEq, D.int.injEq, D.str.injEq, D.ptr.injEq, D.tup.injEq, decide_eq_true_eq, beq_iff_eq, Bool.false_eq_true, if_true, if_false, reduceIte, wipeD, List.foldr_cons, List.foldr_nil, Nat.reduceLeDiff, List.cons.injEq, and_self, List.length_cons, List.length_nil]
  refine ⟨ps.map D.str, .inl (h.get (by (repeat (first | exact KB.At.here | assumption | apply KB.At.there)))), ?_⟩
  refine lc_st (fun i acc C => ∃ (es : List (List Nat × Addr)), acc = es.map (fun x => D.tup [.str x.1, .ptr x.2]) ∧ es.map (·.1) = ps.take i ∧ St S C0 C ((p, s2.c r, true) :: (r, s2.l, true) :: (rw, .lst [], true) :: (pl, .lst (ps.map D.str), true) :: (clE (nw es) ++ L2)))
    ⟨[], rfl, rfl, h⟩ (fun i acc C ⟨es, _, _, h⟩ => .inl (h.get (by (repeat (first | exact KB.At.here | assumption | apply KB.At.there))))) (fun i x acc C hi hx ha hI => ?_) (by rw [List.length_map, sizeLine_eq]; omega) fun acc C hI => ?_
  · obtain ⟨es, rfl, he, h⟩ := hI
    rw [List.length_map] at hi
    rw [List.getElem?_map, List.getElem?_eq_getElem hi] at hx
    cases hx
    try simp only [dFor_e_p, dRng1_p, dRng2_p, dOver_p, dOverT_p, dOverS_p, dAltI_p, dEnum_p, dZip_p, dLc_e_p, dWhile_e_p, Int.toNat_natCast, dSeq_p, dChain_p, dOrT_p, dAndT_p, dNotT_p, dGetI_eq_p, Bool.not_true, Bool.not_false, dAsg_p, dOp_p, dVar_p, dC_p, gNm_p, gTp_p, gCn_p, gNl_p, dRet_p, dIf_p, dTest_p, dTru_p, dNot_p, dAnd_p, dOr_p, dNext_p, dDrop_p, dCons_p, dNil_p, dTup_p, dLst_e_p, dEmp_e_p, dEmpG_e_p, dDisp_e_p, dListZip_e_p, dGhE_e, dGh_e, dOverK_e, dFld_e, dSetF_e, dMake_e, dMeth_e, dPar_p, dPar3_p, dSetI_p, dCall_p, dCB_p, dBM_p, dBM0_p, dIfE_p, dNeg_p, dSl_p, dPart_p, dNoP_p, dAug_p, addI_p, dBreak_p, dCont_p, dAlt_p, dYes_p, dPairs_n, dPairs_c, gSubD_p, dBMd_p, addD_ii_p, addD_ss_p, addD_tt_p, subD_ii_p, mulD_ii_p, modD_ii_p, fdivD_ii_p, powE_ii_p, Int.reduceToNat, Int.reducePow, Int.reduceNeg, Int.neg_neg, ltD_ii_p, leD_ii_p, gtD_ii_p, geD_ii_p, ltD_ss_p, leD_ss_p, eqR_ii, eqR_ss, eqR_tt_p, eqR_bb, intR_b, intR_i, dFmt_e, dJs_n, dJs_c, strK_s, dJoined_p, fmtR_s, fmtR_i, strR_s, strR_i, lenR_t, lenR_s, tupleR_t, isNR_p, abs_ii, max_ii, min_ii, truD_b_p, slD_t_p, slD_s_p, inR_t, List.map, List.length, List.replicate, List.cons_append, List.nil_append, List.append_nil, List.getElem?_cons_succ, List.getElem?_cons_zero, Option.some.injEq, exists_eq_left', exists_eq_left, ex2, ex3, exists_eq', List.set_cons_succ, List.set_cons_zero, Nat.reduceAdd, Nat.reduceSub, true_and, and_true, D.bl.injEq, D.int.injEq, D.str.injEq, D.ptr.injEq, D.tup.injEq, decide_eq_true_eq, beq_iff_eq, Bool.false_eq_true, if_true, if_false, reduceIte, wipeD, List.foldr_cons, List.foldr_nil, Nat.reduceLeDiff, List.cons.injEq, and_self, List.length_cons, List.length_nil]
    refine alloc_st h fun a C h => ?_
    refine ⟨C, Sub.refl _, es ++ [(ps[i], a)], by rw [List.map_append]; rfl, ?_, ?_⟩
    · rw [List.map_append, he, List.take_add_one, List.getElem?_eq_getElem hi]
      rfl
    · have h := h.perm mv4.symm
      exact h.perm (Fr_perm (X := [_, _, _, _]) ((nw_snoc es (ps[i], a)).symm.append_right L2))
  obtain ⟨es, rfl, he, h⟩ := hI
  rw [List.length_map, List.take_of_length_le (Nat.le_refl _)] at he
  refine alloc_st h fun q C h => ?_
  refine ⟨q, es.map fun x => (.inr x.1, .ptr x.2), rfl, .inl (by rw [List.map_map]; exact h.get .here), fun ct hct => ?_⟩
  generalize htb : mergeA [] (es.map fun x => (Sum.inr x.1, D.ptr x.2)) = tb
  have h := h.new (c := .dk tb) hct
  have hT : Tab tb ps (nw es) := fun x hx => by
    obtain ⟨a, ha, e⟩ := merge_look (A := es.map (·.2)) (k := x) es [] (fun y hy => List.mem_map.mpr ⟨y, hy, rfl⟩) (.inl (by rw [he]; exact hx))
    rw [htb] at e
    obtain ⟨y, hy, rfl⟩ := List.mem_map.mp ha
    exact ⟨_, [], e, List.mem_map.mpr ⟨y, hy, rfl⟩⟩
  have h := h.snd
  have h := h.perm (mv4 (R := clE (nw es) ++ L2)).symm
  generalize hcs : nw es = cs at h hT
  have h0 : ∀ x ∈ cs, x.2 = [] := fun x hx => by
    rw [← hcs] at hx
    obtain ⟨y, _, rfl⟩ := List.mem_map.mp hx
    rfl
  have hR : RowI tb ps (((0 : Nat) : Int) * NB) [] cs := ⟨fun x hx => by
    rw [← hcs] at hx
    obtain ⟨y, _, rfl⟩ := List.mem_map.mp hx
    exact Gd.nil, (fun d hd => by cases hd), List.nodup_nil, (fun d hd => by cases hd), (fun P hP a cP _ hin => ⟨fun x hx => by rw [h0 x hx, show cP = [] from h0 _ hin]; exact Int.le_refl _, fun d hd => by cases hd⟩), (fun x hx d hd => by cases hd), (fun d hd => by cases hd), .nil, (fun d hd => by cases hd), .nil, .nil⟩
  clear hcs htb hct
  generalize up C ct (.dk tb) = C1 at h
  try simp only [dFor_e_p, dRng1_p, dRng2_p, dOver_p, dOverT_p, dOverS_p, dAltI_p, dEnum_p, dZip_p, dLc_e_p, dWhile_e_p, Int.toNat_natCast, dSeq_p, dChain_p, dOrT_p, dAndT_p, dNotT_p, dGetI_eq_p, Bool.not_true, Bool.not_false, dAsg_p, dOp_p, dVar_p, dC_p, gNm_p, gTp_p, gCn_p, gNl_p, dRet_p, dIf_p, dTest_p, dTru_p, dNot_p, dAnd_p, dOr_p, dNext_p, dDrop_p, dCons_p, dNil_p, dTup_p, dLst_e_p, dEmp_e_p, dEmpG_e_p, dDisp_e_p, dListZip_e_p, dGhE_e, dGh_e, dOverK_e, dFld_e, dSetF_e, dMake_e, dMeth_e, dPar_p, dPar3_p, dSetI_p, dCall_p, dCB_p, dBM_p, dBM0_p, dIfE_p, dNeg_p, dSl_p, dPart_p, dNoP_p, dAug_p, addI_p, dBreak_p, dCont_p, dAlt_p, dYes_p, dPairs_n, dPairs_c, gSubD_p, dBMd_p, addD_ii_p, addD_ss_p, addD_tt_p, subD_ii_p, mulD_ii_p, modD_ii_p, fdivD_ii_p, powE_ii_p, Int.reduceToNat, Int.reducePow, Int.reduceNeg, Int.neg_neg, ltD_ii_p, leD_ii_p, gtD_ii_p, geD_ii_p, ltD_ss_p, leD_ss_p, eqR_ii, eqR_ss, eqR_tt_p, eqR_bb, intR_b, intR_i, dFmt_e, dJs_n, dJs_c, strK_s, dJoined_p, fmtR_s, fmtR_i, strR_s, strR_i, lenR_t, lenR_s, tupleR_t, isNR_p, abs_ii, max_ii, min_ii, truD_b_p, slD_t_p, slD_s_p, inR_t, List.map, List.length, List.replicate, List.cons_append, List.nil_append, List.append_nil, List.getElem?_cons_succ, List.getElem?_cons_zero, Option.some.injEq, exists_eq_left', exists_eq_left, ex2, ex3, exists_eq', List.set_cons_succ, List.set_cons_zero, Nat.reduceAdd, Nat.reduceSub, true_and, and_true, D.bl.injEq, D.int.injEq, D.str.injEq, D.ptr.injEq, D.tup.injEq, decide_eq_true_eq, beq_iff_eq, Bool.false_eq_true, if_true, if_false, reduceIte, wipeD, List.foldr_cons, List.foldr_nil, Nat.reduceLeDiff, List.cons.injEq, and_self, List.length_cons, List.length_nil]
  refine ⟨by omega, by omega, ?_⟩
  refine forR_st m (fun i sl C => ∃ (x3 x5 x8 x9 x10 x11 x12 x13 x14 x15 : Option D) (rows : List Dd) (cs : List (Addr × Ck)) (s' : PS), sl = [some (.ptr p), some (.int m), some (.ptr wa), x3, some (.ptr ct), x5, some (.ptr pl), some (.ptr rw), x8, x9, x10, x11, x12, x13, x14, x15] ∧ rows.length = i ∧ Tab tb ps cs ∧ RowI tb ps (i * NB) rows cs ∧ (∀ d ∈ rows, d.w.wd ∈ [109, 97, 107, 101] :: ws) ∧ s'.n ≤ s.n + 10 + 50 * i ∧ St S C0 C (Fr5 p r rw pl ct s' rows ps tb (clE cs ++ L2)))
    ⟨_, _, _, _, _, _, _, _, _, _, [], cs, s2, rfl, rfl, hT, hR, (fun d hd => by cases hd), by omega, h⟩ (fun _ => trivial) (fun i sl C hi hI => ?_) fun sl C hI => ?_
  · obtain ⟨x3, x5, x8, x9, x10, x11, x12, x13, x14, x15, rows, cs, s3, rfl, rl, hT, hR, hwd, hn3, h⟩ := hI
    have i0 : 0 ≤ (i : Int) * NB := Int.mul_nonneg (by omega) (by decide)
    try simp only [dFor_e_p, dRng1_p, dRng2_p, dOver_p, dOverT_p, dOverS_p, dAltI_p, dEnum_p, dZip_p, dLc_e_p, dWhile_e_p, Int.toNat_natCast, dSeq_p, dChain_p, dOrT_p, dAndT_p, dNotT_p, dGetI_eq_p, Bool.not_true, Bool.not_false, dAsg_p, dOp_p, dVar_p, dC_p, gNm_p, gTp_p, gCn_p, gNl_p, dRet_p, dIf_p, dTest_p, dTru_p, dNot_p, dAnd_p, dOr_p, dNext_p, dDrop_p, dCons_p, dNil_p, dTup_p, dLst_e_p, dEmp_e_p, dEmpG_e_p, dDisp_e_p, dListZip_e_p, dGhE_e, dGh_e, dOverK_e, dFld_e, dSetF_e, dMake_e, dMeth_e, dPar_p, dPar3_p, dSetI_p, dCall_p, dCB_p, dBM_p, dBM0_p, dIfE_p, dNeg_p, dSl_p, dPart_p, dNoP_p, dAug_p, addI_p, dBreak_p, dCont_p, dAlt_p, dYes_p, dPairs_n, dPairs_c, gSubD_p, dBMd_p, addD_ii_p, addD_ss_p, addD_tt_p, subD_ii_p, mulD_ii_p, modD_ii_p, fdivD_ii_p, powE_ii_p, Int.reduceToNat, Int.reducePow, Int.reduceNeg, Int.neg_neg, ltD_ii_p, leD_ii_p, gtD_ii_p, geD_ii_p, ltD_ss_p, leD_ss_p, eqR_ii, eqR_ss, eqR_tt_p, eqR_bb, intR_b, intR_i, dFmt_e, dJs_n, dJs_c, strK_s, dJoined_p, fmtR_s, fmtR_i, strR_s, strR_i, lenR_t, lenR_s, tupleR_t, isNR_p, abs_ii, max_ii, min_ii, truD_b_p, slD_t_p, slD_s_p, inR_t, List.map, List.length, List.replicate, List.cons_append, List.nil_append, List.append_nil, List.getElem?_cons_succ, List.getElem?_cons_zero, Option.some.injEq, exists_eq_left', exists_eq_left, ex2, ex3, exists_eq', List.set_cons_succ, List.set_cons_zero, Nat.reduceAdd, Nat.reduceSub, true_and, and_true, D.bl.injEq, D.int.injEq, D.str.injEq, D.ptr.injEq, D.tup.injEq, decide_eq_true_eq, beq_iff_eq, Bool.false_eq_true, if_true, if_false, reduceIte, wipeD, List.foldr_cons, List.foldr_nil, Nat.reduceLeDiff, List.cons.injEq, and_self, List.length_cons, List.length_nil]
    refine turn3 h aw w0 w1 hw (by omega) (by omega) (fun z => by rw [z] at hl; cases hl) (by omega) (fun x hx => (hP x hx).1) (fun x hx => (hP x hx).2) hT i0 hR fun d cs' s4 x8 x9 x10 x11 x12 x13 x14 x15 C' t1 t2 t3 t4 h => ?_
    refine ⟨C', Sub.refl _, _, _, _, _, _, _, _, _, _, _, rows ++ [d], cs', s4, rfl, by rw [List.length_append, rl]; rfl, t1, ?_, fun e he => ?_, by omega, h⟩
    · have : ((i + 1 : Nat) : Int) * NB = (i : Int) * NB + NB := by rw [Int.natCast_add, Int.add_mul]; omega
      rw [this]
      exact t2
    · rcases List.mem_append.mp he with he | he
      · exact hwd e he
      · rw [List.mem_singleton.mp he]; exact t3
  · obtain ⟨x3, x5, x8, x9, x10, x11, x12, x13, x14, x15, rows, cs, s3, rfl, rl, hT, hR, hwd, hn3, h⟩ := hI
    unfold r__law_row_3
    try simp only [dFor_e_p, dRng1_p, dRng2_p, dOver_p, dOverT_p, dOverS_p, dAltI_p, dEnum_p, dZip_p, dLc_e_p, dWhile_e_p, Int.toNat_natCast, dSeq_p, dChain_p, dOrT_p, dAndT_p, dNotT_p, dGetI_eq_p, Bool.not_true, Bool.not_false, dAsg_p, dOp_p, dVar_p, dC_p, gNm_p, gTp_p, gCn_p, gNl_p, dRet_p, dIf_p, dTest_p, dTru_p, dNot_p, dAnd_p, dOr_p, dNext_p, dDrop_p, dCons_p, dNil_p, dTup_p, dLst_e_p, dEmp_e_p, dEmpG_e_p, dDisp_e_p, dListZip_e_p, dGhE_e, dGh_e, dOverK_e, dFld_e, dSetF_e, dMake_e, dMeth_e, dPar_p, dPar3_p, dSetI_p, dCall_p, dCB_p, dBM_p, dBM0_p, dIfE_p, dNeg_p, dSl_p, dPart_p, dNoP_p, dAug_p, addI_p, dBreak_p, dCont_p, dAlt_p, dYes_p, dPairs_n, dPairs_c, gSubD_p, dBMd_p, addD_ii_p, addD_ss_p, addD_tt_p, subD_ii_p, mulD_ii_p, modD_ii_p, fdivD_ii_p, powE_ii_p, Int.reduceToNat, Int.reducePow, Int.reduceNeg, Int.neg_neg, ltD_ii_p, leD_ii_p, gtD_ii_p, geD_ii_p, ltD_ss_p, leD_ss_p, eqR_ii, eqR_ss, eqR_tt_p, eqR_bb, intR_b, intR_i, dFmt_e, dJs_n, dJs_c, strK_s, dJoined_p, fmtR_s, fmtR_i, strR_s, strR_i, lenR_t, lenR_s, tupleR_t, isNR_p, abs_ii, max_ii, min_ii, truD_b_p, slD_t_p, slD_s_p, inR_t, List.map, List.length, List.replicate, List.cons_append, List.nil_append, List.append_nil, List.getElem?_cons_succ, List.getElem?_cons_zero, Option.some.injEq, exists_eq_left', exists_eq_left, ex2, ex3, exists_eq', List.set_cons_succ, List.set_cons_zero, Nat.reduceAdd, Nat.reduceSub, true_and, and_true, D.bl.injEq, D.int.injEq, D.str.injEq, D.ptr.injEq, D.tup.injEq, decide_eq_true_eq, beq_iff_eq, Bool.false_eq_true, if_true, if_false, reduceIte, wipeD, List.foldr_cons, List.foldr_nil, Nat.reduceLeDiff, List.cons.injEq, and_self, List.length_cons, List.length_nil]
    refine ret_k (k rows rw s3 C rl hR.nd hR.ok hwd ⟨hR.late, hR.self, hR.same, hR.caus⟩ (by omega) (St.sub h ?_))
    exact .cons₂ _ (.cons₂ _ (.cons₂ _ (.cons _ (.cons _ (List.sublist_append_right _ _)))))
end
end K15

namespace K15
open PySem PySem.Spec PyProof.Rows KB
open L2 hiding op_eqD op_neD call_listD
section
variable {S : Addr → Prop} {C0 C : Cp} {L L0 L' L1 L2 : List Ent} {p q r a wa : Addr} {s : PS} {Q : DQ} {ED : DEnds} {E : Exn → Cp → Prop} {d : Dd}
theorem put_new {c : Ck} {k : List Nat} {v : Int} (h : k ∉ c.map (·.1)) : putA c k v = c ++ [(k, v)] := by
  unfold putA
  rw [if_neg]
  intro z
  obtain ⟨x, hx, e⟩ := List.any_eq_true.mp z
  exact h (List.mem_map.mpr ⟨x, hx, by simpa using e⟩)
theorem merge_nd : ∀ (c acc : Ck), ((acc ++ c).map (·.1)).Nodup → mergeA (ckD acc) (ckD c) = ckD (acc ++ c)
  | [], acc, _ => by rw [List.append_nil]; rfl
  | x :: r, acc, h => by
    have hx : x.1 ∉ acc.map (·.1) := fun z => by
      rw [List.map_append, List.map_cons] at h
      exact (List.nodup_append.mp h).2.2 _ z _ List.mem_cons_self rfl
    rw [show mergeA (ckD acc) (ckD (x :: r)) = mergeA (putA (ckD acc) (.inr x.1) (.int x.2)) (ckD r) from rfl, ck_put, put_new hx, merge_nd r (acc ++ [(x.1, x.2)]) (by rw [List.append_assoc]; exact h), List.append_assoc]
    rfl
theorem dictT_st {c : Ck} (nd : (c.map (·.1)).Nodup) (h : St S C0 C L) (k : ∀ q C', St S C0 C' ((q, .dk (ckD c), true) :: L) → Q (.ptr q) C') : dictTR [.tup (c.map seD)] C Q := by
  refine ⟨ckD c, by rw [items_ck], fun q hq => ?_⟩
  have h := h.new (c := .dk (mergeA [] (ckD c))) hq
  have e : mergeA [] (ckD c) = ckD c := merge_nd c [] nd
  rw [e] at h ⊢
  exact k q _ h
theorem saw {sm : Sm} (h : St S C0 C L) (nd : (d.seen.map (·.1)).Nodup) (k : ∀ C', St S C0 C' L → Q (.bl (decide (gt d.seen sm.2 ≥ sm.1))) C') : D_saw [ddD d, stD sm] C Q E := by
  unfold D_saw runD r_saw
  rw [show ddD d = .tup [stD d.st, .tup (d.seen.map seD), .str d.w.wd, d.w.x, d.w.y] from rfl, show stD sm = .tup [.int sm.1, .str sm.2] from rfl]
  try simp only [dFor_e_p, dRng1_p, dRng2_p, dOver_p, dOverT_p, dOverS_p, dAltI_p, dEnum_p, dZip_p, dLc_e_p, dWhile_e_p, Int.toNat_natCast, dSeq_p, dChain_p, dOrT_p, dAndT_p, dNotT_p, dGetI_eq_p, Bool.not_true, Bool.not_false, dAsg_p, dOp_p, dVar_p, dC_p, gNm_p, gTp_p, gCn_p, gNl_p, dRet_p, dIf_p, dTest_p, dTru_p, dNot_p, dAnd_p, dOr_p, dNext_p, dDrop_p, dCons_p, dNil_p, dTup_p, dLst_e_p, dEmp_e_p, dEmpG_e_p, dDisp_e_p, dListZip_e_p, dGhE_e, dGh_e, dOverK_e, dFld_e, dSetF_e, dMake_e, dMeth_e, dPar_p, dPar3_p, dSetI_p, dCall_p, dCB_p, dBM_p, dBM0_p, dIfE_p, dNeg_p, dSl_p, dPart_p, dNoP_p, dAug_p, addI_p, dBreak_p, dCont_p, dAlt_p, dYes_p, dPairs_n, dPairs_c, gSubD_p, dBMd_p, addD_ii_p, addD_ss_p, addD_tt_p, subD_ii_p, mulD_ii_p, modD_ii_p, fdivD_ii_p, powE_ii_p, Int.reduceToNat, Int.reducePow, Int.reduceNeg, Int.neg_neg, ltD_ii_p, leD_ii_p, gtD_ii_p, geD_ii_p, ltD_ss_p, leD_ss_p, eqR_ii, eqR_ss, eqR_tt_p, eqR_bb, intR_b, intR_i, dFmt_e, dJs_n, dJs_c, strK_s, dJoined_p, fmtR_s, fmtR_i, strR_s, strR_i, lenR_t, lenR_s, tupleR_t, isNR_p, abs_ii, max_ii, min_ii, truD_b_p, slD_t_p, slD_s_p, inR_t, List.map, List.length, List.replicate, List.cons_append, List.nil_append, List.append_nil, List.getElem?_cons_succ, List.getElem?_cons_zero, Option.some.injEq, exists_eq_left', exists_eq_left, ex2, ex3, exists_eq', List.set_cons_succ, List.set_cons_zero, Nat.reduceAdd, Nat.reduceSub, true_and, and_true, D.bl.injEq, D.int.injEq, D.str.injEq, D.ptr.injEq, D.tup.injEq, decide_eq_true_eq, beq_iff_eq, Bool.false_eq_true, if_true, if_false, reduceIte, wipeD, List.foldr_cons, List.foldr_nil, Nat.reduceLeDiff, List.cons.injEq, and_self, List.length_cons, List.length_nil]
  refine ix_t (d := .tup (d.seen.map seD)) rfl ?_
  refine dictT_st nd h fun q C h => ?_
  refine ⟨⟨q, rfl, .inl ⟨_, h.get .here⟩⟩, getC h .here ?_⟩
  try simp only [dFor_e_p, dRng1_p, dRng2_p, dOver_p, dOverT_p, dOverS_p, dAltI_p, dEnum_p, dZip_p, dLc_e_p, dWhile_e_p, Int.toNat_natCast, dSeq_p, dChain_p, dOrT_p, dAndT_p, dNotT_p, dGetI_eq_p, Bool.not_true, Bool.not_false, dAsg_p, dOp_p, dVar_p, dC_p, gNm_p, gTp_p, gCn_p, gNl_p, dRet_p, dIf_p, dTest_p, dTru_p, dNot_p, dAnd_p, dOr_p, dNext_p, dDrop_p, dCons_p, dNil_p, dTup_p, dLst_e_p, dEmp_e_p, dEmpG_e_p, dDisp_e_p, dListZip_e_p, dGhE_e, dGh_e, dOverK_e, dFld_e, dSetF_e, dMake_e, dMeth_e, dPar_p, dPar3_p, dSetI_p, dCall_p, dCB_p, dBM_p, dBM0_p, dIfE_p, dNeg_p, dSl_p, dPart_p, dNoP_p, dAug_p, addI_p, dBreak_p, dCont_p, dAlt_p, dYes_p, dPairs_n, dPairs_c, gSubD_p, dBMd_p, addD_ii_p, addD_ss_p, addD_tt_p, subD_ii_p, mulD_ii_p, modD_ii_p, fdivD_ii_p, powE_ii_p, Int.reduceToNat, Int.reducePow, Int.reduceNeg, Int.neg_neg, ltD_ii_p, leD_ii_p, gtD_ii_p, geD_ii_p, ltD_ss_p, leD_ss_p, eqR_ii, eqR_ss, eqR_tt_p, eqR_bb, intR_b, intR_i, dFmt_e, dJs_n, dJs_c, strK_s, dJoined_p, fmtR_s, fmtR_i, strR_s, strR_i, lenR_t, lenR_s, tupleR_t, isNR_p, abs_ii, max_ii, min_ii, truD_b_p, slD_t_p, slD_s_p, inR_t, List.map, List.length, List.replicate, List.cons_append, List.nil_append, List.append_nil, List.getElem?_cons_succ, List.getElem?_cons_zero, Option.some.injEq, exists_eq_left', exists_eq_left, ex2, ex3, exists_eq', List.set_cons_succ, List.set_cons_zero, Nat.reduceAdd, Nat.reduceSub, true_and, and_true, D.bl.injEq, D.int.injEq, D.str.injEq, D.ptr.injEq, D.tup.injEq, decide_eq_true_eq, beq_iff_eq, Bool.false_eq_true, if_true, if_false, reduceIte, wipeD, List.foldr_cons, List.foldr_nil, Nat.reduceLeDiff, List.cons.injEq, and_self, List.length_cons, List.length_nil]
  exact ret_k (k C h.tail)
def due (d : Dd) (sm : Sm) : Bool := match d.seen.find? (fun x => decide (x.1 = sm.2)) with
  | some x => decide (x.2 ≥ sm.1)
  | none => false
theorem due_gt {sm : Sm} (h : 1 ≤ sm.1) : due d sm = decide (gt d.seen sm.2 ≥ sm.1) := by
  unfold due gt lookA
  cases e : d.seen.find? (fun x => decide (x.1 = sm.2)) with
  | some x => rfl
  | none =>
    simp only [Option.map_none, Option.getD_none]
    exact (decide_eq_false (by omega)).symm
theorem due_ {sm : Sm} (h : St S C0 C L) (k : ∀ C', St S C0 C' L → Q (.bl (due d sm)) C') : D__law_due [ddD d, stD sm] C Q E := by
  unfold D__law_due runD r__law_due
  rw [show ddD d = .tup [stD d.st, .tup (d.seen.map seD), .str d.w.wd, d.w.x, d.w.y] from rfl, show stD sm = .tup [.int sm.1, .str sm.2] from rfl]
  try simp only [dFor_e_p, dRng1_p, dRng2_p, dOver_p, dOverT_p, dOverS_p, dAltI_p, dEnum_p, dZip_p, dLc_e_p, dWhile_e_p, Int.toNat_natCast, dSeq_p, dChain_p, dOrT_p, dAndT_p, dNotT_p, dGetI_eq_p, Bool.not_true, Bool.not_false, dAsg_p, dOp_p, dVar_p, dC_p, gNm_p, gTp_p, gCn_p, gNl_p, dRet_p, dIf_p, dTest_p, dTru_p, dNot_p, dAnd_p, dOr_p, dNext_p, dDrop_p, dCons_p, dNil_p, dTup_p, dLst_e_p, dEmp_e_p, dEmpG_e_p, dDisp_e_p, dListZip_e_p, dGhE_e, dGh_e, dOverK_e, dFld_e, dSetF_e, dMake_e, dMeth_e, dPar_p, dPar3_p, dSetI_p, dCall_p, dCB_p, dBM_p, dBM0_p, dIfE_p, dNeg_p, dSl_p, dPart_p, dNoP_p, dAug_p, addI_p, dBreak_p, dCont_p, dAlt_p, dYes_p, dPairs_n, dPairs_c, gSubD_p, dBMd_p, addD_ii_p, addD_ss_p, addD_tt_p, subD_ii_p, mulD_ii_p, modD_ii_p, fdivD_ii_p, powE_ii_p, Int.reduceToNat, Int.reducePow, Int.reduceNeg, Int.neg_neg, ltD_ii_p, leD_ii_p, gtD_ii_p, geD_ii_p, ltD_ss_p, leD_ss_p, eqR_ii, eqR_ss, eqR_tt_p, eqR_bb, intR_b, intR_i, dFmt_e, dJs_n, dJs_c, strK_s, dJoined_p, fmtR_s, fmtR_i, strR_s, strR_i, lenR_t, lenR_s, tupleR_t, isNR_p, abs_ii, max_ii, min_ii, truD_b_p, slD_t_p, slD_s_p, inR_t, List.map, List.length, List.replicate, List.cons_append, List.nil_append, List.append_nil, List.getElem?_cons_succ, List.getElem?_cons_zero, Option.some.injEq, exists_eq_left', exists_eq_left, ex2, ex3, exists_eq', List.set_cons_succ, List.set_cons_zero, Nat.reduceAdd, Nat.reduceSub, true_and, and_true, D.bl.injEq, D.int.injEq, D.str.injEq, D.ptr.injEq, D.tup.injEq, decide_eq_true_eq, beq_iff_eq, Bool.false_eq_true, if_true, if_false, reduceIte, wipeD, List.foldr_cons, List.foldr_nil, Nat.reduceLeDiff, List.cons.injEq, and_self, List.length_cons, List.length_nil]
  refine .inl (.inl (ix_t (d := .tup (d.seen.map seD)) rfl ?_))
  try simp only [dFor_e_p, dRng1_p, dRng2_p, dOver_p, dOverT_p, dOverS_p, dAltI_p, dEnum_p, dZip_p, dLc_e_p, dWhile_e_p, Int.toNat_natCast, dSeq_p, dChain_p, dOrT_p, dAndT_p, dNotT_p, dGetI_eq_p, Bool.not_true, Bool.not_false, dAsg_p, dOp_p, dVar_p, dC_p, gNm_p, gTp_p, gCn_p, gNl_p, dRet_p, dIf_p, dTest_p, dTru_p, dNot_p, dAnd_p, dOr_p, dNext_p, dDrop_p, dCons_p, dNil_p, dTup_p, dLst_e_p, dEmp_e_p, dEmpG_e_p, dDisp_e_p, dListZip_e_p, dGhE_e, dGh_e, dOverK_e, dFld_e, dSetF_e, dMake_e, dMeth_e, dPar_p, dPar3_p, dSetI_p, dCall_p, dCB_p, dBM_p, dBM0_p, dIfE_p, dNeg_p, dSl_p, dPart_p, dNoP_p, dAug_p, addI_p, dBreak_p, dCont_p, dAlt_p, dYes_p, dPairs_n, dPairs_c, gSubD_p, dBMd_p, addD_ii_p, addD_ss_p, addD_tt_p, subD_ii_p, mulD_ii_p, modD_ii_p, fdivD_ii_p, powE_ii_p, Int.reduceToNat, Int.reducePow, Int.reduceNeg, Int.neg_neg, ltD_ii_p, leD_ii_p, gtD_ii_p, geD_ii_p, ltD_ss_p, leD_ss_p, eqR_ii, eqR_ss, eqR_tt_p, eqR_bb, intR_b, intR_i, dFmt_e, dJs_n, dJs_c, strK_s, dJoined_p, fmtR_s, fmtR_i, strR_s, strR_i, lenR_t, lenR_s, tupleR_t, isNR_p, abs_ii, max_ii, min_ii, truD_b_p, slD_t_p, slD_s_p, inR_t, List.map, List.length, List.replicate, List.cons_append, List.nil_append, List.append_nil, List.getElem?_cons_succ, List.getElem?_cons_zero, Option.some.injEq, exists_eq_left', exists_eq_left, ex2, ex3, exists_eq', List.set_cons_succ, List.set_cons_zero, Nat.reduceAdd, Nat.reduceSub, true_and, and_true, D.bl.injEq, D.int.injEq, D.str.injEq, D.ptr.injEq, D.tup.injEq, decide_eq_true_eq, beq_iff_eq, Bool.false_eq_true, if_true, if_false, reduceIte, wipeD, List.foldr_cons, List.foldr_nil, Nat.reduceLeDiff, List.cons.injEq, and_self, List.length_cons, List.length_nil]
  refine for_st (fun j sl C => ∃ (x2 x3 : Option D), sl = [some (.tup [stD d.st, .tup (d.seen.map seD), .str d.w.wd, d.w.x, d.w.y]), some (.tup [.int sm.1, .str sm.2]), x2, x3] ∧ (∀ x ∈ d.seen.take j, x.1 ≠ sm.2) ∧ St S C0 C L)
    ⟨_, _, rfl, (fun x hx => by cases hx), h⟩ (fun _ _ _ _ => trivial) (fun j x sl C hj hx hJ => ?_) fun sl C hJ => ?_
  · obtain ⟨x2, x3, rfl, hn, h⟩ := hJ
    rw [List.length_map] at hj
    rw [List.getElem?_map, List.getElem?_eq_getElem hj] at hx
    cases hx
    have hs : d.seen = d.seen.take j ++ d.seen[j] :: d.seen.drop (j + 1) := by rw [List.getElem_cons_drop, List.take_append_drop]
    have ht : d.seen.take (j + 1) = d.seen.take j ++ [d.seen[j]] := by rw [List.take_add_one, List.getElem?_eq_getElem hj]; rfl
    rw [ht]
    generalize d.seen[j] = y at hs
    rw [show seD y = .tup [.str y.1, .int y.2] from rfl]
    unfold l__law_due_1
    try simp only [dFor_e_p, dRng1_p, dRng2_p, dOver_p, dOverT_p, dOverS_p, dAltI_p, dEnum_p, dZip_p, dLc_e_p, dWhile_e_p, Int.toNat_natCast, dSeq_p, dChain_p, dOrT_p, dAndT_p, dNotT_p, dGetI_eq_p, Bool.not_true, Bool.not_false, dAsg_p, dOp_p, dVar_p, dC_p, gNm_p, gTp_p, gCn_p, gNl_p, dRet_p, dIf_p, dTest_p, dTru_p, dNot_p, dAnd_p, dOr_p, dNext_p, dDrop_p, dCons_p, dNil_p, dTup_p, dLst_e_p, dEmp_e_p, dEmpG_e_p, dDisp_e_p, dListZip_e_p, dGhE_e, dGh_e, dOverK_e, dFld_e, dSetF_e, dMake_e, dMeth_e, dPar_p, dPar3_p, dSetI_p, dCall_p, dCB_p, dBM_p, dBM0_p, dIfE_p, dNeg_p, dSl_p, dPart_p, dNoP_p, dAug_p, addI_p, dBreak_p, dCont_p, dAlt_p, dYes_p, dPairs_n, dPairs_c, gSubD_p, dBMd_p, addD_ii_p, addD_ss_p, addD_tt_p, subD_ii_p, mulD_ii_p, modD_ii_p, fdivD_ii_p, powE_ii_p, Int.reduceToNat, Int.reducePow, Int.reduceNeg, Int.neg_neg, ltD_ii_p, leD_ii_p, gtD_ii_p, geD_ii_p, ltD_ss_p, leD_ss_p, eqR_ii, eqR_ss, eqR_tt_p, eqR_bb, intR_b, intR_i, dFmt_e, dJs_n, dJs_c, strK_s, dJoined_p, fmtR_s, fmtR_i, strR_s, strR_i, lenR_t, lenR_s, tupleR_t, isNR_p, abs_ii, max_ii, min_ii, truD_b_p, slD_t_p, slD_s_p, inR_t, List.map, List.length, List.replicate, List.cons_append, List.nil_append, List.append_nil, List.getElem?_cons_succ, List.getElem?_cons_zero, Option.some.injEq, exists_eq_left', exists_eq_left, ex2, ex3, exists_eq', List.set_cons_succ, List.set_cons_zero, Nat.reduceAdd, Nat.reduceSub, true_and, and_true, D.bl.injEq, D.int.injEq, D.str.injEq, D.ptr.injEq, D.tup.injEq, decide_eq_true_eq, beq_iff_eq, Bool.false_eq_true, if_true, if_false, reduceIte, wipeD, List.foldr_cons, List.foldr_nil, Nat.reduceLeDiff, List.cons.injEq, and_self, List.length_cons, List.length_nil]
    refine ix_t rfl ?_
    try simp only [dFor_e_p, dRng1_p, dRng2_p, dOver_p, dOverT_p, dOverS_p, dAltI_p, dEnum_p, dZip_p, dLc_e_p, dWhile_e_p, Int.toNat_natCast, dSeq_p, dChain_p, dOrT_p, dAndT_p, dNotT_p, dGetI_eq_p, Bool.not_true, Bool.not_false, dAsg_p, dOp_p, dVar_p, dC_p, gNm_p, gTp_p, gCn_p, gNl_p, dRet_p, dIf_p, dTest_p, dTru_p, dNot_p, dAnd_p, dOr_p, dNext_p, dDrop_p, dCons_p, dNil_p, dTup_p, dLst_e_p, dEmp_e_p, dEmpG_e_p, dDisp_e_p, dListZip_e_p, dGhE_e, dGh_e, dOverK_e, dFld_e, dSetF_e, dMake_e, dMeth_e, dPar_p, dPar3_p, dSetI_p, dCall_p, dCB_p, dBM_p, dBM0_p, dIfE_p, dNeg_p, dSl_p, dPart_p, dNoP_p, dAug_p, addI_p, dBreak_p, dCont_p, dAlt_p, dYes_p, dPairs_n, dPairs_c, gSubD_p, dBMd_p, addD_ii_p, addD_ss_p, addD_tt_p, subD_ii_p, mulD_ii_p, modD_ii_p, fdivD_ii_p, powE_ii_p, Int.reduceToNat, Int.reducePow, Int.reduceNeg, Int.neg_neg, ltD_ii_p, leD_ii_p, gtD_ii_p, geD_ii_p, ltD_ss_p, leD_ss_p, eqR_ii, eqR_ss, eqR_tt_p, eqR_bb, intR_b, intR_i, dFmt_e, dJs_n, dJs_c, strK_s, dJoined_p, fmtR_s, fmtR_i, strR_s, strR_i, lenR_t, lenR_s, tupleR_t, isNR_p, abs_ii, max_ii, min_ii, truD_b_p, slD_t_p, slD_s_p, inR_t, List.map, List.length, List.replicate, List.cons_append, List.nil_append, List.append_nil, List.getElem?_cons_succ, List.getElem?_cons_zero, Option.some.injEq, exists_eq_left', exists_eq_left, ex2, ex3, exists_eq', List.set_cons_succ, List.set_cons_zero, Nat.reduceAdd, Nat.reduceSub, true_and, and_true, D.bl.injEq, D.int.injEq, D.str.injEq, D.ptr.injEq, D.tup.injEq, decide_eq_true_eq, beq_iff_eq, Bool.false_eq_true, if_true, if_false, reduceIte, wipeD, List.foldr_cons, List.foldr_nil, Nat.reduceLeDiff, List.cons.injEq, and_self, List.length_cons, List.length_nil]
    split
    · rename_i e
      refine ix_t rfl ?_
      try simp only [dFor_e_p, dRng1_p, dRng2_p, dOver_p, dOverT_p, dOverS_p, dAltI_p, dEnum_p, dZip_p, dLc_e_p, dWhile_e_p, Int.toNat_natCast, dSeq_p, dChain_p, dOrT_p, dAndT_p, dNotT_p, dGetI_eq_p, Bool.not_true, Bool.not_false, dAsg_p, dOp_p, dVar_p, dC_p, gNm_p, gTp_p, gCn_p, gNl_p, dRet_p, dIf_p, dTest_p, dTru_p, dNot_p, dAnd_p, dOr_p, dNext_p, dDrop_p, dCons_p, dNil_p, dTup_p, dLst_e_p, dEmp_e_p, dEmpG_e_p, dDisp_e_p, dListZip_e_p, dGhE_e, dGh_e, dOverK_e, dFld_e, dSetF_e, dMake_e, dMeth_e, dPar_p, dPar3_p, dSetI_p, dCall_p, dCB_p, dBM_p, dBM0_p, dIfE_p, dNeg_p, dSl_p, dPart_p, dNoP_p, dAug_p, addI_p, dBreak_p, dCont_p, dAlt_p, dYes_p, dPairs_n, dPairs_c, gSubD_p, dBMd_p, addD_ii_p, addD_ss_p, addD_tt_p, subD_ii_p, mulD_ii_p, modD_ii_p, fdivD_ii_p, powE_ii_p, Int.reduceToNat, Int.reducePow, Int.reduceNeg, Int.neg_neg, ltD_ii_p, leD_ii_p, gtD_ii_p, geD_ii_p, ltD_ss_p, leD_ss_p, eqR_ii, eqR_ss, eqR_tt_p, eqR_bb, intR_b, intR_i, dFmt_e, dJs_n, dJs_c, strK_s, dJoined_p, fmtR_s, fmtR_i, strR_s, strR_i, lenR_t, lenR_s, tupleR_t, isNR_p, abs_ii, max_ii, min_ii, truD_b_p, slD_t_p, slD_s_p, inR_t, List.map, List.length, List.replicate, List.cons_append, List.nil_append, List.append_nil, List.getElem?_cons_succ, List.getElem?_cons_zero, Option.some.injEq, exists_eq_left', exists_eq_left, ex2, ex3, exists_eq', List.set_cons_succ, List.set_cons_zero, Nat.reduceAdd, Nat.reduceSub, true_and, and_true, D.bl.injEq, D.int.injEq, D.str.injEq, D.ptr.injEq, D.tup.injEq, decide_eq_true_eq, beq_iff_eq, Bool.false_eq_true, if_true, if_false, reduceIte, wipeD, List.foldr_cons, List.foldr_nil, Nat.reduceLeDiff, List.cons.injEq, and_self, List.length_cons, List.length_nil]
      refine ret_k ?_
      have hf : due d sm = decide (y.2 ≥ sm.1) := by
        unfold due
        rw [hs, List.find?_append, List.find?_eq_none.mpr (fun x hx => by simpa using hn x hx), List.find?_cons]
        simp [e]
      have := k C h
      rw [hf] at this
      exact this
    · rename_i e
      refine ⟨C, Sub.refl _, ?_, h⟩
      intro x hx
      rcases List.mem_append.mp hx with z | z
      · exact hn x z
      · rw [List.mem_singleton.mp z]; exact e
  · obtain ⟨x2, x3, rfl, hn, h⟩ := hJ
    rw [List.length_map, List.take_of_length_le (Nat.le_refl _)] at hn
    unfold r__law_due_1
    try simp only [dFor_e_p, dRng1_p, dRng2_p, dOver_p, dOverT_p, dOverS_p, dAltI_p, dEnum_p, dZip_p, dLc_e_p, dWhile_e_p, Int.toNat_natCast, dSeq_p, dChain_p, dOrT_p, dAndT_p, dNotT_p, dGetI_eq_p, Bool.not_true, Bool.not_false, dAsg_p, dOp_p, dVar_p, dC_p, gNm_p, gTp_p, gCn_p, gNl_p, dRet_p, dIf_p, dTest_p, dTru_p, dNot_p, dAnd_p, dOr_p, dNext_p, dDrop_p, dCons_p, dNil_p, dTup_p, dLst_e_p, dEmp_e_p, dEmpG_e_p, dDisp_e_p, dListZip_e_p, dGhE_e, dGh_e, dOverK_e, dFld_e, dSetF_e, dMake_e, dMeth_e, dPar_p, dPar3_p, dSetI_p, dCall_p, dCB_p, dBM_p, dBM0_p, dIfE_p, dNeg_p, dSl_p, dPart_p, dNoP_p, dAug_p, addI_p, dBreak_p, dCont_p, dAlt_p, dYes_p, dPairs_n, dPairs_c, gSubD_p, dBMd_p, addD_ii_p, addD_ss_p, addD_tt_p, subD_ii_p, mulD_ii_p, modD_ii_p, fdivD_ii_p, powE_ii_p, Int.reduceToNat, Int.reducePow, Int.reduceNeg, Int.neg_neg, ltD_ii_p, leD_ii_p, gtD_ii_p, geD_ii_p, ltD_ss_p, leD_ss_p, eqR_ii, eqR_ss, eqR_tt_p, eqR_bb, intR_b, intR_i, dFmt_e, dJs_n, dJs_c, strK_s, dJoined_p, fmtR_s, fmtR_i, strR_s, strR_i, lenR_t, lenR_s, tupleR_t, isNR_p, abs_ii, max_ii, min_ii, truD_b_p, slD_t_p, slD_s_p, inR_t, List.map, List.length, List.replicate, List.cons_append, List.nil_append, List.append_nil, List.getElem?_cons_succ, List.getElem?_cons_zero, Option.some.injEq, exists_eq_left', exists_eq_left, ex2, ex3, exists_eq', List.set_cons_succ, List.set_cons_zero, Nat.reduceAdd, Nat.reduceSub, true_and, and_true, D.bl.injEq, D.int.injEq, D.str.injEq, D.ptr.injEq, D.tup.injEq, decide_eq_true_eq, beq_iff_eq, Bool.false_eq_true, if_true, if_false, reduceIte, wipeD, List.foldr_cons, List.foldr_nil, Nat.reduceLeDiff, List.cons.injEq, and_self, List.length_cons, List.length_nil]
    refine ret_k ?_
    have hf : due d sm = false := by
      unfold due
      rw [List.find?_eq_none.mpr (fun x hx => by simpa using hn x hx)]
    have := k C h
    rw [hf] at this
    exact this
theorem beside {d : Dd} (h : St S C0 C L) (hn : d.seen.length ≤ 8) (h0 : 1 ≤ d.st.1) (h1 : ∀ x ∈ d.seen, 1 ≤ x.2) (hk : ∀ x ∈ d.seen, x.1.length ≤ 60) (k : ∀ (sms : List Sm) q C', (∀ sm ∈ sms, 1 ≤ sm.1) → sms.length ≤ 40 → St S C0 C' ((q, .lst (sms.map stD), true) :: L) → Q (.ptr q) C') : D__law_beside [ddD d] C Q E := by
  unfold D__law_beside runD r__law_beside
  rw [show ddD d = .tup [stD d.st, .tup (d.seen.map seD), .str d.w.wd, d.w.x, d.w.y] from rfl]
  try simp only [dFor_e_p, dRng1_p, dRng2_p, dOver_p, dOverT_p, dOverS_p, dAltI_p, dEnum_p, dZip_p, dLc_e_p, dWhile_e_p, Int.toNat_natCast, dSeq_p, dChain_p, dOrT_p, dAndT_p, dNotT_p, dGetI_eq_p, Bool.not_true, Bool.not_false, dAsg_p, dOp_p, dVar_p, dC_p, gNm_p, gTp_p, gCn_p, gNl_p, dRet_p, dIf_p, dTest_p, dTru_p, dNot_p, dAnd_p, dOr_p, dNext_p, dDrop_p, dCons_p, dNil_p, dTup_p, dLst_e_p, dEmp_e_p, dEmpG_e_p, dDisp_e_p, dListZip_e_p, dGhE_e, dGh_e, dOverK_e, dFld_e, dSetF_e, dMake_e, dMeth_e, dPar_p, dPar3_p, dSetI_p, dCall_p, dCB_p, dBM_p, dBM0_p, dIfE_p, dNeg_p, dSl_p, dPart_p, dNoP_p, dAug_p, addI_p, dBreak_p, dCont_p, dAlt_p, dYes_p, dPairs_n, dPairs_c, gSubD_p, dBMd_p, addD_ii_p, addD_ss_p, addD_tt_p, subD_ii_p, mulD_ii_p, modD_ii_p, fdivD_ii_p, powE_ii_p, Int.reduceToNat, Int.reducePow, Int.reduceNeg, Int.neg_neg, ltD_ii_p, leD_ii_p, gtD_ii_p, geD_ii_p, ltD_ss_p, leD_ss_p, eqR_ii, eqR_ss, eqR_tt_p, eqR_bb, intR_b, intR_i, dFmt_e, dJs_n, dJs_c, strK_s, dJoined_p, fmtR_s, fmtR_i, strR_s, strR_i, lenR_t, lenR_s, tupleR_t, isNR_p, abs_ii, max_ii, min_ii, truD_b_p, slD_t_p, slD_s_p, inR_t, List.map, List.length, List.replicate, List.cons_append, List.nil_append, List.append_nil, List.getElem?_cons_succ, List.getElem?_cons_zero, Option.some.injEq, exists_eq_left', exists_eq_left, ex2, ex3, exists_eq', List.set_cons_succ, List.set_cons_zero, Nat.reduceAdd, Nat.reduceSub, true_and, and_true, D.bl.injEq, D.int.injEq, D.str.injEq, D.ptr.injEq, D.tup.injEq, decide_eq_true_eq, beq_iff_eq, Bool.false_eq_true, if_true, if_false, reduceIte, wipeD, List.foldr_cons, List.foldr_nil, Nat.reduceLeDiff, List.cons.injEq, and_self, List.length_cons, List.length_nil]
  refine ⟨by decide +kernel, ix_t (d := stD d.st) rfl (ix_t (d := stD d.st) rfl ?_)⟩
  rw [show stD d.st = .tup [.int d.st.1, .str d.st.2] from rfl]
  refine ix_t rfl ?_
  try simp only [dFor_e_p, dRng1_p, dRng2_p, dOver_p, dOverT_p, dOverS_p, dAltI_p, dEnum_p, dZip_p, dLc_e_p, dWhile_e_p, Int.toNat_natCast, dSeq_p, dChain_p, dOrT_p, dAndT_p, dNotT_p, dGetI_eq_p, Bool.not_true, Bool.not_false, dAsg_p, dOp_p, dVar_p, dC_p, gNm_p, gTp_p, gCn_p, gNl_p, dRet_p, dIf_p, dTest_p, dTru_p, dNot_p, dAnd_p, dOr_p, dNext_p, dDrop_p, dCons_p, dNil_p, dTup_p, dLst_e_p, dEmp_e_p, dEmpG_e_p, dDisp_e_p, dListZip_e_p, dGhE_e, dGh_e, dOverK_e, dFld_e, dSetF_e, dMake_e, dMeth_e, dPar_p, dPar3_p, dSetI_p, dCall_p, dCB_p, dBM_p, dBM0_p, dIfE_p, dNeg_p, dSl_p, dPart_p, dNoP_p, dAug_p, addI_p, dBreak_p, dCont_p, dAlt_p, dYes_p, dPairs_n, dPairs_c, gSubD_p, dBMd_p, addD_ii_p, addD_ss_p, addD_tt_p, subD_ii_p, mulD_ii_p, modD_ii_p, fdivD_ii_p, powE_ii_p, Int.reduceToNat, Int.reducePow, Int.reduceNeg, Int.neg_neg, ltD_ii_p, leD_ii_p, gtD_ii_p, geD_ii_p, ltD_ss_p, leD_ss_p, eqR_ii, eqR_ss, eqR_tt_p, eqR_bb, intR_b, intR_i, dFmt_e, dJs_n, dJs_c, strK_s, dJoined_p, fmtR_s, fmtR_i, strR_s, strR_i, lenR_t, lenR_s, tupleR_t, isNR_p, abs_ii, max_ii, min_ii, truD_b_p, slD_t_p, slD_s_p, inR_t, List.map, List.length, List.replicate, List.cons_append, List.nil_append, List.append_nil, List.getElem?_cons_succ, List.getElem?_cons_zero, Option.some.injEq, exists_eq_left', exists_eq_left, ex2, ex3, exists_eq', List.set_cons_succ, List.set_cons_zero, Nat.reduceAdd, Nat.reduceSub, true_and, and_true, D.bl.injEq, D.int.injEq, D.str.injEq, D.ptr.injEq, D.tup.injEq, decide_eq_true_eq, beq_iff_eq, Bool.false_eq_true, if_true, if_false, reduceIte, wipeD, List.foldr_cons, List.foldr_nil, Nat.reduceLeDiff, List.cons.injEq, and_self, List.length_cons, List.length_nil]
  refine ix_t (d := .tup [.int d.st.1, .str d.st.2]) rfl (ix_t rfl ?_)
  refine alloc_st h fun q C h => ?_
  refine .inl (.inl (ix_t (d := .tup (d.seen.map seD)) rfl ?_))
  try simp only [dFor_e_p, dRng1_p, dRng2_p, dOver_p, dOverT_p, dOverS_p, dAltI_p, dEnum_p, dZip_p, dLc_e_p, dWhile_e_p, Int.toNat_natCast, dSeq_p, dChain_p, dOrT_p, dAndT_p, dNotT_p, dGetI_eq_p, Bool.not_true, Bool.not_false, dAsg_p, dOp_p, dVar_p, dC_p, gNm_p, gTp_p, gCn_p, gNl_p, dRet_p, dIf_p, dTest_p, dTru_p, dNot_p, dAnd_p, dOr_p, dNext_p, dDrop_p, dCons_p, dNil_p, dTup_p, dLst_e_p, dEmp_e_p, dEmpG_e_p, dDisp_e_p, dListZip_e_p, dGhE_e, dGh_e, dOverK_e, dFld_e, dSetF_e, dMake_e, dMeth_e, dPar_p, dPar3_p, dSetI_p, dCall_p, dCB_p, dBM_p, dBM0_p, dIfE_p, dNeg_p, dSl_p, dPart_p, dNoP_p, dAug_p, addI_p, dBreak_p, dCont_p, dAlt_p, dYes_p, dPairs_n, dPairs_c, gSubD_p, dBMd_p, addD_ii_p, addD_ss_p, addD_tt_p, subD_ii_p, mulD_ii_p, modD_ii_p, fdivD_ii_p, powE_ii_p, Int.reduceToNat, Int.reducePow, Int.reduceNeg, Int.neg_neg, ltD_ii_p, leD_ii_p, gtD_ii_p, geD_ii_p, ltD_ss_p, leD_ss_p, eqR_ii, eqR_ss, eqR_tt_p, eqR_bb, intR_b, intR_i, dFmt_e, dJs_n, dJs_c, strK_s, dJoined_p, fmtR_s, fmtR_i, strR_s, strR_i, lenR_t, lenR_s, tupleR_t, isNR_p, abs_ii, max_ii, min_ii, truD_b_p, slD_t_p, slD_s_p, inR_t, List.map, List.length, List.replicate, List.cons_append, List.nil_append, List.append_nil, List.getElem?_cons_succ, List.getElem?_cons_zero, Option.some.injEq, exists_eq_left', exists_eq_left, ex2, ex3, exists_eq', List.set_cons_succ, List.set_cons_zero, Nat.reduceAdd, Nat.reduceSub, true_and, and_true, D.bl.injEq, D.int.injEq, D.str.injEq, D.ptr.injEq, D.tup.injEq, decide_eq_true_eq, beq_iff_eq, Bool.false_eq_true, if_true, if_false, reduceIte, wipeD, List.foldr_cons, List.foldr_nil, Nat.reduceLeDiff, List.cons.injEq, and_self, List.length_cons, List.length_nil]
  refine for_st (fun j sl C => ∃ (x2 x3 : Option D) (sms : List Sm), sl = [some (.tup [.tup [.int d.st.1, .str d.st.2], .tup (d.seen.map seD), .str d.w.wd, d.w.x, d.w.y]), some (.ptr q), x2, x3] ∧ (∀ sm ∈ sms, 1 ≤ sm.1) ∧ sms.length = 4 + 4 * j ∧ St S C0 C ((q, .lst (sms.map stD), true) :: L))
    ⟨_, _, [(1, [110, 111, 116, 45, 115, 101, 101, 110]), (100000000000000000000000000000, [110, 111, 116, 45, 115, 101, 101, 110]), d.st, (d.st.1 + 1, d.st.2)], rfl, fun sm hm => ?_, rfl, h⟩ (fun _ _ _ _ => trivial) (fun j x sl C hj hx hJ => ?_) fun sl C hJ => ?_
  · simp only [List.mem_cons, List.mem_nil_iff, or_false] at hm
    rcases hm with e | e | e | e <;> subst e
    · decide
    · decide
    · exact h0
    · show 1 ≤ d.st.1 + 1
      omega
  · obtain ⟨x2, x3, sms, rfl, hs1, hsl, h⟩ := hJ
    rw [List.length_map] at hj
    rw [List.getElem?_map, List.getElem?_eq_getElem hj] at hx
    cases hx
    have hy := h1 _ (List.getElem_mem hj)
    have hk := hk _ (List.getElem_mem hj)
    generalize d.seen[j] = y at hy hk
    rw [show seD y = .tup [.str y.1, .int y.2] from rfl]
    unfold l__law_beside_1
    try simp only [dFor_e_p, dRng1_p, dRng2_p, dOver_p, dOverT_p, dOverS_p, dAltI_p, dEnum_p, dZip_p, dLc_e_p, dWhile_e_p, Int.toNat_natCast, dSeq_p, dChain_p, dOrT_p, dAndT_p, dNotT_p, dGetI_eq_p, Bool.not_true, Bool.not_false, dAsg_p, dOp_p, dVar_p, dC_p, gNm_p, gTp_p, gCn_p, gNl_p, dRet_p, dIf_p, dTest_p, dTru_p, dNot_p, dAnd_p, dOr_p, dNext_p, dDrop_p, dCons_p, dNil_p, dTup_p, dLst_e_p, dEmp_e_p, dEmpG_e_p, dDisp_e_p, dListZip_e_p, dGhE_e, dGh_e, dOverK_e, dFld_e, dSetF_e, dMake_e, dMeth_e, dPar_p, dPar3_p, dSetI_p, dCall_p, dCB_p, dBM_p, dBM0_p, dIfE_p, dNeg_p, dSl_p, dPart_p, dNoP_p, dAug_p, addI_p, dBreak_p, dCont_p, dAlt_p, dYes_p, dPairs_n, dPairs_c, gSubD_p, dBMd_p, addD_ii_p, addD_ss_p, addD_tt_p, subD_ii_p, mulD_ii_p, modD_ii_p, fdivD_ii_p, powE_ii_p, Int.reduceToNat, Int.reducePow, Int.reduceNeg, Int.neg_neg, ltD_ii_p, leD_ii_p, gtD_ii_p, geD_ii_p, ltD_ss_p, leD_ss_p, eqR_ii, eqR_ss, eqR_tt_p, eqR_bb, intR_b, intR_i, dFmt_e, dJs_n, dJs_c, strK_s, dJoined_p, fmtR_s, fmtR_i, strR_s, strR_i, lenR_t, lenR_s, tupleR_t, isNR_p, abs_ii, max_ii, min_ii, truD_b_p, slD_t_p, slD_s_p, inR_t, List.map, List.length, List.replicate, List.cons_append, List.nil_append, List.append_nil, List.getElem?_cons_succ, List.getElem?_cons_zero, Option.some.injEq, exists_eq_left', exists_eq_left, ex2, ex3, exists_eq', List.set_cons_succ, List.set_cons_zero, Nat.reduceAdd, Nat.reduceSub, true_and, and_true, D.bl.injEq, D.int.injEq, D.str.injEq, D.ptr.injEq, D.tup.injEq, decide_eq_true_eq, beq_iff_eq, Bool.false_eq_true, if_true, if_false, reduceIte, wipeD, List.foldr_cons, List.foldr_nil, Nat.reduceLeDiff, List.cons.injEq, and_self, List.length_cons, List.length_nil]
    have zc := len_cut (xs := y.1) (lo := none) (hi := some (-1))
    refine ⟨ty_st h .here, by rw [sizeLine_eq]; omega, by rw [sizeLine_eq]; omega, alloc_st h fun z C h => ?_⟩
    refine ext_st (xs := sms.map stD) (ys := [(y.2, y.1), (y.2 + 1, y.1), ((if y.2 - 1 > 1 then y.2 - 1 else 1), y.1), (y.2, cutL y.1 none (some (-1)) ++ [113])].map stD) h .here (by rw [sizeLine_eq]; simp only [List.length_map, List.length_cons, List.length_nil]; omega) (.there .here) fun C h => ?_
    have h := h.tail
    rw [← List.map_append] at h
    refine ⟨C, Sub.refl _, _, _, _, ⟨rfl, rfl⟩, fun sm hm => ?_, ?_, h⟩
    · rcases List.mem_append.mp hm with e | e
      · exact hs1 sm e
      · simp only [List.mem_cons, List.mem_nil_iff, or_false] at e
        rcases e with e | e | e | e <;> subst e
        · exact hy
        · show 1 ≤ y.2 + 1
          omega
        · show 1 ≤ (if y.2 - 1 > 1 then y.2 - 1 else 1)
          split <;> omega
        · exact hy
    · rw [List.length_append, hsl]
      simp only [List.length_cons, List.length_nil]
      omega
  · obtain ⟨x2, x3, sms, rfl, hs1, hsl, h⟩ := hJ
    rw [List.length_map] at hsl
    unfold r__law_beside_1
    try simp only [dFor_e_p, dRng1_p, dRng2_p, dOver_p, dOverT_p, dOverS_p, dAltI_p, dEnum_p, dZip_p, dLc_e_p, dWhile_e_p, Int.toNat_natCast, dSeq_p, dChain_p, dOrT_p, dAndT_p, dNotT_p, dGetI_eq_p, Bool.not_true, Bool.not_false, dAsg_p, dOp_p, dVar_p, dC_p, gNm_p, gTp_p, gCn_p, gNl_p, dRet_p, dIf_p, dTest_p, dTru_p, dNot_p, dAnd_p, dOr_p, dNext_p, dDrop_p, dCons_p, dNil_p, dTup_p, dLst_e_p, dEmp_e_p, dEmpG_e_p, dDisp_e_p, dListZip_e_p, dGhE_e, dGh_e, dOverK_e, dFld_e, dSetF_e, dMake_e, dMeth_e, dPar_p, dPar3_p, dSetI_p, dCall_p, dCB_p, dBM_p, dBM0_p, dIfE_p, dNeg_p, dSl_p, dPart_p, dNoP_p, dAug_p, addI_p, dBreak_p, dCont_p, dAlt_p, dYes_p, dPairs_n, dPairs_c, gSubD_p, dBMd_p, addD_ii_p, addD_ss_p, addD_tt_p, subD_ii_p, mulD_ii_p, modD_ii_p, fdivD_ii_p, powE_ii_p, Int.reduceToNat, Int.reducePow, Int.reduceNeg, Int.neg_neg, ltD_ii_p, leD_ii_p, gtD_ii_p, geD_ii_p, ltD_ss_p, leD_ss_p, eqR_ii, eqR_ss, eqR_tt_p, eqR_bb, intR_b, intR_i, dFmt_e, dJs_n, dJs_c, strK_s, dJoined_p, fmtR_s, fmtR_i, strR_s, strR_i, lenR_t, lenR_s, tupleR_t, isNR_p, abs_ii, max_ii, min_ii, truD_b_p, slD_t_p, slD_s_p, inR_t, List.map, List.length, List.replicate, List.cons_append, List.nil_append, List.append_nil, List.getElem?_cons_succ, List.getElem?_cons_zero, Option.some.injEq, exists_eq_left', exists_eq_left, ex2, ex3, exists_eq', List.set_cons_succ, List.set_cons_zero, Nat.reduceAdd, Nat.reduceSub, true_and, and_true, D.bl.injEq, D.int.injEq, D.str.injEq, D.ptr.injEq, D.tup.injEq, decide_eq_true_eq, beq_iff_eq, Bool.false_eq_true, if_true, if_false, reduceIte, wipeD, List.foldr_cons, List.foldr_nil, Nat.reduceLeDiff, List.cons.injEq, and_self, List.length_cons, List.length_nil]
    exact ret_k (k sms q C hs1 (by omega) h)
end
end K15

namespace K15
open PySem PySem.Spec PyProof.Rows KB
open L2 hiding op_eqD op_neD call_listD
variable {S : Addr → Prop} {C0 C : Cp} {L L1 L2 : List Ent} {p q r : Addr} {s : PS} {Q : DQ} {E : Exn → Cp → Prop}
theorem part {d e : Dd} {ED : DEnds} {x0 x1 x2 x3 x5 x7 x8 x9 : Option D} (h : St S C0 C L) (nd : (d.seen.map (·.1)).Nodup) (ne : (e.seen.map (·.1)).Nodup) (nl : e.seen.length ≤ 8) (hc : e.st.1 ≤ gt d.seen e.st.2 → ∀ k, gt e.seen k ≤ gt d.seen k) (k : ∀ x8 x9 C', St S C0 C' L → ED.nx [x0, x1, x2, x3, some (ddD d), x5, some (ddD e), x7, x8, x9] C') : r_law_1 ED [x0, x1, x2, x3, some (ddD d), x5, some (ddD e), x7, x8, x9] C := by
  unfold r_law_1
  try simp only [dFor_e_p, dRng1_p, dRng2_p, dOver_p, dOverT_p, dOverS_p, dAltI_p, dEnum_p, dZip_p, dLc_e_p, dWhile_e_p, Int.toNat_natCast, dSeq_p, dChain_p, dOrT_p, dAndT_p, dNotT_p, dGetI_eq_p, Bool.not_true, Bool.not_false, dAsg_p, dOp_p, dVar_p, dC_p, gNm_p, gTp_p, gCn_p, gNl_p, dRet_p, dIf_p, dTest_p, dTru_p, dNot_p, dAnd_p, dOr_p, dNext_p, dDrop_p, dCons_p, dNil_p, dTup_p, dLst_e_p, dEmp_e_p, dEmpG_e_p, dDisp_e_p, dListZip_e_p, dGhE_e, dGh_e, dOverK_e, dFld_e, dSetF_e, dMake_e, dMeth_e, dPar_p, dPar3_p, dSetI_p, dCall_p, dCB_p, dBM_p, dBM0_p, dIfE_p, dNeg_p, dSl_p, dPart_p, dNoP_p, dAug_p, addI_p, dBreak_p, dCont_p, dAlt_p, dYes_p, dPairs_n, dPairs_c, gSubD_p, dBMd_p, addD_ii_p, addD_ss_p, addD_tt_p, subD_ii_p, mulD_ii_p, modD_ii_p, fdivD_ii_p, powE_ii_p, Int.reduceToNat, Int.reducePow, Int.reduceNeg, Int.neg_neg, ltD_ii_p, leD_ii_p, gtD_ii_p, geD_ii_p, ltD_ss_p, leD_ss_p, eqR_ii, eqR_ss, eqR_tt_p, eqR_bb, intR_b, intR_i, dFmt_e, dJs_n, dJs_c, strK_s, dJoined_p, fmtR_s, fmtR_i, strR_s, strR_i, lenR_t, lenR_s, tupleR_t, isNR_p, abs_ii, max_ii, min_ii, truD_b_p, slD_t_p, slD_s_p, inR_t, List.map, List.length, List.replicate, List.cons_append, List.nil_append, List.append_nil, List.getElem?_cons_succ, List.getElem?_cons_zero, Option.some.injEq, exists_eq_left', exists_eq_left, ex2, ex3, exists_eq', List.set_cons_succ, List.set_cons_zero, Nat.reduceAdd, Nat.reduceSub, true_and, and_true, D.bl.injEq, D.int.injEq, D.str.injEq, D.ptr.injEq, D.tup.injEq, decide_eq_true_eq, beq_iff_eq, Bool.false_eq_true, if_true, if_false, reduceIte, wipeD, List.foldr_cons, List.foldr_nil, Nat.reduceLeDiff, List.cons.injEq, and_self, List.length_cons, List.length_nil]
  refine ix_t (xs := [stD e.st, .tup (e.seen.map seD), .str e.w.wd, e.w.x, e.w.y]) rfl ?_
  refine saw h nd fun C h => ?_
  refine ⟨_, rfl, ?_⟩
  by_cases hs : e.st.1 ≤ gt d.seen e.st.2
  · rw [if_pos (decide_eq_true hs)]
    refine .inl (.inl (ix_t (xs := [stD e.st, .tup (e.seen.map seD), .str e.w.wd, e.w.x, e.w.y]) (d := .tup (e.seen.map seD)) rfl ?_))
    refine lc_map e.seen (fun _ => .bl true) seD rfl h (fun _ _ => trivial) (fun y C' hy h Q' k' => ?_) (by rw [sizeLine_eq]; omega) fun q C h => ?_
    · rw [show seD y = .tup [.str y.1, .int y.2] from rfl]
      try simp only [dFor_e_p, dRng1_p, dRng2_p, dOver_p, dOverT_p, dOverS_p, dAltI_p, dEnum_p, dZip_p, dLc_e_p, dWhile_e_p, Int.toNat_natCast, dSeq_p, dChain_p, dOrT_p, dAndT_p, dNotT_p, dGetI_eq_p, Bool.not_true, Bool.not_false, dAsg_p, dOp_p, dVar_p, dC_p, gNm_p, gTp_p, gCn_p, gNl_p, dRet_p, dIf_p, dTest_p, dTru_p, dNot_p, dAnd_p, dOr_p, dNext_p, dDrop_p, dCons_p, dNil_p, dTup_p, dLst_e_p, dEmp_e_p, dEmpG_e_p, dDisp_e_p, dListZip_e_p, dGhE_e, dGh_e, dOverK_e, dFld_e, dSetF_e, dMake_e, dMeth_e, dPar_p, dPar3_p, dSetI_p, dCall_p, dCB_p, dBM_p, dBM0_p, dIfE_p, dNeg_p, dSl_p, dPart_p, dNoP_p, dAug_p, addI_p, dBreak_p, dCont_p, dAlt_p, dYes_p, dPairs_n, dPairs_c, gSubD_p, dBMd_p, addD_ii_p, addD_ss_p, addD_tt_p, subD_ii_p, mulD_ii_p, modD_ii_p, fdivD_ii_p, powE_ii_p, Int.reduceToNat, Int.reducePow, Int.reduceNeg, Int.neg_neg, ltD_ii_p, leD_ii_p, gtD_ii_p, geD_ii_p, ltD_ss_p, leD_ss_p, eqR_ii, eqR_ss, eqR_tt_p, eqR_bb, intR_b, intR_i, dFmt_e, dJs_n, dJs_c, strK_s, dJoined_p, fmtR_s, fmtR_i, strR_s, strR_i, lenR_t, lenR_s, tupleR_t, isNR_p, abs_ii, max_ii, min_ii, truD_b_p, slD_t_p, slD_s_p, inR_t, List.map, List.length, List.replicate, List.cons_append, List.nil_append, List.append_nil, List.getElem?_cons_succ, List.getElem?_cons_zero, Option.some.injEq, exists_eq_left', exists_eq_left, ex2, ex3, exists_eq', List.set_cons_succ, List.set_cons_zero, Nat.reduceAdd, Nat.reduceSub, true_and, and_true, D.bl.injEq, D.int.injEq, D.str.injEq, D.ptr.injEq, D.tup.injEq, decide_eq_true_eq, beq_iff_eq, Bool.false_eq_true, if_true, if_false, reduceIte, wipeD, List.foldr_cons, List.foldr_nil, Nat.reduceLeDiff, List.cons.injEq, and_self, List.length_cons, List.length_nil]
      refine saw (sm := (y.2, y.1)) h nd fun C h => ?_
      have : gt e.seen y.1 = y.2 := by unfold gt; rw [mem_look ne (k := y.1) (v := y.2) hy]; rfl
      have h2 := hc hs y.1
      rw [decide_eq_true (show gt d.seen y.1 ≥ y.2 by omega)]
      exact k' C h
    rw [show e.seen.map (fun _ => D.bl true) = (e.seen.map fun _ => true).map D.bl by rw [List.map_map]; rfl] at h
    refine all_st h .here ?_
    refine ⟨true, ?_, ?_⟩
    · rw [show (e.seen.map fun _ => true).all id = true by rw [List.all_map]; exact List.all_eq_true.mpr fun _ _ => rfl]
      rfl
    exact k _ _ C h.tail
  · rw [if_neg (by simpa using hs)]
    exact k _ _ C h
theorem law_true (a : Addr) (ns : List Int) (c : Cell) (hl : ns.length ≤ 63) (hc : c = .lst (ns.map D.int) ∨ c = .fz (ns.map D.int)) : D_law [.ptr a] (up (fun _ => none) a c) (fun d _ => d = .bl true) fun _ _ => False := by
  have h : St (fun _ => False) (up (fun _ => none) a c) (up (fun _ => none) a c) [(a, c, false)] := St.init.add up_same (fun x hx => by cases hx) (fun e => by cases e)
  generalize up (fun _ => none) a c = C0 at h
  unfold D_law runD r_law
  try simp only [dFor_e_p, dRng1_p, dRng2_p, dOver_p, dOverT_p, dOverS_p, dAltI_p, dEnum_p, dZip_p, dLc_e_p, dWhile_e_p, Int.toNat_natCast, dSeq_p, dChain_p, dOrT_p, dAndT_p, dNotT_p, dGetI_eq_p, Bool.not_true, Bool.not_false, dAsg_p, dOp_p, dVar_p, dC_p, gNm_p, gTp_p, gCn_p, gNl_p, dRet_p, dIf_p, dTest_p, dTru_p, dNot_p, dAnd_p, dOr_p, dNext_p, dDrop_p, dCons_p, dNil_p, dTup_p, dLst_e_p, dEmp_e_p, dEmpG_e_p, dDisp_e_p, dListZip_e_p, dGhE_e, dGh_e, dOverK_e, dFld_e, dSetF_e, dMake_e, dMeth_e, dPar_p, dPar3_p, dSetI_p, dCall_p, dCB_p, dBM_p, dBM0_p, dIfE_p, dNeg_p, dSl_p, dPart_p, dNoP_p, dAug_p, addI_p, dBreak_p, dCont_p, dAlt_p, dYes_p, dPairs_n, dPairs_c, gSubD_p, dBMd_p, addD_ii_p, addD_ss_p, addD_tt_p, subD_ii_p, mulD_ii_p, modD_ii_p, fdivD_ii_p, powE_ii_p, Int.reduceToNat, Int.reducePow, Int.reduceNeg, Int.neg_neg, ltD_ii_p, leD_ii_p, gtD_ii_p, geD_ii_p, ltD_ss_p, leD_ss_p, eqR_ii, eqR_ss, eqR_tt_p, eqR_bb, intR_b, intR_i, dFmt_e, dJs_n, dJs_c, strK_s, dJoined_p, fmtR_s, fmtR_i, strR_s, strR_i, lenR_t, lenR_s, tupleR_t, isNR_p, abs_ii, max_ii, min_ii, truD_b_p, slD_t_p, slD_s_p, inR_t, List.map, List.length, List.replicate, List.cons_append, List.nil_append, List.append_nil, List.getElem?_cons_succ, List.getElem?_cons_zero, Option.some.injEq, exists_eq_left', exists_eq_left, ex2, ex3, exists_eq', List.set_cons_succ, List.set_cons_zero, Nat.reduceAdd, Nat.reduceSub, true_and, and_true, D.bl.injEq, D.int.injEq, D.str.injEq, D.ptr.injEq, D.tup.injEq, decide_eq_true_eq, beq_iff_eq, Bool.false_eq_true, if_true, if_false, reduceIte, wipeD, List.foldr_cons, List.foldr_nil, Nat.reduceLeDiff, List.cons.injEq, and_self, List.length_cons, List.length_nil]
  refine begin_ h .here hc hl fun p r s C h1 h => ?_
  try simp only [dFor_e_p, dRng1_p, dRng2_p, dOver_p, dOverT_p, dOverS_p, dAltI_p, dEnum_p, dZip_p, dLc_e_p, dWhile_e_p, Int.toNat_natCast, dSeq_p, dChain_p, dOrT_p, dAndT_p, dNotT_p, dGetI_eq_p, Bool.not_true, Bool.not_false, dAsg_p, dOp_p, dVar_p, dC_p, gNm_p, gTp_p, gCn_p, gNl_p, dRet_p, dIf_p, dTest_p, dTru_p, dNot_p, dAnd_p, dOr_p, dNext_p, dDrop_p, dCons_p, dNil_p, dTup_p, dLst_e_p, dEmp_e_p, dEmpG_e_p, dDisp_e_p, dListZip_e_p, dGhE_e, dGh_e, dOverK_e, dFld_e, dSetF_e, dMake_e, dMeth_e, dPar_p, dPar3_p, dSetI_p, dCall_p, dCB_p, dBM_p, dBM0_p, dIfE_p, dNeg_p, dSl_p, dPart_p, dNoP_p, dAug_p, addI_p, dBreak_p, dCont_p, dAlt_p, dYes_p, dPairs_n, dPairs_c, gSubD_p, dBMd_p, addD_ii_p, addD_ss_p, addD_tt_p, subD_ii_p, mulD_ii_p, modD_ii_p, fdivD_ii_p, powE_ii_p, Int.reduceToNat, Int.reducePow, Int.reduceNeg, Int.neg_neg, ltD_ii_p, leD_ii_p, gtD_ii_p, geD_ii_p, ltD_ss_p, leD_ss_p, eqR_ii, eqR_ss, eqR_tt_p, eqR_bb, intR_b, intR_i, dFmt_e, dJs_n, dJs_c, strK_s, dJoined_p, fmtR_s, fmtR_i, strR_s, strR_i, lenR_t, lenR_s, tupleR_t, isNR_p, abs_ii, max_ii, min_ii, truD_b_p, slD_t_p, slD_s_p, inR_t, List.map, List.length, List.replicate, List.cons_append, List.nil_append, List.append_nil, List.getElem?_cons_succ, List.getElem?_cons_zero, Option.some.injEq, exists_eq_left', exists_eq_left, ex2, ex3, exists_eq', List.set_cons_succ, List.set_cons_zero, Nat.reduceAdd, Nat.reduceSub, true_and, and_true, D.bl.injEq, D.int.injEq, D.str.injEq, D.ptr.injEq, D.tup.injEq, decide_eq_true_eq, beq_iff_eq, Bool.false_eq_true, if_true, if_false, reduceIte, wipeD, List.foldr_cons, List.foldr_nil, Nat.reduceLeDiff, List.cons.injEq, and_self, List.length_cons, List.length_nil]
  have il : isL C a (ns.map D.int) := by
    have := h.get (.there (.there .here))
    rcases hc with e | e <;> subst e
    · exact .inl this
    · exact .inr this
  refine len_l il ?_
  try simp only [dFor_e_p, dRng1_p, dRng2_p, dOver_p, dOverT_p, dOverS_p, dAltI_p, dEnum_p, dZip_p, dLc_e_p, dWhile_e_p, Int.toNat_natCast, dSeq_p, dChain_p, dOrT_p, dAndT_p, dNotT_p, dGetI_eq_p, Bool.not_true, Bool.not_false, dAsg_p, dOp_p, dVar_p, dC_p, gNm_p, gTp_p, gCn_p, gNl_p, dRet_p, dIf_p, dTest_p, dTru_p, dNot_p, dAnd_p, dOr_p, dNext_p, dDrop_p, dCons_p, dNil_p, dTup_p, dLst_e_p, dEmp_e_p, dEmpG_e_p, dDisp_e_p, dListZip_e_p, dGhE_e, dGh_e, dOverK_e, dFld_e, dSetF_e, dMake_e, dMeth_e, dPar_p, dPar3_p, dSetI_p, dCall_p, dCB_p, dBM_p, dBM0_p, dIfE_p, dNeg_p, dSl_p, dPart_p, dNoP_p, dAug_p, addI_p, dBreak_p, dCont_p, dAlt_p, dYes_p, dPairs_n, dPairs_c, gSubD_p, dBMd_p, addD_ii_p, addD_ss_p, addD_tt_p, subD_ii_p, mulD_ii_p, modD_ii_p, fdivD_ii_p, powE_ii_p, Int.reduceToNat, Int.reducePow, Int.reduceNeg, Int.neg_neg, ltD_ii_p, leD_ii_p, gtD_ii_p, geD_ii_p, ltD_ss_p, leD_ss_p, eqR_ii, eqR_ss, eqR_tt_p, eqR_bb, intR_b, intR_i, dFmt_e, dJs_n, dJs_c, strK_s, dJoined_p, fmtR_s, fmtR_i, strR_s, strR_i, lenR_t, lenR_s, tupleR_t, isNR_p, abs_ii, max_ii, min_ii, truD_b_p, slD_t_p, slD_s_p, inR_t, List.map, List.length, List.replicate, List.cons_append, List.nil_append, List.append_nil, List.getElem?_cons_succ, List.getElem?_cons_zero, Option.some.injEq, exists_eq_left', exists_eq_left, ex2, ex3, exists_eq', List.set_cons_succ, List.set_cons_zero, Nat.reduceAdd, Nat.reduceSub, true_and, and_true, D.bl.injEq, D.int.injEq, D.str.injEq, D.ptr.injEq, D.tup.injEq, decide_eq_true_eq, beq_iff_eq, Bool.false_eq_true, if_true, if_false, reduceIte, wipeD, List.foldr_cons, List.foldr_nil, Nat.reduceLeDiff, List.cons.injEq, and_self, List.length_cons, List.length_nil]
  rw [List.length_map]
  have hm : ∃ m : Nat, 4 ≤ m ∧ m ≤ 14 ∧ (4 + (if (ns.length : Int) < 10 then (ns.length : Int) else 10) : Int) = (m : Int) := by
    split
    · exact ⟨4 + ns.length, by omega, by omega, by omega⟩
    · exact ⟨14, by omega, by omega, by omega⟩
  obtain ⟨m, m3, m12, hm⟩ := hm
  rw [hm]
  refine alloc_st h fun wa C h => ?_
  have h := h.perm (List.perm_append_comm (l₁ := [_]) (l₂ := [_, _]) |>.append_right [(a, c, false)])
  refine row (ws := [[109, 97, 107, 101], [112, 117, 116], [109, 97, 114, 107], [117, 110, 100, 111], [108, 97, 121]]) h .here .here .here (by simp) (by decide) (by decide +kernel) (by omega) (by omega) fun rows rw s2 C rl rnd rok _ rf hs2 h => ?_
  have h : St (fun _ => False) C0 C [(rw, .lst (rows.map ddD), true)] := St.sub h (.cons _ (.cons _ (.cons₂ _ (List.nil_sublist _))))
  try simp only [dFor_e_p, dRng1_p, dRng2_p, dOver_p, dOverT_p, dOverS_p, dAltI_p, dEnum_p, dZip_p, dLc_e_p, dWhile_e_p, Int.toNat_natCast, dSeq_p, dChain_p, dOrT_p, dAndT_p, dNotT_p, dGetI_eq_p, Bool.not_true, Bool.not_false, dAsg_p, dOp_p, dVar_p, dC_p, gNm_p, gTp_p, gCn_p, gNl_p, dRet_p, dIf_p, dTest_p, dTru_p, dNot_p, dAnd_p, dOr_p, dNext_p, dDrop_p, dCons_p, dNil_p, dTup_p, dLst_e_p, dEmp_e_p, dEmpG_e_p, dDisp_e_p, dListZip_e_p, dGhE_e, dGh_e, dOverK_e, dFld_e, dSetF_e, dMake_e, dMeth_e, dPar_p, dPar3_p, dSetI_p, dCall_p, dCB_p, dBM_p, dBM0_p, dIfE_p, dNeg_p, dSl_p, dPart_p, dNoP_p, dAug_p, addI_p, dBreak_p, dCont_p, dAlt_p, dYes_p, dPairs_n, dPairs_c, gSubD_p, dBMd_p, addD_ii_p, addD_ss_p, addD_tt_p, subD_ii_p, mulD_ii_p, modD_ii_p, fdivD_ii_p, powE_ii_p, Int.reduceToNat, Int.reducePow, Int.reduceNeg, Int.neg_neg, ltD_ii_p, leD_ii_p, gtD_ii_p, geD_ii_p, ltD_ss_p, leD_ss_p, eqR_ii, eqR_ss, eqR_tt_p, eqR_bb, intR_b, intR_i, dFmt_e, dJs_n, dJs_c, strK_s, dJoined_p, fmtR_s, fmtR_i, strR_s, strR_i, lenR_t, lenR_s, tupleR_t, isNR_p, abs_ii, max_ii, min_ii, truD_b_p, slD_t_p, slD_s_p, inR_t, List.map, List.length, List.replicate, List.cons_append, List.nil_append, List.append_nil, List.getElem?_cons_succ, List.getElem?_cons_zero, Option.some.injEq, exists_eq_left', exists_eq_left, ex2, ex3, exists_eq', List.set_cons_succ, List.set_cons_zero, Nat.reduceAdd, Nat.reduceSub, true_and, and_true, D.bl.injEq, D.int.injEq, D.str.injEq, D.ptr.injEq, D.tup.injEq, decide_eq_true_eq, beq_iff_eq, Bool.false_eq_true, if_true, if_false, reduceIte, wipeD, List.foldr_cons, List.foldr_nil, Nat.reduceLeDiff, List.cons.injEq, and_self, List.length_cons, List.length_nil]
  refine ⟨rw, rows.map ddD, rfl, .inl (h.get .here), ?_⟩
  refine for_st (fun j sl C => ∃ (x3 x4 x5 x6 x7 x8 x9 : Option D), sl = [some (.ptr a), some (.ptr p), some (.ptr rw), x3, x4, x5, x6, x7, x8, x9] ∧ St (fun _ => False) C0 C [(rw, .lst (rows.map ddD), true)])
    ⟨_, _, _, _, _, _, _, rfl, h⟩ (fun j sl C ⟨_, _, _, _, _, _, _, _, h⟩ => .inl (h.get .here)) (fun j x sl C hj hx hJ => ?_) fun sl C hJ => ?_
  · obtain ⟨x3, x4, x5, x6, x7, x8, x9, rfl, h⟩ := hJ
    simp only [KB.pairD, List.length_map, List.length_zip, rngD_len, Nat.min_self] at hj
    have ex : x = .tup [.int (j : Int), ddD rows[j]] := by
      simp only [KB.pairD, List.getElem?_map, List.zip_eq_zipWith, List.getElem?_zipWith, List.length_map] at hx
      rw [rngD_get hj, List.getElem?_eq_getElem hj] at hx
      simp at hx
      exact hx.symm
    subst ex
    have ok := rok _ (List.getElem_mem hj)
    generalize hd : rows[j] = d at ok
    unfold l_law_3
    try simp only [dFor_e_p, dRng1_p, dRng2_p, dOver_p, dOverT_p, dOverS_p, dAltI_p, dEnum_p, dZip_p, dLc_e_p, dWhile_e_p, Int.toNat_natCast, dSeq_p, dChain_p, dOrT_p, dAndT_p, dNotT_p, dGetI_eq_p, Bool.not_true, Bool.not_false, dAsg_p, dOp_p, dVar_p, dC_p, gNm_p, gTp_p, gCn_p, gNl_p, dRet_p, dIf_p, dTest_p, dTru_p, dNot_p, dAnd_p, dOr_p, dNext_p, dDrop_p, dCons_p, dNil_p, dTup_p, dLst_e_p, dEmp_e_p, dEmpG_e_p, dDisp_e_p, dListZip_e_p, dGhE_e, dGh_e, dOverK_e, dFld_e, dSetF_e, dMake_e, dMeth_e, dPar_p, dPar3_p, dSetI_p, dCall_p, dCB_p, dBM_p, dBM0_p, dIfE_p, dNeg_p, dSl_p, dPart_p, dNoP_p, dAug_p, addI_p, dBreak_p, dCont_p, dAlt_p, dYes_p, dPairs_n, dPairs_c, gSubD_p, dBMd_p, addD_ii_p, addD_ss_p, addD_tt_p, subD_ii_p, mulD_ii_p, modD_ii_p, fdivD_ii_p, powE_ii_p, Int.reduceToNat, Int.reducePow, Int.reduceNeg, Int.neg_neg, ltD_ii_p, leD_ii_p, gtD_ii_p, geD_ii_p, ltD_ss_p, leD_ss_p, eqR_ii, eqR_ss, eqR_tt_p, eqR_bb, intR_b, intR_i, dFmt_e, dJs_n, dJs_c, strK_s, dJoined_p, fmtR_s, fmtR_i, strR_s, strR_i, lenR_t, lenR_s, tupleR_t, isNR_p, abs_ii, max_ii, min_ii, truD_b_p, slD_t_p, slD_s_p, inR_t, List.map, List.length, List.replicate, List.cons_append, List.nil_append, List.append_nil, List.getElem?_cons_succ, List.getElem?_cons_zero, Option.some.injEq, exists_eq_left', exists_eq_left, ex2, ex3, exists_eq', List.set_cons_succ, List.set_cons_zero, Nat.reduceAdd, Nat.reduceSub, true_and, and_true, D.bl.injEq, D.int.injEq, D.str.injEq, D.ptr.injEq, D.tup.injEq, decide_eq_true_eq, beq_iff_eq, Bool.false_eq_true, if_true, if_false, reduceIte, wipeD, List.foldr_cons, List.foldr_nil, Nat.reduceLeDiff, List.cons.injEq, and_self, List.length_cons, List.length_nil]
    refine beside h ok.seen.len ok.st0 (fun x hx => (ok.seen.ok x hx).2.1) (fun x hx => (tx_of (ok.seen.ok x hx).1 (by decide +kernel)).1) fun sms q C hs1 hsl h => ?_
    refine ⟨_, .inl (h.get (by (repeat (first | exact KB.At.here | assumption | apply KB.At.there)))), ?_⟩
    refine lc_map rows (fun d => stD d.st) ddD rfl h (fun _ h => .inl (h.get (by (repeat (first | exact KB.At.here | assumption | apply KB.At.there))))) (fun e C' he h Q' k' => ?_) (by rw [sizeLine_eq]; omega) fun q2 C h => ?_
    · rw [show ddD e = .tup [stD e.st, .tup (e.seen.map seD), .str e.w.wd, e.w.x, e.w.y] from rfl]
      try simp only [dFor_e_p, dRng1_p, dRng2_p, dOver_p, dOverT_p, dOverS_p, dAltI_p, dEnum_p, dZip_p, dLc_e_p, dWhile_e_p, Int.toNat_natCast, dSeq_p, dChain_p, dOrT_p, dAndT_p, dNotT_p, dGetI_eq_p, Bool.not_true, Bool.not_false, dAsg_p, dOp_p, dVar_p, dC_p, gNm_p, gTp_p, gCn_p, gNl_p, dRet_p, dIf_p, dTest_p, dTru_p, dNot_p, dAnd_p, dOr_p, dNext_p, dDrop_p, dCons_p, dNil_p, dTup_p, dLst_e_p, dEmp_e_p, dEmpG_e_p, dDisp_e_p, dListZip_e_p, dGhE_e, dGh_e, dOverK_e, dFld_e, dSetF_e, dMake_e, dMeth_e, dPar_p, dPar3_p, dSetI_p, dCall_p, dCB_p, dBM_p, dBM0_p, dIfE_p, dNeg_p, dSl_p, dPart_p, dNoP_p, dAug_p, addI_p, dBreak_p, dCont_p, dAlt_p, dYes_p, dPairs_n, dPairs_c, gSubD_p, dBMd_p, addD_ii_p, addD_ss_p, addD_tt_p, subD_ii_p, mulD_ii_p, modD_ii_p, fdivD_ii_p, powE_ii_p, Int.reduceToNat, Int.reducePow, Int.reduceNeg, Int.neg_neg, ltD_ii_p, leD_ii_p, gtD_ii_p, geD_ii_p, ltD_ss_p, leD_ss_p, eqR_ii, eqR_ss, eqR_tt_p, eqR_bb, intR_b, intR_i, dFmt_e, dJs_n, dJs_c, strK_s, dJoined_p, fmtR_s, fmtR_i, strR_s, strR_i, lenR_t, lenR_s, tupleR_t, isNR_p, abs_ii, max_ii, min_ii, truD_b_p, slD_t_p, slD_s_p, inR_t, List.map, List.length, List.replicate, List.cons_append, List.nil_append, List.append_nil, List.getElem?_cons_succ, List.getElem?_cons_zero, Option.some.injEq, exists_eq_left', exists_eq_left, ex2, ex3, exists_eq', List.set_cons_succ, List.set_cons_zero, Nat.reduceAdd, Nat.reduceSub, true_and, and_true, D.bl.injEq, D.int.injEq, D.str.injEq, D.ptr.injEq, D.tup.injEq, decide_eq_true_eq, beq_iff_eq, Bool.false_eq_true, if_true, if_false, reduceIte, wipeD, List.foldr_cons, List.foldr_nil, Nat.reduceLeDiff, List.cons.injEq, and_self, List.length_cons, List.length_nil]
      exact ix_t rfl (k' C' h)
    rw [show rows.map (fun d => stD d.st) = (rows.map Dd.st).map stD by rw [List.map_map]; rfl] at h
    refine add_st h (by (repeat (first | exact KB.At.here | assumption | apply KB.At.there))) (by (repeat (first | exact KB.At.here | assumption | apply KB.At.there))) (by rw [sizeLine_eq]; simp only [List.length_map]; omega) fun q3 C h => ?_
    rw [← List.map_append] at h
    have hs2 : ∀ sm ∈ sms ++ rows.map Dd.st, 1 ≤ sm.1 := fun sm hm => by
      rcases List.mem_append.mp hm with e | e
      · exact hs1 sm e
      · obtain ⟨x, hx, rfl⟩ := List.mem_map.mp e
        exact (rok x hx).st0
    generalize sms ++ rows.map Dd.st = all at h hs2
    refine ⟨_, .inl (h.get .here), ?_⟩
    have h : St (fun _ => False) C0 C [(q3, .lst (all.map stD), true), (rw, .lst (rows.map ddD), true)] := St.sub h (.cons₂ _ (.cons _ (.cons _ (List.Sublist.refl _))))
    refine for_st (fun i sl C => ∃ (x5 x6 x7 x8 x9 : Option D), sl = [some (.ptr a), some (.ptr p), some (.ptr rw), some (.int (j : Int)), some (ddD d), x5, x6, x7, x8, x9] ∧ St (fun _ => False) C0 C [(q3, .lst (all.map stD), true), (rw, .lst (rows.map ddD), true)])
      ⟨_, _, _, _, _, rfl, h⟩ (fun i sl C ⟨_, _, _, _, _, _, h⟩ => .inl (h.get .here)) (fun i x sl C hi hx hI => ?_) fun sl C hI => ?_
    · obtain ⟨x5, x6, x7, x8, x9, rfl, h⟩ := hI
      rw [List.length_map] at hi
      rw [List.getElem?_map, List.getElem?_eq_getElem hi] at hx
      cases hx
      have h0 := hs2 _ (List.getElem_mem hi)
      generalize all[i] = sm at h0
      unfold l_law_1
      try simp only [dFor_e_p, dRng1_p, dRng2_p, dOver_p, dOverT_p, dOverS_p, dAltI_p, dEnum_p, dZip_p, dLc_e_p, dWhile_e_p, Int.toNat_natCast, dSeq_p, dChain_p, dOrT_p, dAndT_p, dNotT_p, dGetI_eq_p, Bool.not_true, Bool.not_false, dAsg_p, dOp_p, dVar_p, dC_p, gNm_p, gTp_p, gCn_p, gNl_p, dRet_p, dIf_p, dTest_p, dTru_p, dNot_p, dAnd_p, dOr_p, dNext_p, dDrop_p, dCons_p, dNil_p, dTup_p, dLst_e_p, dEmp_e_p, dEmpG_e_p, dDisp_e_p, dListZip_e_p, dGhE_e, dGh_e, dOverK_e, dFld_e, dSetF_e, dMake_e, dMeth_e, dPar_p, dPar3_p, dSetI_p, dCall_p, dCB_p, dBM_p, dBM0_p, dIfE_p, dNeg_p, dSl_p, dPart_p, dNoP_p, dAug_p, addI_p, dBreak_p, dCont_p, dAlt_p, dYes_p, dPairs_n, dPairs_c, gSubD_p, dBMd_p, addD_ii_p, addD_ss_p, addD_tt_p, subD_ii_p, mulD_ii_p, modD_ii_p, fdivD_ii_p, powE_ii_p, Int.reduceToNat, Int.reducePow, Int.reduceNeg, Int.neg_neg, ltD_ii_p, leD_ii_p, gtD_ii_p, geD_ii_p, ltD_ss_p, leD_ss_p, eqR_ii, eqR_ss, eqR_tt_p, eqR_bb, intR_b, intR_i, dFmt_e, dJs_n, dJs_c, strK_s, dJoined_p, fmtR_s, fmtR_i, strR_s, strR_i, lenR_t, lenR_s, tupleR_t, isNR_p, abs_ii, max_ii, min_ii, truD_b_p, slD_t_p, slD_s_p, inR_t, List.map, List.length, List.replicate, List.cons_append, List.nil_append, List.append_nil, List.getElem?_cons_succ, List.getElem?_cons_zero, Option.some.injEq, exists_eq_left', exists_eq_left, ex2, ex3, exists_eq', List.set_cons_succ, List.set_cons_zero, Nat.reduceAdd, Nat.reduceSub, true_and, and_true, D.bl.injEq, D.int.injEq, D.str.injEq, D.ptr.injEq, D.tup.injEq, decide_eq_true_eq, beq_iff_eq, Bool.false_eq_true, if_true, if_false, reduceIte, wipeD, List.foldr_cons, List.foldr_nil, Nat.reduceLeDiff, List.cons.injEq, and_self, List.length_cons, List.length_nil]
      refine saw h ok.seen.nd fun C h => ?_
      refine ⟨_, _, "bool", true, rfl, rfl, rfl, true, rfl, ?_⟩
      rw [if_neg (by decide)]
      refine due_ h fun C h => ?_
      rw [due_gt h0, eqR_bb]
      refine ⟨_, rfl, ?_⟩
      rw [if_neg (by simp)]
      exact ⟨C, Sub.refl _, _, _, _, _, _, ⟨rfl, rfl, rfl, rfl, rfl⟩, h⟩
    · obtain ⟨x5, x6, x7, x8, x9, rfl, h⟩ := hI
      have h := h.tail
      unfold r_law_3
      try simp only [dFor_e_p, dRng1_p, dRng2_p, dOver_p, dOverT_p, dOverS_p, dAltI_p, dEnum_p, dZip_p, dLc_e_p, dWhile_e_p, Int.toNat_natCast, dSeq_p, dChain_p, dOrT_p, dAndT_p, dNotT_p, dGetI_eq_p, Bool.not_true, Bool.not_false, dAsg_p, dOp_p, dVar_p, dC_p, gNm_p, gTp_p, gCn_p, gNl_p, dRet_p, dIf_p, dTest_p, dTru_p, dNot_p, dAnd_p, dOr_p, dNext_p, dDrop_p, dCons_p, dNil_p, dTup_p, dLst_e_p, dEmp_e_p, dEmpG_e_p, dDisp_e_p, dListZip_e_p, dGhE_e, dGh_e, dOverK_e, dFld_e, dSetF_e, dMake_e, dMeth_e, dPar_p, dPar3_p, dSetI_p, dCall_p, dCB_p, dBM_p, dBM0_p, dIfE_p, dNeg_p, dSl_p, dPart_p, dNoP_p, dAug_p, addI_p, dBreak_p, dCont_p, dAlt_p, dYes_p, dPairs_n, dPairs_c, gSubD_p, dBMd_p, addD_ii_p, addD_ss_p, addD_tt_p, subD_ii_p, mulD_ii_p, modD_ii_p, fdivD_ii_p, powE_ii_p, Int.reduceToNat, Int.reducePow, Int.reduceNeg, Int.neg_neg, ltD_ii_p, leD_ii_p, gtD_ii_p, geD_ii_p, ltD_ss_p, leD_ss_p, eqR_ii, eqR_ss, eqR_tt_p, eqR_bb, intR_b, intR_i, dFmt_e, dJs_n, dJs_c, strK_s, dJoined_p, fmtR_s, fmtR_i, strR_s, strR_i, lenR_t, lenR_s, tupleR_t, isNR_p, abs_ii, max_ii, min_ii, truD_b_p, slD_t_p, slD_s_p, inR_t, List.map, List.length, List.replicate, List.cons_append, List.nil_append, List.append_nil, List.getElem?_cons_succ, List.getElem?_cons_zero, Option.some.injEq, exists_eq_left', exists_eq_left, ex2, ex3, exists_eq', List.set_cons_succ, List.set_cons_zero, Nat.reduceAdd, Nat.reduceSub, true_and, and_true, D.bl.injEq, D.int.injEq, D.str.injEq, D.ptr.injEq, D.tup.injEq, decide_eq_true_eq, beq_iff_eq, Bool.false_eq_true, if_true, if_false, reduceIte, wipeD, List.foldr_cons, List.foldr_nil, Nat.reduceLeDiff, List.cons.injEq, and_self, List.length_cons, List.length_nil]
      refine sl_st h .here fun q4 C h => ?_
      rw [cut_drop, ← List.map_drop] at h
      have hdr : rows.drop j = d :: rows.drop (j + 1) := by rw [List.drop_eq_getElem_cons hj, hd]
      have hlt : ∀ e ∈ rows.drop j, gt d.seen e.st.2 < e.st.1 := fun e he => by
        have pw := rf.late.sublist (List.drop_sublist j rows)
        rw [hdr] at he pw
        rcases List.mem_cons.mp he with z | z
        · rw [z]; exact rf.self d (by rw [← hd]; exact List.getElem_mem hj)
        · exact (List.pairwise_cons.mp pw).1 e z
      have dl : (rows.drop j).length ≤ 14 := by rw [List.length_drop]; omega
      generalize rows.drop j = ds at h hlt dl
      refine ⟨_, .inl (h.get .here), ?_⟩
      refine lc_map ds (fun e => .bl false) ddD rfl h (fun _ h => .inl (h.get .here)) (fun e C' he h Q' k' => ?_) (by rw [sizeLine_eq]; omega) fun q5 C h => ?_
      · try simp only [dFor_e_p, dRng1_p, dRng2_p, dOver_p, dOverT_p, dOverS_p, dAltI_p, dEnum_p, dZip_p, dLc_e_p, dWhile_e_p, Int.toNat_natCast, dSeq_p, dChain_p, dOrT_p, dAndT_p, dNotT_p, dGetI_eq_p, Bool.not_true, Bool.not_false, dAsg_p, dOp_p, dVar_p, dC_p, gNm_p, gTp_p, gCn_p, gNl_p, dRet_p, dIf_p, dTest_p, dTru_p, dNot_p, dAnd_p, dOr_p, dNext_p, dDrop_p, dCons_p, dNil_p, dTup_p, dLst_e_p, dEmp_e_p, dEmpG_e_p, dDisp_e_p, dListZip_e_p, dGhE_e, dGh_e, dOverK_e, dFld_e, dSetF_e, dMake_e, dMeth_e, dPar_p, dPar3_p, dSetI_p, dCall_p, dCB_p, dBM_p, dBM0_p, dIfE_p, dNeg_p, dSl_p, dPart_p, dNoP_p, dAug_p, addI_p, dBreak_p, dCont_p, dAlt_p, dYes_p, dPairs_n, dPairs_c, gSubD_p, dBMd_p, addD_ii_p, addD_ss_p, addD_tt_p, subD_ii_p, mulD_ii_p, modD_ii_p, fdivD_ii_p, powE_ii_p, Int.reduceToNat, Int.reducePow, Int.reduceNeg, Int.neg_neg, ltD_ii_p, leD_ii_p, gtD_ii_p, geD_ii_p, ltD_ss_p, leD_ss_p, eqR_ii, eqR_ss, eqR_tt_p, eqR_bb, intR_b, intR_i, dFmt_e, dJs_n, dJs_c, strK_s, dJoined_p, fmtR_s, fmtR_i, strR_s, strR_i, lenR_t, lenR_s, tupleR_t, isNR_p, abs_ii, max_ii, min_ii, truD_b_p, slD_t_p, slD_s_p, inR_t, List.map, List.length, List.replicate, List.cons_append, List.nil_append, List.append_nil, List.getElem?_cons_succ, List.getElem?_cons_zero, Option.some.injEq, exists_eq_left', exists_eq_left, ex2, ex3, exists_eq', List.set_cons_succ, List.set_cons_zero, Nat.reduceAdd, Nat.reduceSub, true_and, and_true, D.bl.injEq, D.int.injEq, D.str.injEq, D.ptr.injEq, D.tup.injEq, decide_eq_true_eq, beq_iff_eq, Bool.false_eq_true, if_true, if_false, reduceIte, wipeD, List.foldr_cons, List.foldr_nil, Nat.reduceLeDiff, List.cons.injEq, and_self, List.length_cons, List.length_nil]
        refine ix_t (xs := [stD e.st, .tup (e.seen.map seD), .str e.w.wd, e.w.x, e.w.y]) rfl ?_
        refine saw h ok.seen.nd fun C h => ?_
        rw [decide_eq_false (by have := hlt e he; omega)]
        exact k' C h
      rw [show ds.map (fun _ => D.bl false) = (ds.map fun _ => false).map D.bl by rw [List.map_map]; rfl] at h
      refine any_st h .here ?_
      refine ⟨false, ?_, ?_⟩
      · rw [show (ds.map fun _ => false).any id = false by rw [List.any_map]; exact List.any_eq_false.mpr fun _ _ => Bool.false_ne_true]
        rfl
      rw [if_neg (by decide)]
      have h := h.tail.tail
      unfold r_law_2
      try simp only [dFor_e_p, dRng1_p, dRng2_p, dOver_p, dOverT_p, dOverS_p, dAltI_p, dEnum_p, dZip_p, dLc_e_p, dWhile_e_p, Int.toNat_natCast, dSeq_p, dChain_p, dOrT_p, dAndT_p, dNotT_p, dGetI_eq_p, Bool.not_true, Bool.not_false, dAsg_p, dOp_p, dVar_p, dC_p, gNm_p, gTp_p, gCn_p, gNl_p, dRet_p, dIf_p, dTest_p, dTru_p, dNot_p, dAnd_p, dOr_p, dNext_p, dDrop_p, dCons_p, dNil_p, dTup_p, dLst_e_p, dEmp_e_p, dEmpG_e_p, dDisp_e_p, dListZip_e_p, dGhE_e, dGh_e, dOverK_e, dFld_e, dSetF_e, dMake_e, dMeth_e, dPar_p, dPar3_p, dSetI_p, dCall_p, dCB_p, dBM_p, dBM0_p, dIfE_p, dNeg_p, dSl_p, dPart_p, dNoP_p, dAug_p, addI_p, dBreak_p, dCont_p, dAlt_p, dYes_p, dPairs_n, dPairs_c, gSubD_p, dBMd_p, addD_ii_p, addD_ss_p, addD_tt_p, subD_ii_p, mulD_ii_p, modD_ii_p, fdivD_ii_p, powE_ii_p, Int.reduceToNat, Int.reducePow, Int.reduceNeg, Int.neg_neg, ltD_ii_p, leD_ii_p, gtD_ii_p, geD_ii_p, ltD_ss_p, leD_ss_p, eqR_ii, eqR_ss, eqR_tt_p, eqR_bb, intR_b, intR_i, dFmt_e, dJs_n, dJs_c, strK_s, dJoined_p, fmtR_s, fmtR_i, strR_s, strR_i, lenR_t, lenR_s, tupleR_t, isNR_p, abs_ii, max_ii, min_ii, truD_b_p, slD_t_p, slD_s_p, inR_t, List.map, List.length, List.replicate, List.cons_append, List.nil_append, List.append_nil, List.getElem?_cons_succ, List.getElem?_cons_zero, Option.some.injEq, exists_eq_left', exists_eq_left, ex2, ex3, exists_eq', List.set_cons_succ, List.set_cons_zero, Nat.reduceAdd, Nat.reduceSub, true_and, and_true, D.bl.injEq, D.int.injEq, D.str.injEq, D.ptr.injEq, D.tup.injEq, decide_eq_true_eq, beq_iff_eq, Bool.false_eq_true, if_true, if_false, reduceIte, wipeD, List.foldr_cons, List.foldr_nil, Nat.reduceLeDiff, List.cons.injEq, and_self, List.length_cons, List.length_nil]
      refine sl_st h .here fun q6 C h => ?_
      have hct : cutL (rows.map ddD) none (some (j : Int)) = (rows.take j).map ddD := by
        unfold cutL
        rw [HT.sIx_none, HT.sIx_nat, List.drop_zero, Nat.sub_zero, List.length_map, Nat.min_eq_left (by omega), List.map_take]
      rw [hct] at h
      have hbf : ∀ e ∈ rows.take j, (e.st.2 = d.st.2 → e.st.1 ≤ gt d.seen e.st.2) ∧ (e.st.1 ≤ gt d.seen e.st.2 → ∀ k, gt e.seen k ≤ gt d.seen k) ∧ e ∈ rows := fun e he => by
        have hs : rows = rows.take j ++ d :: rows.drop (j + 1) := by rw [← hd, List.getElem_cons_drop, List.take_append_drop]
        have p1 := rf.same
        have p2 := rf.caus
        rw [hs] at p1 p2
        exact ⟨(List.pairwise_append.mp p1).2.2 e he d List.mem_cons_self, (List.pairwise_append.mp p2).2.2 e he d List.mem_cons_self, List.mem_of_mem_take he⟩
      generalize rows.take j = bs at h hbf
      refine ⟨_, .inl (h.get .here), ?_⟩
      refine for_st (fun i sl C => ∃ (x5 x6 x7 x8 x9 : Option D), sl = [some (.ptr a), some (.ptr p), some (.ptr rw), some (.int (j : Int)), some (ddD d), x5, x6, x7, x8, x9] ∧ St (fun _ => False) C0 C [(q6, .lst (bs.map ddD), true), (rw, .lst (rows.map ddD), true)])
        ⟨_, _, _, _, _, rfl, h⟩ (fun i sl C ⟨_, _, _, _, _, _, h⟩ => .inl (h.get .here)) (fun i x sl C hi hx hI => ?_) fun sl C hI => ?_
      · obtain ⟨x5, x6, x7, x8, x9, rfl, h⟩ := hI
        rw [List.length_map] at hi
        rw [List.getElem?_map, List.getElem?_eq_getElem hi] at hx
        cases hx
        obtain ⟨f1, f2, f3⟩ := hbf _ (List.getElem_mem hi)
        generalize bs[i] = e at f1 f2 f3
        have oke := rok e f3
        unfold l_law_2
        try simp only [dFor_e_p, dRng1_p, dRng2_p, dOver_p, dOverT_p, dOverS_p, dAltI_p, dEnum_p, dZip_p, dLc_e_p, dWhile_e_p, Int.toNat_natCast, dSeq_p, dChain_p, dOrT_p, dAndT_p, dNotT_p, dGetI_eq_p, Bool.not_true, Bool.not_false, dAsg_p, dOp_p, dVar_p, dC_p, gNm_p, gTp_p, gCn_p, gNl_p, dRet_p, dIf_p, dTest_p, dTru_p, dNot_p, dAnd_p, dOr_p, dNext_p, dDrop_p, dCons_p, dNil_p, dTup_p, dLst_e_p, dEmp_e_p, dEmpG_e_p, dDisp_e_p, dListZip_e_p, dGhE_e, dGh_e, dOverK_e, dFld_e, dSetF_e, dMake_e, dMeth_e, dPar_p, dPar3_p, dSetI_p, dCall_p, dCB_p, dBM_p, dBM0_p, dIfE_p, dNeg_p, dSl_p, dPart_p, dNoP_p, dAug_p, addI_p, dBreak_p, dCont_p, dAlt_p, dYes_p, dPairs_n, dPairs_c, gSubD_p, dBMd_p, addD_ii_p, addD_ss_p, addD_tt_p, subD_ii_p, mulD_ii_p, modD_ii_p, fdivD_ii_p, powE_ii_p, Int.reduceToNat, Int.reducePow, Int.reduceNeg, Int.neg_neg, ltD_ii_p, leD_ii_p, gtD_ii_p, geD_ii_p, ltD_ss_p, leD_ss_p, eqR_ii, eqR_ss, eqR_tt_p, eqR_bb, intR_b, intR_i, dFmt_e, dJs_n, dJs_c, strK_s, dJoined_p, fmtR_s, fmtR_i, strR_s, strR_i, lenR_t, lenR_s, tupleR_t, isNR_p, abs_ii, max_ii, min_ii, truD_b_p, slD_t_p, slD_s_p, inR_t, List.map, List.length, List.replicate, List.cons_append, List.nil_append, List.append_nil, List.getElem?_cons_succ, List.getElem?_cons_zero, Option.some.injEq, exists_eq_left', exists_eq_left, ex2, ex3, exists_eq', List.set_cons_succ, List.set_cons_zero, Nat.reduceAdd, Nat.reduceSub, true_and, and_true, D.bl.injEq, D.int.injEq, D.str.injEq, D.ptr.injEq, D.tup.injEq, decide_eq_true_eq, beq_iff_eq, Bool.false_eq_true, if_true, if_false, reduceIte, wipeD, List.foldr_cons, List.foldr_nil, Nat.reduceLeDiff, List.cons.injEq, and_self, List.length_cons, List.length_nil]
        refine ix_t (xs := [stD e.st, .tup (e.seen.map seD), .str e.w.wd, e.w.x, e.w.y]) rfl ?_
        rw [show stD e.st = .tup [.int e.st.1, .str e.st.2] from rfl]
        refine ix_t rfl ?_
        refine ix_t (xs := [stD d.st, .tup (d.seen.map seD), .str d.w.wd, d.w.x, d.w.y]) rfl ?_
        rw [show stD d.st = .tup [.int d.st.1, .str d.st.2] from rfl]
        refine ix_t rfl ?_
        try simp only [dFor_e_p, dRng1_p, dRng2_p, dOver_p, dOverT_p, dOverS_p, dAltI_p, dEnum_p, dZip_p, dLc_e_p, dWhile_e_p, Int.toNat_natCast, dSeq_p, dChain_p, dOrT_p, dAndT_p, dNotT_p, dGetI_eq_p, Bool.not_true, Bool.not_false, dAsg_p, dOp_p, dVar_p, dC_p, gNm_p, gTp_p, gCn_p, gNl_p, dRet_p, dIf_p, dTest_p, dTru_p, dNot_p, dAnd_p, dOr_p, dNext_p, dDrop_p, dCons_p, dNil_p, dTup_p, dLst_e_p, dEmp_e_p, dEmpG_e_p, dDisp_e_p, dListZip_e_p, dGhE_e, dGh_e, dOverK_e, dFld_e, dSetF_e, dMake_e, dMeth_e, dPar_p, dPar3_p, dSetI_p, dCall_p, dCB_p, dBM_p, dBM0_p, dIfE_p, dNeg_p, dSl_p, dPart_p, dNoP_p, dAug_p, addI_p, dBreak_p, dCont_p, dAlt_p, dYes_p, dPairs_n, dPairs_c, gSubD_p, dBMd_p, addD_ii_p, addD_ss_p, addD_tt_p, subD_ii_p, mulD_ii_p, modD_ii_p, fdivD_ii_p, powE_ii_p, Int.reduceToNat, Int.reducePow, Int.reduceNeg, Int.neg_neg, ltD_ii_p, leD_ii_p, gtD_ii_p, geD_ii_p, ltD_ss_p, leD_ss_p, eqR_ii, eqR_ss, eqR_tt_p, eqR_bb, intR_b, intR_i, dFmt_e, dJs_n, dJs_c, strK_s, dJoined_p, fmtR_s, fmtR_i, strR_s, strR_i, lenR_t, lenR_s, tupleR_t, isNR_p, abs_ii, max_ii, min_ii, truD_b_p, slD_t_p, slD_s_p, inR_t, List.map, List.length, List.replicate, List.cons_append, List.nil_append, List.append_nil, List.getElem?_cons_succ, List.getElem?_cons_zero, Option.some.injEq, exists_eq_left', exists_eq_left, ex2, ex3, exists_eq', List.set_cons_succ, List.set_cons_zero, Nat.reduceAdd, Nat.reduceSub, true_and, and_true, D.bl.injEq, D.int.injEq, D.str.injEq, D.ptr.injEq, D.tup.injEq, decide_eq_true_eq, beq_iff_eq, Bool.false_eq_true, if_true, if_false, reduceIte, wipeD, List.foldr_cons, List.foldr_nil, Nat.reduceLeDiff, List.cons.injEq, and_self, List.length_cons, List.length_nil]
        split
        · rename_i ep
          refine ix_t (xs := [stD e.st, .tup (e.seen.map seD), .str e.w.wd, e.w.x, e.w.y]) rfl ?_
          refine saw h ok.seen.nd fun C h => ?_
          refine ⟨_, rfl, ?_⟩
          rw [if_neg (by simpa using f1 ep)]
          refine part h ok.seen.nd oke.seen.nd oke.seen.len f2 fun x8 x9 C h => ?_
          exact ⟨C, Sub.refl _, _, _, _, _, _, rfl, h⟩
        · refine part h ok.seen.nd oke.seen.nd oke.seen.len f2 fun x8 x9 C h => ?_
          exact ⟨C, Sub.refl _, _, _, _, _, _, rfl, h⟩
      · obtain ⟨x5, x6, x7, x8, x9, rfl, h⟩ := hI
        exact ⟨C, Sub.refl _, _, _, _, _, _, _, _, rfl, h.tail⟩
  · obtain ⟨x3, x4, x5, x6, x7, x8, x9, rfl, h⟩ := hJ
    unfold r_law_4
    try simp only [dFor_e_p, dRng1_p, dRng2_p, dOver_p, dOverT_p, dOverS_p, dAltI_p, dEnum_p, dZip_p, dLc_e_p, dWhile_e_p, Int.toNat_natCast, dSeq_p, dChain_p, dOrT_p, dAndT_p, dNotT_p, dGetI_eq_p, Bool.not_true, Bool.not_false, dAsg_p, dOp_p, dVar_p, dC_p, gNm_p, gTp_p, gCn_p, gNl_p, dRet_p, dIf_p, dTest_p, dTru_p, dNot_p, dAnd_p, dOr_p, dNext_p, dDrop_p, dCons_p, dNil_p, dTup_p, dLst_e_p, dEmp_e_p, dEmpG_e_p, dDisp_e_p, dListZip_e_p, dGhE_e, dGh_e, dOverK_e, dFld_e, dSetF_e, dMake_e, dMeth_e, dPar_p, dPar3_p, dSetI_p, dCall_p, dCB_p, dBM_p, dBM0_p, dIfE_p, dNeg_p, dSl_p, dPart_p, dNoP_p, dAug_p, addI_p, dBreak_p, dCont_p, dAlt_p, dYes_p, dPairs_n, dPairs_c, gSubD_p, dBMd_p, addD_ii_p, addD_ss_p, addD_tt_p, subD_ii_p, mulD_ii_p, modD_ii_p, fdivD_ii_p, powE_ii_p, Int.reduceToNat, Int.reducePow, Int.reduceNeg, Int.neg_neg, ltD_ii_p, leD_ii_p, gtD_ii_p, geD_ii_p, ltD_ss_p, leD_ss_p, eqR_ii, eqR_ss, eqR_tt_p, eqR_bb, intR_b, intR_i, dFmt_e, dJs_n, dJs_c, strK_s, dJoined_p, fmtR_s, fmtR_i, strR_s, strR_i, lenR_t, lenR_s, tupleR_t, isNR_p, abs_ii, max_ii, min_ii, truD_b_p, slD_t_p, slD_s_p, inR_t, List.map, List.length, List.replicate, List.cons_append, List.nil_append, List.append_nil, List.getElem?_cons_succ, List.getElem?_cons_zero, Option.some.injEq, exists_eq_left', exists_eq_left, ex2, ex3, exists_eq', List.set_cons_succ, List.set_cons_zero, Nat.reduceAdd, Nat.reduceSub, true_and, and_true, D.bl.injEq, D.int.injEq, D.str.injEq, D.ptr.injEq, D.tup.injEq, decide_eq_true_eq, beq_iff_eq, Bool.false_eq_true, if_true, if_false, reduceIte, wipeD, List.foldr_cons, List.foldr_nil, Nat.reduceLeDiff, List.cons.injEq, and_self, List.length_cons, List.length_nil]
    exact ⟨C, Sub.refl _⟩
end K15

open PySem PySem.W PyProof.Rows
set_option maxRecDepth 100000 in
set_option maxHeartbeats 0 in
theorem PySem.Challenge.cw_keptpages_k15_what_was_seen_holds : PySem.Challenge.rw_keptpages_k15_what_was_seen.Holds := by
  w_on; o_law; k_head; (case hw => w_witness2)
  k_fill
  refine KB.walk_kb (l := PySem.Challenge.rw_keptpages_k15_what_was_seen) (n := 63) (k := 6) (x := "_law_script") K15.law_true rfl (by decide) rfl ⟨rfl, by decide, by decide⟩ (fun w h Y => PySem.W.kIn_of Y) ?hNoLists ?F
  case hNoLists =>
    intro w
    kernel_rfl
  case F =>
    intro w mg fa h KX G hmg
    refine' K15.all_mk KX G hmg ?a1 ?l1 ?c1 ?k1 ?a2 ?l2 ?c2 ?k2 ?a3 ?l3 ?c3 ?k3 ?a4 ?l4 ?c4 ?k4 ?a5 ?l5 ?c5 ?k5 ?a6 ?l6 ?c6 ?k6 ?a7 ?l7 ?c7 ?k7 ?a8 ?l8 ?c8 ?k8 ?a9 ?l9 ?c9 ?k9 ?a10 ?l10 ?c10 ?k10 ?a11 ?l11 ?c11 ?k11 ?a12 ?l12 ?c12 ?k12 ?z_abs ?z_all ?z_any ?z_bool ?z_dict ?z_enumerate ?z_isinstance ?z_len ?z_list ?z_max ?z_min ?z_range ?z_sorted ?z_tuple ?kt
    (case a1 => k_is); (case l1 => k_is); (case c1 => k_is); (case k1 => k_is); (case a2 => k_is); (case l2 => k_is); (case c2 => k_is); (case k2 => k_is); (case a3 => k_is); (case l3 => k_is); (case c3 => k_is); (case k3 => k_is); (case a4 => k_is); (case l4 => k_is); (case c4 => k_is); (case k4 => k_is); (case a5 => k_is); (case l5 => k_is); (case c5 => k_is); (case k5 => k_is); (case a6 => k_is); (case l6 => k_is); (case c6 => k_is); (case k6 => k_is); (case a7 => k_is); (case l7 => k_is); (case c7 => k_is); (case k7 => k_is); (case a8 => k_is); (case l8 => k_is); (case c8 => k_is); (case k8 => k_is); (case a9 => k_is); (case l9 => k_is); (case c9 => k_is); (case k9 => k_is); (case a10 => k_is); (case l10 => k_is); (case c10 => k_is); (case k10 => k_is); (case a11 => k_is); (case l11 => k_is); (case c11 => k_is); (case k11 => k_is); (case a12 => k_is); (case l12 => k_is); (case c12 => k_is); (case k12 => k_is); (case z_abs => k_is); (case z_all => k_is); (case z_any => k_is); (case z_bool => k_is); (case z_dict => k_is); (case z_enumerate => k_is); (case z_isinstance => k_is); (case z_len => k_is); (case z_list => k_is); (case z_max => k_is); (case z_min => k_is); (case z_range => k_is); (case z_sorted => k_is); (case z_tuple => k_is); (case kt => kernel_rfl)
