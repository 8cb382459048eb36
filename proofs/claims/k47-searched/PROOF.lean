import PyProof.Rows.All
import Wide.All
import OpenK.AllK
import Wide.FinOn
import HandS.ForMost
import HandS.TupSets
import KE.KDictKeyed
import HandS.Exc
import HandS.List
import HandS.Words
import HandS.TupAny
import HandS.Flow
import HandS.IsInst
import HandS.Wide
import HandS.Walk
import PyProof.NeKinds
import HandS.Ends
import HandS.SetKeys
import KE.SortData
import KE.KDictCopyH
import PyProof.CollectStr
import HandS.More
import HandS.Iter
import HandS.TupLe
import HandS.Style
import PyProof.ListStr
import HandS.StrMore
import PyProof.StrOps2
import PyProof.RangeFor
import HandS.WordsDict
import HandS.ListItems
import KE.KDictZip
import KE.KTurns
import PyProof.ReprRoads
import PyProof.ReprBulk
import HandS.FStr
import KE.KFmtOwn
import HandS.SlotsOwn
import HandS.RaiseMore
import PyProof.SumAny
import PyProof.Rows.SeqMore
import HandS.ExcValue
import HandS.SortKw
import KE.KDictPairs
import KE.DataFind
import PyProof.WalkInts
import HandS.TryOnly
import HandS.ExcOwn
import HandS.ExcInit
import HandS.WordsExc
import HandS.Defaults
import KE.KExcIs
import HandS.ExcField
import HandS.Text
import KE.KIntText
import HandS.IntHex
import HandS.Replace
import PyProof.Draws
import PyProof.CallFns
import PyProof.StrLawsRepr
import KE.DataEq
import KE.DataMinMax
import OpenK.KOps
import HandS.OwnEq
import HandS.RevTup
import PyProof.SliceStr2
import PyProof.DictUpdate
import KE.GoesEnumKw
import PyProof.Rows.CallKwBuiltin
import HandS.MakeKw
import PyProof.RowDictHeap
import KE.KDictWalk
import HandS.CallLocal
import HandS.TupLen
import HandS.Zip
import HandS.TupMul
import HandS.Lambda
import KE.SortKeyHeap
import KE.KSortKey
import KE.KNestM
import HandS.EndTab
import KE.DataMinKey
import KE.GoesZip
import KE.GoesMore
import KE.DataCmp
import HandS.Dict
import PyProof.DictWalks
import PyProof.DictValues
import KE.KDictDisplayH
import HandS.Conv
import HandS.ReplaceLit
import PyProof.StrLawsReplace
import KE.KStrOpen
import PySem.Challenge.RW_keptpages_k47_searched_by_own_reading
set_option Elab.async false
set_option linter.all false
set_option maxRecDepth 100000
set_option maxHeartbeats 4000000
/-! KA: a set at a place, by its rows. -/
namespace KB
open PySem PySem.Spec PyProof.Rows L2
abbrev Rw := Value × NestedKey
def rowX (w : World) (p : Rw) : Int × Value := (p.2.hash w, p.1)
/-- the set at a, by its rows -/
structure SetX (w : World) (h : Heap) (a : Addr) (L : List Rw) (es : Array (Int × Value)) (ep : Nat) (t : SetTable) : Prop where
  ob : ∃ o, h.get? a = some o ∧ o.ExactSet ∧ o.data = .set es ep t
  rows : es.toList = L.map (rowX w)
  nd : (L.map (·.2)).Nodup
  fits : t.fits es.size = true
  ris : Ris t.place.toList
  led : w.params.followText "set-order" = true ∨ t.led = true
theorem SetX.size {w : World} {h : Heap} {a : Addr} {L : List Rw} {es : Array (Int × Value)} {ep : Nat} {t : SetTable} (R : SetX w h a L es ep t) : es.size = L.length := by
  have := congrArg List.length R.rows
  simpa using this
theorem SetX.keep {w : World} {h h' : Heap} {a : Addr} {L : List Rw} {es : Array (Int × Value)} {ep : Nat} {t : SetTable} (R : SetX w h a L es ep t) (k : ∀ o, h.get? a = some o → h'.get? a = some o) : SetX w h' a L es ep t := by
  obtain ⟨o, ho, r⟩ := R.ob
  exact ⟨⟨o, k o ho, r⟩, R.rows, R.nd, R.fits, R.ris, R.led⟩
abbrev hsX (w : World) (L : List Rw) : List Int := L.map fun p => p.2.hash w
/-- a set of tuples at a -/
structure SetY (w : World) (h : Heap) (a : Addr) (L : List Rw) (es : Array (Int × Value)) (ep : Nat) (t : SetTable) : Prop where
  x : SetX w h a L es ep t
  tab : TabOk t (hsX w L)
  room : L.length * 5 < t.mask * 3
  few : L.length < 64
/-- the set among the rows' own: by the scan -/
def ScanJ (w : World) (S : Addr) (h : Heap) (L : List Rw) : Prop := ∃ es ep t, SetX w h S L es ep t
def TabJ (w : World) (S : Addr) (h : Heap) (L : List Rw) : Prop := ∃ es ep t, SetY w h S L es ep t
/-- the set as a thing of the heap -/
def SetP (w : World) (a : Addr) (L : List Rw) (h : Heap) : Prop := (ScanJ w a h L ∨ TabJ w a h L) ∧ L.length < 4000
def SetHO (w : World) (a : Addr) (L : List Rw) : HO := .ext (SetP w a L)
end KB
/-! KXz: a caught exception as a tracked thing. -/
namespace KB
open PySem PySem.Spec PyProof.Rows
open L2
/-- a caught exception at a -/
def exv (a : Addr) (cls : Value) (d : Option Addr) : HO := .ext fun h => ∃ oe vs, h.get? a = some oe ∧ Zc cls d oe ∧ oe.data = .fields vs
end KB
/-! KT: tuples that are made here have no dict of their own. -/
namespace L2
open PySem PySem.Spec PyProof.Rows
section
variable {X : Cx} {pos : Pos} {es : List Expr} {t : TA}
theorem new_frz {P : Program} {w : World} {H : Hp} {h : Heap} {xs : List V} {its : List Value} (z : xs.length ≤ sizeLine) (r : Vals xs its) : ObjOk P w H (h.push { cls := .type "tuple", data := .seq its.toArray }) h.objs.size (.frz { cls := .type "tuple", data := .seq its.toArray } (.tup xs)) :=
  ⟨Heap.get?_push_size _ rfl, z, its, r, IsTup.new _ _⟩
def tTupF (t : TA) : TE := fun σ H Q => t σ H fun xs H1 => xs.length ≤ sizeLine ∧ ∀ p ob, H1 p = none → ob.dict = none → Q (.ref p) (upd H1 p (.frz ob (.tup xs)))
theorem pe_tupF {x1} (h : PA X es t) : PE X (.Tuple es x1 pos) (tTupF t) := by
  refine ⟨fun pins s σ H Q I hq => ?_⟩
  refine wpAny_Tuple_spliced (thn (h.run pos pins s σ H _ I hq) fun us s1 ⟨xs, H1, I1, r, z, q⟩ => ⟨by rw [← r.length]; exact z, ?_⟩)
  have hf : H1 s1.heap.objs.size = none := I1.hok.fresh (Nat.le_refl _)
  exact ⟨.ref s1.heap.objs.size, upd H1 s1.heap.objs.size (.frz { cls := .type "tuple", data := .seq us.toArray } (.tup xs)), I1.laid (t' := s1.toks) (fun b u e => Heap.get?_push_of_some _ e) (Nat.le_refl _) (new_frz z r), rfl, q _ _ hf rfl⟩
theorem call_tuple_ofF : CallR X (.type "tuple") (fun xs H Q => ∃ p ys, xs = [.ref p] ∧ ((SqL X.K H p ys ∧ ∀ l ob, H l = none → ob.dict = none → Q (.ref l) (upd H l (.frz ob (.tup ys)))) ∨ (SqT X.K H p ys ∧ Q (.ref p) H))) := by
  intro pins s σ H xs us Q I r h
  obtain ⟨p, ys, rfl, h⟩ := h
  obtain ⟨u, rfl, rx⟩ := vals1 r
  cases rx
  rcases h with ⟨hq, q⟩ | ⟨hq, q⟩
  · obtain ⟨its, r', pl, hz⟩ := I.list hq
    have hlen := r'.length
    refine call_tuple_list pl.isList (fun h' kp => ?_) (by simp only [List.size_toArray] <;> omega)
    have I1 : Inv X pins σ H { s with heap := h' } := I.kept (t' := s.toks) kp
    exact ⟨.ref h'.objs.size, _, I1.laid (t' := s.toks) (fun b o e => Heap.get?_push_of_some _ e) (Nat.le_refl _) (new_frz hz r'), rfl, q _ _ (I1.hok.fresh (Nat.le_refl _)) rfl⟩
  · obtain ⟨its, r', pl, hz⟩ := I.tuple hq
    exact call_tuple_same pl ⟨.ref p, H, I, rfl, q⟩
def rCatF (K : PySem.W.Frag) : R2 := fun x y H Q => ∃ a b xs ys, x = .ref a ∧ y = .ref b ∧ SqT K H a xs ∧ SqT K H b ys ∧ xs.length + ys.length ≤ sizeLine ∧
  (xs = [] → Q (.ref b) H) ∧ (xs ≠ [] → ys = [] → Q (.ref a) H) ∧ (xs ≠ [] → ys ≠ [] → ∀ p ob, H p = none → ob.dict = none → Q (.ref p) (upd H p (.frz ob (.tup (xs ++ ys)))))
theorem op_catF : OpR X (binaryOp .Add) (rCatF X.K) := by
  intro pins s σ H x y v u Q I rx ry h
  obtain ⟨a, b, xs, ys, rfl, rfl, ha, hb, hz, q0, q1, q2⟩ := h
  cases rx
  cases ry
  obtain ⟨its, r1, p1, _⟩ := I.tuple ha
  obtain ⟨its2, r2, p2, _⟩ := I.tuple hb
  by_cases hx : xs = []
  · subst hx
    cases r1
    exact cat_tup0 p1 p2 ⟨.ref b, H, I, rfl, q0 rfl⟩
  · refine HT.cat_tup p1 p2 (fun z => hx (r1.nil_iff.mp z)) (fun z => ⟨.ref a, H, I, rfl, q1 hx (r2.nil_iff.mp z)⟩) (fun z => ?_) (by rw [← r1.length, ← r2.length]; exact hz)
    exact ⟨.ref s.heap.objs.size, _, I.laid (t' := s.toks) (fun b ob q => Heap.get?_push_of_some _ q) (Nat.le_refl _) (new_frz (by rw [List.length_append]; exact hz) (r1.append r2)), rfl, q2 hx (fun w => z (r2.nil_iff.mpr w)) _ _ (I.hok.fresh (Nat.le_refl _)) rfl⟩
def rSlF (K : PySem.W.Frag) : V → Option Int → Option Int → Hp → VK → Prop := fun x lo hi H Q => ∃ a xs, x = .ref a ∧ SqT K H a xs ∧
  (HT.sIx xs.length 0 lo = 0 ∧ HT.sIx xs.length xs.length hi = xs.length → Q (.ref a) H) ∧ (¬ (HT.sIx xs.length 0 lo = 0 ∧ HT.sIx xs.length xs.length hi = xs.length) → ∀ p ob, H p = none → ob.dict = none → Q (.ref p) (upd H p (.frz ob (.tup (cutV xs lo hi)))))
theorem sl_tupF : SlR X (rSlF X.K) := by
  intro pins s σ H x v vl vu lo hi sl Q I rx hs pl pu h
  obtain ⟨a, xs, rfl, hx, q1, q2⟩ := h
  cases rx
  obtain ⟨its, r, ht, hz⟩ := I.tuple hx
  have hlen : its.toArray.size = xs.length := by rw [List.size_toArray]; exact r.length.symm
  refine ⟨"tuple", _, PyProof.Rows.slot_tuple_getitem.lookup, ht.typeIs, ?_⟩
  by_cases hw : HT.sIx xs.length 0 lo = 0 ∧ HT.sIx xs.length xs.length hi = xs.length
  · exact getItem_tuple_whole ht hs pl pu (by rw [hlen]; exact hw) ⟨.ref a, H, I, rfl, q1 hw⟩
  · refine HT.getItem_tuple_cut ht hs pl pu (by rw [hlen]; exact hw) ?_ (by rw [hlen]; exact hz)
    rw [hlen]
    exact ⟨.ref s.heap.objs.size, _, I.laid (t' := s.toks) (fun b ob q => Heap.get?_push_of_some _ q) (Nat.le_refl _) (new_frz (Nat.le_trans (cutV_length xs lo hi) hz) ((r.drop (HT.sIx xs.length 0 lo)).take (HT.sIx xs.length xs.length hi - HT.sIx xs.length 0 lo))), rfl, q2 hw _ _ (I.hok.fresh (Nat.le_refl _)) rfl⟩
end
end L2
/-! KB0: values as plain data over the hand layer; the stores of things that change; lifted readings. -/
namespace KB
open PySem PySem.Spec PyProof.Rows L2
/-- data: tuples are values; a thing that may change is told by its place -/
inductive D where
  | non | bl (b : Bool) | int (i : Int) | str (l : List Nat) | tup (ds : List D) | ptr (a : Addr) | ty (n : String) | fn (n : Str)
abbrev DKey := Sum Int (List Nat)
abbrev Fs := List (Str × D)
/-- what stands at a place -/
inductive Cell where
  | lst (ds : List D) | fz (ds : List D) | dk (kvs : List (DKey × D)) | dt (kvs : List (List DKey × D)) | ins (n : Str) (fs : Fs) | st (ds : List D) | dg (kvs : List (D × D)) | lk (kvs : List (DKey × D)) (ep : Nat) | lg (kvs : List (D × D)) (as : List Addr) (ep : Nat) | exc (n : Str) (fs : Fs) | tb (n q : Str) | raw (o : HO)
abbrev Cp := Addr → Option Cell
def up (C : Cp) (a : Addr) (c : Cell) : Cp := fun b => if b = a then some c else C b
theorem up_same {C : Cp} {a : Addr} {c : Cell} : up C a c a = some c := by unfold up; rw [if_pos rfl]
theorem up_ne {C : Cp} {a b : Addr} {c : Cell} (h : b ≠ a) : up C a c b = C b := by unfold up; rw [if_neg h]
abbrev Sl := List (Option D)
abbrev Exn := Str × Fs
abbrev DQ := D → Cp → Prop
abbrev DE := Sl → Cp → DQ → Prop
abbrev DT := Sl → Cp → (Bool → Cp → Prop) → Prop
abbrev DA := Sl → Cp → (List D → Cp → Prop) → Prop
structure DEnds where
  nx : Sl → Cp → Prop
  rt : DQ
  bk : Sl → Cp → Prop := fun _ _ => False
  ct : Sl → Cp → Prop := fun _ _ => False
abbrev DS := DEnds → Sl → Cp → Prop
abbrev DG := D → Sl → Cp → (Sl → Cp → Prop) → Prop
abbrev DGs := List D → Sl → Cp → (Sl → Cp → Prop) → Prop
/-- a def: arguments, store, the end wanted, the exception wanted -/
abbrev DSp := List D → Cp → DQ → (Exn → Cp → Prop) → Prop
/-! ### data and values -/
def keyOf : DKey → Key
  | .inl i => .inl i
  | .inr l => .inr ⟨l.toArray⟩
def keyD : DKey → D
  | .inl i => .int i
  | .inr l => .str l
theorem keyOf_inj : ∀ {a b : DKey}, keyOf a = keyOf b → a = b
  | .inl i, .inl j, h => by rw [Sum.inl.inj h]
  | .inr l, .inr m, h => by
    have h : (⟨l.toArray⟩ : Str) = ⟨m.toArray⟩ := Sum.inr.inj h
    have e : l.toArray = m.toArray := congrArg Str.cps h
    have : l = m := by simpa using congrArg Array.toList e
    rw [this]
  | .inl _, .inr _, h => nomatch h
  | .inr _, .inl _, h => nomatch h
mutual
def Rep (K : PySem.W.Frag) (H : Hp) : D → V → Prop
  | .non, v => v = .non
  | .bl b, v => v = .bl b
  | .int i, v => v = .int i
  | .str l, v => v = .str ⟨l.toArray⟩
  | .ptr a, v => v = .ref a
  | .ty n, v => v = .ty n
  | .fn n, v => ∃ a, v = .ref a ∧ PySem.W.nsIn K mainGlobals n = some (some (.ref a))
  | .tup ds, v => ∃ a vs, v = .ref a ∧ SqT K H a vs ∧ Reps K H ds vs
def Reps (K : PySem.W.Frag) (H : Hp) : List D → List V → Prop
  | [], vs => vs = []
  | d :: ds, vs => ∃ v r, vs = v :: r ∧ Rep K H d v ∧ Reps K H ds r
end
/-- tuples and locked things stay -/
structure Tx (H H' : Hp) : Prop where
  t : ∀ a xs, H a = some (.tup xs) → H' a = some (.tup xs)
  f : ∀ a o u, H a = some (.frz o u) → H' a = some (.frz o u)
theorem Tx.refl (H : Hp) : Tx H H := ⟨fun _ _ h => h, fun _ _ _ h => h⟩
theorem Tx.trans {H H1 H2 : Hp} (a : Tx H H1) (b : Tx H1 H2) : Tx H H2 := ⟨fun _ _ h => b.t _ _ (a.t _ _ h), fun _ _ _ h => b.f _ _ _ (a.f _ _ _ h)⟩
theorem Tx.sqT {K : PySem.W.Frag} {H H' : Hp} {a : Addr} {xs : List V} (e : Tx H H') (h : SqT K H a xs) : SqT K H' a xs := by
  rcases h with (h | ⟨o, h⟩) | h
  · exact .inl (.inl (e.t _ _ h))
  · exact .inl (.inr ⟨o, e.f _ _ _ h⟩)
  · exact .inr h
mutual
theorem Rep.mono {K : PySem.W.Frag} {H H' : Hp} (e : Tx H H') : ∀ {d : D} {v : V}, Rep K H d v → Rep K H' d v
  | .non, _, h => h
  | .bl _, _, h => h
  | .int _, _, h => h
  | .str _, _, h => h
  | .ptr _, _, h => h
  | .ty _, _, h => h
  | .fn _, _, h => h
  | .tup _, _, h => by
    obtain ⟨a, vs, e1, e2, e3⟩ := h
    exact ⟨a, vs, e1, e.sqT e2, Reps.mono e e3⟩
theorem Reps.mono {K : PySem.W.Frag} {H H' : Hp} (e : Tx H H') : ∀ {ds : List D} {vs : List V}, Reps K H ds vs → Reps K H' ds vs
  | [], _, h => h
  | _ :: _, _, h => by
    obtain ⟨v, r, e1, e2, e3⟩ := h
    exact ⟨v, r, e1, Rep.mono e e2, Reps.mono e e3⟩
end
theorem Reps.nil {K : PySem.W.Frag} {H : Hp} : Reps K H [] [] := rfl
theorem Reps.cons {K : PySem.W.Frag} {H : Hp} {d : D} {v : V} {ds : List D} {vs : List V} (h : Rep K H d v) (t : Reps K H ds vs) : Reps K H (d :: ds) (v :: vs) := ⟨v, vs, rfl, h, t⟩
theorem Reps.length {K : PySem.W.Frag} {H : Hp} : ∀ {ds : List D} {vs : List V}, Reps K H ds vs → ds.length = vs.length
  | [], _, h => by cases h; rfl
  | _ :: _, _, h => by
    obtain ⟨v, r, rfl, _, t⟩ := h
    rw [List.length_cons, List.length_cons, t.length]
theorem Reps.append {K : PySem.W.Frag} {H : Hp} : ∀ {ds es : List D} {vs ws : List V}, Reps K H ds vs → Reps K H es ws → Reps K H (ds ++ es) (vs ++ ws)
  | [], _, _, _, h, g => by cases h; exact g
  | _ :: _, _, _, _, h, g => by
    obtain ⟨v, r, rfl, a, t⟩ := h
    exact ⟨v, _, rfl, a, t.append g⟩
theorem Reps.get {K : PySem.W.Frag} {H : Hp} : ∀ {ds : List D} {vs : List V} {i : Nat} {d : D}, Reps K H ds vs → ds[i]? = some d → ∃ v, vs[i]? = some v ∧ Rep K H d v
  | [], _, i, d, h, e => by simp at e
  | x :: ds, _, 0, d, h, e => by
    obtain ⟨v, r, rfl, a, t⟩ := h
    have : x = d := by simpa using e
    subst this
    exact ⟨v, rfl, a⟩
  | x :: ds, _, i + 1, d, h, e => by
    obtain ⟨v, r, rfl, a, t⟩ := h
    obtain ⟨w, e1, e2⟩ := t.get (i := i) (d := d) (by simpa using e)
    exact ⟨w, by simpa using e1, e2⟩
theorem Reps.getV {K : PySem.W.Frag} {H : Hp} : ∀ {ds : List D} {vs : List V} {i : Nat} {v : V}, Reps K H ds vs → vs[i]? = some v → ∃ d, ds[i]? = some d ∧ Rep K H d v
  | [], _, i, v, h, e => by
    cases h
    simp at e
  | x :: ds, _, 0, v, h, e => by
    obtain ⟨w, r, rfl, a, t⟩ := h
    have : w = v := by simpa using e
    subst this
    exact ⟨x, rfl, a⟩
  | x :: ds, _, i + 1, v, h, e => by
    obtain ⟨w, r, rfl, a, t⟩ := h
    obtain ⟨d, e1, e2⟩ := t.getV (i := i) (v := v) (by simpa using e)
    exact ⟨d, by simpa using e1, e2⟩
theorem Reps.take {K : PySem.W.Frag} {H : Hp} : ∀ {ds : List D} {vs : List V} (n : Nat), Reps K H ds vs → Reps K H (ds.take n) (vs.take n)
  | _, _, 0, _ => rfl
  | [], _, _ + 1, h => by cases h; rfl
  | _ :: _, _, n + 1, h => by
    obtain ⟨v, r, rfl, a, t⟩ := h
    exact ⟨v, _, rfl, a, t.take n⟩
theorem Reps.drop {K : PySem.W.Frag} {H : Hp} : ∀ {ds : List D} {vs : List V} (n : Nat), Reps K H ds vs → Reps K H (ds.drop n) (vs.drop n)
  | _, _, 0, h => h
  | [], _, _ + 1, h => by cases h; rfl
  | _ :: _, _, n + 1, h => by
    obtain ⟨v, r, rfl, a, t⟩ := h
    exact t.drop n
theorem Reps.set {K : PySem.W.Frag} {H : Hp} {d : D} {v : V} (q : Rep K H d v) : ∀ {ds : List D} {vs : List V} (i : Nat), Reps K H ds vs → Reps K H (ds.set i d) (vs.set i v)
  | [], _, _, h => by cases h; rfl
  | _ :: _, _, 0, h => by
    obtain ⟨w, r, rfl, a, t⟩ := h
    exact ⟨v, r, rfl, q, t⟩
  | _ :: _, _, i + 1, h => by
    obtain ⟨w, r, rfl, a, t⟩ := h
    exact ⟨w, _, rfl, a, t.set q i⟩
theorem Reps.reverse {K : PySem.W.Frag} {H : Hp} : ∀ {ds : List D} {vs : List V}, Reps K H ds vs → Reps K H ds.reverse vs.reverse
  | [], _, h => by cases h; rfl
  | _ :: _, _, h => by
    obtain ⟨v, r, rfl, a, t⟩ := h
    rw [List.reverse_cons, List.reverse_cons]
    exact t.reverse.append (.cons a .nil)
theorem Reps.map {K : PySem.W.Frag} {H : Hp} {α : Type} (f : α → D) (g : α → V) (h : ∀ x, Rep K H (f x) (g x)) : ∀ l : List α, Reps K H (l.map f) (l.map g)
  | [] => rfl
  | x :: l => ⟨_, _, rfl, h x, Reps.map f g h l⟩
theorem Reps.bools {K : PySem.W.Frag} {H : Hp} : ∀ {ns : List Bool} {vs : List V}, Reps K H (ns.map D.bl) vs → vs = ns.map V.bl
  | [], _, h => h
  | n :: ns, _, h => by
    obtain ⟨v, r, rfl, a, t⟩ := h
    have a : v = .bl n := a
    rw [a, t.bools]
    rfl
abbrev sOf (l : List Nat) : Str := ⟨l.toArray⟩
theorem Reps.strs {K : PySem.W.Frag} {H : Hp} : ∀ {ns : List (List Nat)} {vs : List V}, Reps K H (ns.map D.str) vs → vs = (ns.map sOf).map V.str
  | [], _, h => h
  | n :: ns, _, h => by
    obtain ⟨v, r, rfl, a, t⟩ := h
    have a : v = .str ⟨n.toArray⟩ := a
    rw [a, t.strs]
    rfl
/-! ### cells -/
def RepK {α β : Type} (f : α → β) (K : PySem.W.Frag) (H : Hp) : List (α × D) → List (β × V) → Prop := Paired fun p q => f p.1 = q.1 ∧ Rep K H p.2 q.2
theorem RepK.mono {α β : Type} {f : α → β} {K : PySem.W.Frag} {H H' : Hp} (e : Tx H H') {l : List (α × D)} {m : List (β × V)} (h : RepK f K H l m) : RepK f K H' l m := Paired.mapP h fun _ _ q => ⟨q.1, q.2.mono e⟩
mutual
/-- a key's own shape -/
def nk : D → NestedKey
  | .non => .none
  | .bl b => .num (if b = true then 1 else 0)
  | .int i => .num i
  | .str l => .text ⟨l.toArray⟩
  | .tup ds => .tup (nks ds)
  | .ptr _ => .none
  | .ty _ => .none
  | .fn _ => .none
def nks : List D → List NestedKey
  | [] => []
  | d :: ds => nk d :: nks ds
end
mutual
/-- no places, no truths within -/
def flatG : D → Bool
  | .tup ds => flatGs ds
  | .ptr _ => false
  | .ty _ => false
  | .fn _ => false
  | .bl _ => false
  | _ => true
def flatGs : List D → Bool
  | [] => true
  | d :: ds => flatG d && flatGs ds
end
/-- a dict whose keys are tuples, by its entries: the keys' places and the values as they lie there -/
def DgObj (P : Program) (w : World) (a : Addr) (xs : List (NestedKey × Addr × Value)) : HO := .ext fun h =>
  ∃ o es ep, h.get? a = some o ∧ o.ExactDict ∧ o.data = .dict es ep ∧ es.toList = xs.map (entryOfKey (nestedKind P w)) ∧ (xs.map (·.1)).Nodup ∧ xs.length ≤ sizeLine ∧ (a == sysModules) = false
/-- the same while it is walked: ep tells that no key has come or gone -/
def LgO (P : Program) (w : World) (a : Addr) (xs : List (NestedKey × Addr × Value)) (ep : Nat) : HO := .ext fun h =>
  ∃ o es, h.get? a = some o ∧ o.ExactDict ∧ o.data = .dict es ep ∧ es.toList = xs.map (entryOfKey (nestedKind P w)) ∧ (xs.map (·.1)).Nodup ∧ xs.length ≤ sizeLine ∧ (a == sysModules) = false
def LkO (P : Program) (w : World) (a : Addr) (ws : List (Key × V)) (ep : Nat) : HO := .ext fun h => ws.length ≤ sizeLine ∧ (a == sysModules) = false ∧ ∃ vs, KV ws vs ∧ h.DictAt (mixKind P w) a vs ep
/-- a key: a tuple, no places within, not too deep -/
def keyG (d : D) : Prop := (∃ ds, d = .tup ds) ∧ (nk d).depth ≤ 8 ∧ flatG d = true
def RepG (K : PySem.W.Frag) (H : Hp) : List (D × D) → List (NestedKey × Addr × Value) → Prop := Paired fun p q => nk p.1 = q.1 ∧ Rep K H p.1 (.ref q.2.1) ∧ ∃ v, Rep K H p.2 v ∧ RelV v q.2.2
theorem RepG.mono {K : PySem.W.Frag} {H H' : Hp} (e : Tx H H') {l : List (D × D)} {m : List (NestedKey × Addr × Value)} (h : RepG K H l m) : RepG K H' l m := Paired.mapP h fun _ _ q => ⟨q.1, q.2.1.mono e, let ⟨v, a, b⟩ := q.2.2; ⟨v, a.mono e, b⟩⟩
/-- data and a set's rows -/
def RepR (K : PySem.W.Frag) (H : Hp) : List D → List Rw → Prop := Paired fun d r => nk d = r.2 ∧ ∃ v, Rep K H d v ∧ RelV v r.1
theorem RepR.mono {K : PySem.W.Frag} {H H' : Hp} (e : Tx H H') {l : List D} {m : List Rw} (h : RepR K H l m) : RepR K H' l m := Paired.mapP h fun _ _ q => ⟨q.1, let ⟨v, a, b⟩ := q.2; ⟨v, a.mono e, b⟩⟩
/-- a tuple is known to have no dict of its own, or it holds more than references -/
def TFo : HO → Prop
  | .tup vs => ∃ v ∈ vs, ∀ r, v ≠ V.ref r
  | .frz ob (.tup _) => ob.dict = none
  | _ => True
/-- an exception by its class's name and its fields, flying or caught -/
def XRep (K : PySem.W.Frag) (H : Hp) (n : Str) (fs : Fs) (cls : Value) (d : Option Addr) : Prop := ∃ C, PySem.W.nsIn K mainGlobals n = some (some (.ref C)) ∧ cls = .ref C ∧ ((d = none ∧ fs = []) ∨ ∃ dd od ws, d = some dd ∧ H dd = some (.frz od (.xd ws)) ∧ RepK id K H fs ws)
theorem XRep.mono {K : PySem.W.Frag} {H H' : Hp} (e : Tx H H') {n : Str} {fs : Fs} {cls : Value} {d : Option Addr} (h : XRep K H n fs cls d) : XRep K H' n fs cls d := by
  obtain ⟨C, h1, h2, h3⟩ := h
  refine ⟨C, h1, h2, ?_⟩
  rcases h3 with h3 | ⟨dd, od, ws, h3, h4, h5⟩
  · exact .inl h3
  · exact .inr ⟨dd, od, ws, h3, e.f _ _ _ h4, h5.mono e⟩
/-- a code object that bears a name -/
def CodeAt (H : Hp) (q : Str) (cv : Value) : Prop := ∃ (c : Addr) (oc : Obj) (vs : Array Value) (t : Tok), cv = .ref c ∧ H c = some (.frz oc (.ext fun _ => True)) ∧ oc.data = .fields vs ∧ vs[1]? = some (.str q t)
theorem CodeAt.mono {H H' : Hp} (e : Tx H H') {q : Str} {cv : Value} (h : CodeAt H q cv) : CodeAt H' q cv := by
  obtain ⟨c, oc, vs, t, h1, h2, h3, h4⟩ := h
  exact ⟨c, oc, vs, t, h1, e.f _ _ _ h2, h3, h4⟩
/-- a table of code objects: all that stand in it bear the name q -/
def TabF (H : Hp) (p : Addr) (q : Str) : Prop := ∃ ps : Array Value, H p = some (.tbl ps) ∧ TriplesOk ps.toList ∧ ∀ (pos : Pos) (cv : Value), codeAmong pos ps.toList = some cv → CodeAt H q cv
/-- what stands under a name, or under a class's name, a point and a name -/
def resN (K : PySem.W.Frag) (n : Str) : Option (Option Value) :=
  match n.cps.toList.span (fun c => c != 46) with
  | (_, []) => PySem.W.nsIn K mainGlobals n
  | (a, _ :: b) => match PySem.W.nsIn K mainGlobals ⟨a.toArray⟩ with
    | some (some v) => PySem.W.findIn K v ⟨b.toArray⟩
    | _ => none
theorem resN_fn {K : PySem.W.Frag} {n : Str} (h : (n.cps.toList.span (fun c => c != 46)).2 = []) : resN K n = PySem.W.nsIn K mainGlobals n := by
  unfold resN
  generalize n.cps.toList.span (fun c => c != 46) = z at h
  obtain ⟨a, b⟩ := z
  cases h
  rfl
/-- p is the table of the def that stands under the name n -/
def TabK (K : PySem.W.Frag) (n : Str) (p : Addr) : Prop := ∃ (fa c : Addr) (o : Obj) (fd : FuncData) (e : Value) (dd : Option Addr) (vs : Array Value) (sl : Array (Option Value)), resN K n = some (some (.ref fa)) ∧ K.lookup fa = some o ∧ o.data = .func fd ∧ fd.code = .ref c ∧ K.lookup c = some ⟨e, dd, .fields vs, sl⟩ ∧ vs[11]? = some (.ref p)
theorem TabK.uniq {K : PySem.W.Frag} {n : Str} {p q : Addr} (a : TabK K n p) (b : TabK K n q) : p = q := by
  obtain ⟨fa, c, o, fd, e, dd, vs, sl, a1, a2, a3, a4, a5, a6⟩ := a
  obtain ⟨fb, c', o', fd', e', dd', vs', sl', b1, b2, b3, b4, b5, b6⟩ := b
  rw [a1] at b1; cases b1
  rw [a2] at b2; cases b2
  rw [a3] at b3; cases b3
  rw [a4] at b4; cases b4
  rw [a5] at b5; cases b5
  rw [a6] at b6; cases b6
  rfl
def CellOk (P : Program) (w : World) (K : PySem.W.Frag) (H : Hp) (p : Addr) : Cell → Prop
  | .lst ds => ∃ vs, H p = some (.lst vs) ∧ Reps K H ds vs
  | .fz ds => ∃ o vs, H p = some (.frz o (.lst vs)) ∧ Reps K H ds vs
  | .dk kvs => ∃ ws, H p = some (.dK ws) ∧ RepK keyOf K H kvs ws
  | .dt kvs => ∃ ws, H p = some (.dT ws) ∧ RepK (fun k => k.map keyOf) K H kvs ws
  | .ins n fs => ∃ C dx ws, PySem.W.nsIn K mainGlobals n = some (some (.ref C)) ∧ H p = some (.ins C dx ws) ∧ RepK id K H fs ws
  | .st ds => ∃ L : List Rw, H p = some (SetHO w p L) ∧ RepR K H ds L
  | .dg kvs => ∃ xs, H p = some (DgObj P w p xs) ∧ RepG K H kvs xs ∧ ∀ q ∈ kvs, keyG q.1
  | .lk kvs ep => ∃ ws, H p = some (LkO P w p ws ep) ∧ RepK keyOf K H kvs ws
  | .lg kvs as ep => ∃ xs, H p = some (LgO P w p xs ep) ∧ xs.map (·.2.1) = as ∧ RepG K H kvs xs ∧ ∀ q ∈ kvs, keyG q.1
  | .exc n fs => ∃ cls d, H p = some (exv p cls d) ∧ XRep K H n fs cls d
  | .tb n q => TabK K n p ∧ TabF H p q
  | .raw o => H p = some o ∧ TFo o
theorem CellOk.there {P : Program} {w : World} {K : PySem.W.Frag} {H : Hp} {p : Addr} {c : Cell} (h : CellOk P w K H p c) : H p ≠ none := by
  intro e
  cases c with
  | lst ds => obtain ⟨_, q, _⟩ := h; rw [e] at q; cases q
  | fz ds => obtain ⟨_, _, q, _⟩ := h; rw [e] at q; cases q
  | dk ds => obtain ⟨_, q, _⟩ := h; rw [e] at q; cases q
  | dt ds => obtain ⟨_, q, _⟩ := h; rw [e] at q; cases q
  | ins C fs => obtain ⟨_, _, _, _, q, _⟩ := h; rw [e] at q; cases q
  | st ds => obtain ⟨_, q, _⟩ := h; rw [e] at q; cases q
  | dg kvs => obtain ⟨_, q, _⟩ := h; rw [e] at q; cases q
  | lk kvs ep => obtain ⟨_, q, _⟩ := h; rw [e] at q; cases q
  | lg kvs as ep => obtain ⟨_, q, _⟩ := h; rw [e] at q; cases q
  | exc n fs => obtain ⟨_, _, q, _⟩ := h; rw [e] at q; cases q
  | tb n q => obtain ⟨_, _, q, _⟩ := h; rw [e] at q; cases q
  | raw o =>
    have h : H p = some o := h.1
    rw [e] at h; cases h
theorem CellOk.tfo {P : Program} {w : World} {K : PySem.W.Frag} {H : Hp} {p : Addr} {c : Cell} (h : CellOk P w K H p c) {o : HO} (e : H p = some o) : TFo o := by
  cases c with
  | lst ds => obtain ⟨_, q, _⟩ := h; rw [e] at q; cases q; trivial
  | fz ds => obtain ⟨_, _, q, _⟩ := h; rw [e] at q; cases q; trivial
  | dk ds => obtain ⟨_, q, _⟩ := h; rw [e] at q; cases q; trivial
  | dt ds => obtain ⟨_, q, _⟩ := h; rw [e] at q; cases q; trivial
  | ins C fs => obtain ⟨_, _, _, _, q, _⟩ := h; rw [e] at q; cases q; trivial
  | st ds => obtain ⟨_, q, _⟩ := h; rw [e] at q; cases q; trivial
  | dg kvs => obtain ⟨_, q, _⟩ := h; rw [e] at q; cases q; trivial
  | lk kvs ep => obtain ⟨_, q, _⟩ := h; rw [e] at q; cases q; trivial
  | lg kvs as ep => obtain ⟨_, q, _⟩ := h; rw [e] at q; cases q; trivial
  | exc n fs => obtain ⟨_, _, q, _⟩ := h; rw [e] at q; cases q; trivial
  | tb n q => obtain ⟨_, _, q, _⟩ := h; rw [e] at q; cases q; trivial
  | raw o => obtain ⟨q, t⟩ := h; rw [e] at q; cases q; exact t
theorem CellOk.keep {P : Program} {w : World} {K : PySem.W.Frag} {H H' : Hp} {p : Addr} {c : Cell} (h : CellOk P w K H p c) (e : Tx H H') (k : H' p = H p) : CellOk P w K H' p c := by
  cases c with
  | lst ds => obtain ⟨vs, q, r⟩ := h; exact ⟨vs, k.trans q, r.mono e⟩
  | fz ds => obtain ⟨o, vs, q, r⟩ := h; exact ⟨o, vs, k.trans q, r.mono e⟩
  | dk ds => obtain ⟨vs, q, r⟩ := h; exact ⟨vs, k.trans q, r.mono e⟩
  | dt ds => obtain ⟨vs, q, r⟩ := h; exact ⟨vs, k.trans q, r.mono e⟩
  | ins C fs => obtain ⟨o, d, vs, n, q, r⟩ := h; exact ⟨o, d, vs, n, k.trans q, r.mono e⟩
  | st ds => obtain ⟨L, q, r⟩ := h; exact ⟨L, k.trans q, r.mono e⟩
  | dg kvs => obtain ⟨xs, q, r, g⟩ := h; exact ⟨xs, k.trans q, r.mono e, g⟩
  | lk kvs ep => obtain ⟨ws, q, r⟩ := h; exact ⟨ws, k.trans q, r.mono e⟩
  | lg kvs as ep => obtain ⟨xs, q, a, r, g⟩ := h; exact ⟨xs, k.trans q, a, r.mono e, g⟩
  | exc n fs => obtain ⟨cls, d, q, r⟩ := h; exact ⟨cls, d, k.trans q, r.mono e⟩
  | tb n q => obtain ⟨a, ps, b, c, d⟩ := h; exact ⟨a, ps, k.trans b, c, fun pos cv z => (d pos cv z).mono e⟩
  | raw o => exact ⟨k.trans h.1, h.2⟩
/-- what is not told of stays as it was -/
structure Stp (H : Hp) (C : Cp) (H' : Hp) (C' : Cp) : Prop where
  tx : Tx H H'
  hid : ∀ p o, H p = some o → C p = none → H' p = some o ∧ C' p = none
theorem Stp.refl (H : Hp) (C : Cp) : Stp H C H C := ⟨Tx.refl H, fun _ _ a b => ⟨a, b⟩⟩
theorem Stp.trans {H H1 H2 : Hp} {C C1 C2 : Cp} (a : Stp H C H1 C1) (b : Stp H1 C1 H2 C2) : Stp H C H2 C2 := ⟨a.tx.trans b.tx, fun p o e n => let ⟨e1, n1⟩ := a.hid p o e n; b.hid p o e1 n1⟩
/-- a store tells less than another -/
def Sub (C C' : Cp) : Prop := ∀ p c, C p = some c → C' p = some c
theorem Sub.refl (C : Cp) : Sub C C := fun _ _ h => h
theorem Sub.trans {C C1 C2 : Cp} (a : Sub C C1) (b : Sub C1 C2) : Sub C C2 := fun p c h => b p c (a p c h)
theorem Sub.none {C C' : Cp} (a : Sub C C') {p : Addr} (h : C' p = Option.none) : C p = Option.none := by
  cases e : C p with
  | none => rfl
  | some c => rw [a p c e] at h; cases h
theorem Sub.new {C : Cp} {p : Addr} {c : Cell} (h : C p = Option.none) : Sub C (up C p c) := fun q d e => by
  rw [up_ne]
  · exact e
  · intro z
    subst z
    rw [h] at e
    cases e
/-- what a def, or a block, began with -/
structure Bs where
  H : Hp
  C : Cp
  P : Program
  w : World
structure Rl (K : PySem.W.Frag) (B : Bs) (H : Hp) (C : Cp) : Prop where
  st : Stp B.H B.C H C
  ok : ∀ p c, C p = some c → CellOk B.P B.w K H p c
  ti : ∀ p o, H p = some o → TFo o
theorem Rl.fresh {K : PySem.W.Frag} {B : Bs} {H : Hp} {C : Cp} (r : Rl K B H C) {p : Addr} (h : H p = none) : C p = none := by
  cases e : C p with
  | none => rfl
  | some c => exact absurd h (r.ok p c e).there
theorem Rl.base {K : PySem.W.Frag} {B : Bs} {H : Hp} {C : Cp} (r : Rl K B H C) : Rl K ⟨H, C, B.P, B.w⟩ H C := ⟨Stp.refl H C, r.ok, r.ti⟩
theorem Rl.rebase {K : PySem.W.Frag} {B : Bs} {H H' : Hp} {C C' : Cp} (r : Rl K B H C) (q : Rl K ⟨H, C, B.P, B.w⟩ H' C') : Rl K B H' C' := ⟨r.st.trans q.st, q.ok, q.ti⟩
theorem Stp.less {H H' : Hp} {C C' C'' : Cp} (r : Stp H C H' C') (h : Sub C'' C') : Stp H C H' C'' := ⟨r.tx, fun p o e n => ⟨(r.hid p o e n).1, h.none (r.hid p o e n).2⟩⟩
/-- less is told -/
theorem Rl.less {K : PySem.W.Frag} {B : Bs} {H : Hp} {C C' : Cp} (r : Rl K B H C) (h : Sub C' C) : Rl K B H C' := ⟨r.st.less h, fun p c e => r.ok p c (h p c e), r.ti⟩
theorem ti_upd {H : Hp} {p : Addr} {o : HO} (h : ∀ p o, H p = some o → TFo o) (t : TFo o := by trivial) : ∀ q u, upd H p o q = some u → TFo u := fun q u e => by
  by_cases z : q = p
  · subst z
    rw [upd_same] at e
    cases e
    exact t
  · rw [upd_ne z] at e
    exact h q u e
def Frz : Option HO → Prop
  | some (.tup _) => True
  | some (.frz _ _) => True
  | _ => False
theorem tx_upd {H : Hp} {p : Addr} {o : HO} (h : ¬ Frz (H p)) : Tx H (upd H p o) := by
  refine ⟨fun a xs e => ?_, fun a u xs e => ?_⟩
  · rw [upd_ne]
    · exact e
    · intro z
      subst z
      rw [e] at h
      exact h trivial
  · rw [upd_ne]
    · exact e
    · intro z
      subst z
      rw [e] at h
      exact h trivial
theorem tx_new {H : Hp} {p : Addr} {o : HO} (h : H p = none) : Tx H (upd H p o) := tx_upd (by rw [h]; exact id)
theorem stp_put {H : Hp} {C : Cp} {p : Addr} {o : HO} {c : Cell} (h : ¬ Frz (H p)) (hc : C p ≠ none ∨ H p = none) : Stp H C (upd H p o) (up C p c) := by
  refine ⟨tx_upd h, fun q u e n => ?_⟩
  have z : q ≠ p := by
    intro z
    subst z
    rcases hc with hc | hc
    · exact hc n
    · rw [hc] at e; cases e
  exact ⟨by rw [upd_ne z]; exact e, by rw [up_ne z]; exact n⟩
theorem stp_more {H : Hp} {C : Cp} {p : Addr} {o : HO} (h : H p = none) : Stp H C (upd H p o) C := ⟨tx_new h, fun q u e n => ⟨by rw [upd_ne (ne_of_none e h)]; exact e, n⟩⟩
/-- a cell is written or new -/
theorem Rl.put {K : PySem.W.Frag} {B : Bs} {H : Hp} {C : Cp} (r : Rl K B H C) {p : Addr} {o : HO} {c : Cell} (h : ¬ Frz (H p)) (hc : C p ≠ none ∨ H p = none) (new : CellOk B.P B.w K (upd H p o) p c) : Rl K B (upd H p o) (up C p c) := by
  refine ⟨r.st.trans (stp_put h hc), fun q d e => ?_, fun q u e => ?_⟩
  · by_cases z : q = p
    · subst z
      rw [up_same] at e
      cases e
      exact new
    · rw [up_ne z] at e
      exact (r.ok q d e).keep (tx_upd h) (upd_ne z)
  · by_cases z : q = p
    · subst z
      exact new.tfo e
    · rw [upd_ne z] at e
      exact r.ti q u e
/-- something new that is not told of -/
theorem Rl.more {K : PySem.W.Frag} {B : Bs} {H : Hp} {C : Cp} (r : Rl K B H C) {p : Addr} {o : HO} (h : H p = none) (t : TFo o := by trivial) : Rl K B (upd H p o) C := by
  refine ⟨r.st.trans (stp_more h), fun q d e => (r.ok q d e).keep (tx_new h) (upd_ne ?_), fun q u e => ?_⟩
  · intro z
    subst z
    exact (r.ok q d e).there h
  · by_cases z : q = p
    · subst z
      rw [upd_same] at e
      cases e
      exact t
    · rw [upd_ne z] at e
      exact r.ti q u e
theorem Rl.putNew {K : PySem.W.Frag} {B : Bs} {H : Hp} {C : Cp} (r : Rl K B H C) {p : Addr} {o : HO} {c : Cell} (h : H p = none) (new : CellOk B.P B.w K (upd H p o) p c) : Rl K B (upd H p o) (up C p c) := r.put (by rw [h]; exact id) (.inr h) new
/-! ### slots -/
def RepO (K : PySem.W.Frag) (H : Hp) (o : Option D) (x : Option V) : Prop := ∀ d, o = some d → ∃ v, x = some v ∧ Rep K H d v
def RepS (K : PySem.W.Frag) (H : Hp) (sl : Sl) (σ : L2.St) : Prop := Paired (RepO K H) sl σ
theorem RepO.mono {K : PySem.W.Frag} {H H' : Hp} (e : Tx H H') {o : Option D} {x : Option V} (h : RepO K H o x) : RepO K H' o x := fun d q => let ⟨v, e1, e2⟩ := h d q; ⟨v, e1, e2.mono e⟩
theorem RepS.mono {K : PySem.W.Frag} {H H' : Hp} (e : Tx H H') {sl : Sl} {σ : L2.St} (h : RepS K H sl σ) : RepS K H' sl σ := Paired.mapP h fun _ _ q => q.mono e
theorem RepS.get {K : PySem.W.Frag} {H : Hp} {sl : Sl} {σ : L2.St} {i : Nat} {d : D} (h : RepS K H sl σ) (e : sl[i]? = some (some d)) : ∃ v, σ[i]? = some (some v) ∧ Rep K H d v := by
  unfold RepS at h
  induction h generalizing i with
  | nil => simp at e
  | cons r t ih =>
    cases i with
    | zero =>
      simp only [List.length_cons, Nat.zero_lt_succ, getElem?_pos, List.getElem_cons_zero, Option.some.injEq] at e
      obtain ⟨v, q, h⟩ := r d e
      exact ⟨v, by rw [q]; rfl, h⟩
    | succ i =>
      obtain ⟨v, h1, h2⟩ := ih (by simpa using e)
      exact ⟨v, by simpa using h1, h2⟩
theorem RepS.set {K : PySem.W.Frag} {H : Hp} {o : Option D} {x : Option V} (r : RepO K H o x) {sl : Sl} {σ : L2.St} (i : Nat) (h : RepS K H sl σ) : RepS K H (sl.set i o) (σ.set i x) := by
  unfold RepS at h ⊢
  induction h generalizing i with
  | nil => exact .nil
  | cons q t ih =>
    cases i with
    | zero => exact .cons r t
    | succ i => exact .cons q (ih i)
theorem RepS.setD {K : PySem.W.Frag} {H : Hp} {d : D} {v : V} (r : Rep K H d v) {sl : Sl} {σ : L2.St} (i : Nat) (h : RepS K H sl σ) : RepS K H (sl.set i (some d)) (σ.set i (some v)) :=
  h.set (fun e q => by cases q; exact ⟨v, rfl, r⟩) i
def wipeD (sl : Sl) (vs : List Nat) : Sl := vs.foldr (fun v s => s.set v none) sl
theorem RepS.wipe {K : PySem.W.Frag} {H : Hp} {sl : Sl} {σ : L2.St} (h : RepS K H sl σ) : ∀ vs : List Nat, RepS K H (wipeD sl vs) (L2.wipe σ vs)
  | [] => h
  | v :: vs => (RepS.wipe h vs).set (fun d (q : Option.none = some d) => by cases q) v
/-! ### lifted readings -/
def lE (K : PySem.W.Frag) (B : Bs) (τ : DE) : TE := fun σ H Q => ∃ sl C Qd, RepS K H sl σ ∧ Rl K B H C ∧ τ sl C Qd ∧ ∀ v d H' C', Stp H C H' C' → Rl K B H' C' → Rep K H' d v → Qd d C' → Q v H'
def lT (K : PySem.W.Frag) (B : Bs) (τ : DT) : TT := fun σ H Q => ∃ sl C Qd, RepS K H sl σ ∧ Rl K B H C ∧ τ sl C Qd ∧ ∀ b H' C', Stp H C H' C' → Rl K B H' C' → Qd b C' → Q b H'
def lA (K : PySem.W.Frag) (B : Bs) (τ : DA) : TA := fun σ H Q => ∃ sl C Qd, RepS K H sl σ ∧ Rl K B H C ∧ τ sl C Qd ∧ ∀ vs ds H' C', Stp H C H' C' → Rl K B H' C' → Reps K H' ds vs → Qd ds C' → Q vs H'
structure EndsOk (K : PySem.W.Frag) (B : Bs) (H : Hp) (C : Cp) (Dd : DEnds) (D : Ends) : Prop where
  nx : ∀ σ sl H' C', Stp H C H' C' → Rl K B H' C' → RepS K H' sl σ → Dd.nx sl C' → D.nx σ H'
  rt : ∀ v d H' C', Stp H C H' C' → Rl K B H' C' → Rep K H' d v → Dd.rt d C' → D.rt v H'
  bk : ∀ σ sl H' C', Stp H C H' C' → Rl K B H' C' → RepS K H' sl σ → Dd.bk sl C' → D.bk σ H'
  ct : ∀ σ sl H' C', Stp H C H' C' → Rl K B H' C' → RepS K H' sl σ → Dd.ct sl C' → D.ct σ H'
theorem EndsOk.mono {K : PySem.W.Frag} {B : Bs} {H H1 : Hp} {C C1 : Cp} {Dd : DEnds} {D : Ends} (e : EndsOk K B H C Dd D) (t : Stp H C H1 C1) : EndsOk K B H1 C1 Dd D :=
  ⟨fun σ sl H' C' a => e.nx σ sl H' C' (t.trans a), fun σ sl H' C' a => e.rt σ sl H' C' (t.trans a), fun σ sl H' C' a => e.bk σ sl H' C' (t.trans a), fun σ sl H' C' a => e.ct σ sl H' C' (t.trans a)⟩
def lS (K : PySem.W.Frag) (B : Bs) (τ : DS) : TS := fun D σ H => ∃ sl C Dd, RepS K H sl σ ∧ Rl K B H C ∧ τ Dd sl C ∧ EndsOk K B H C Dd D
def lG (K : PySem.W.Frag) (B : Bs) (τ : DG) : TG := fun v σ H Q => ∃ d sl C Qd, Rep K H d v ∧ RepS K H sl σ ∧ Rl K B H C ∧ τ d sl C Qd ∧ ∀ σ' sl' H' C', Stp H C H' C' → Rl K B H' C' → RepS K H' sl' σ' → Qd sl' C' → Q σ' H'
def lGs (K : PySem.W.Frag) (B : Bs) (τ : DGs) : TGs := fun vs σ H Q => ∃ ds sl C Qd, Reps K H ds vs ∧ RepS K H sl σ ∧ Rl K B H C ∧ τ ds sl C Qd ∧ ∀ σ' sl' H' C', Stp H C H' C' → Rl K B H' C' → RepS K H' sl' σ' → Qd sl' C' → Q σ' H'
abbrev JE (X : Cx) (B : Bs) (e : Expr) (τ : DE) : Prop := PE X e (lE X.K B τ)
abbrev JT (X : Cx) (B : Bs) (e : Expr) (τ : DT) : Prop := PT X e (lT X.K B τ)
abbrev JW (X : Cx) (B : Bs) (e : Expr) (τ : DT) : Prop := PW X e (lT X.K B τ)
abbrev JA (X : Cx) (B : Bs) (es : List Expr) (τ : DA) : Prop := PA X es (lA X.K B τ)
abbrev JS (X : Cx) (B : Bs) (st : Stmt) (τ : DS) : Prop := PS X st (lS X.K B τ)
abbrev JSs (X : Cx) (B : Bs) (st : List Stmt) (τ : DS) : Prop := PSs X st (lS X.K B τ)
abbrev JG (X : Cx) (B : Bs) (e : Expr) (τ : DG) : Prop := PG X e (lG X.K B τ)
abbrev JGs (X : Cx) (B : Bs) (e : List Expr) (τ : DGs) : Prop := PGs X e (lGs X.K B τ)
section
variable {X : Cx} {B : Bs}
theorem PE.imp {e : Expr} {t t' : TE} (h : PE X e t) (i : ∀ σ H Q, t' σ H Q → t σ H Q) : PE X e t' := ⟨fun pins s σ H Q I q => h.run pins s σ H Q I (i σ H Q q)⟩
theorem PT.imp {e : Expr} {t t' : TT} (h : PT X e t) (i : ∀ σ H Q, t' σ H Q → t σ H Q) : PT X e t' := ⟨fun pins s σ H Q I q => h.run pins s σ H Q I (i σ H Q q)⟩
theorem PW.imp {e : Expr} {t t' : TT} (h : PW X e t) (i : ∀ σ H Q, t' σ H Q → t σ H Q) : PW X e t' := ⟨fun wh pins s σ H Q I q => h.run wh pins s σ H Q I (i σ H Q q)⟩
theorem PA.imp {e : List Expr} {t t' : TA} (h : PA X e t) (i : ∀ σ H Q, t' σ H Q → t σ H Q) : PA X e t' := ⟨fun pos pins s σ H Q I q => h.run pos pins s σ H Q I (i σ H Q q)⟩
theorem PS.imp {e : Stmt} {t t' : TS} (h : PS X e t) (i : ∀ D σ H, t' D σ H → t D σ H) : PS X e t' := ⟨fun pins s σ H D I q => h.run pins s σ H D I (i D σ H q)⟩
theorem PSs.imp {e : List Stmt} {t t' : TS} (h : PSs X e t) (i : ∀ D σ H, t' D σ H → t D σ H) : PSs X e t' := ⟨fun pins s σ H D I q => h.run pins s σ H D I (i D σ H q)⟩
theorem PG.imp {e : Expr} {t t' : TG} (h : PG X e t) (i : ∀ v σ H Q, t' v σ H Q → t v σ H Q) : PG X e t' := ⟨fun pins s σ H v u Q I r q => h.run pins s σ H v u Q I r (i v σ H Q q)⟩
theorem PGs.imp {e : List Expr} {t t' : TGs} (h : PGs X e t) (i : ∀ v σ H Q, t' v σ H Q → t v σ H Q) : PGs X e t' := ⟨fun pins s σ H v u Q I r q => h.run pins s σ H v u Q I r (i v σ H Q q)⟩
/-! ### names, constants -/
def dVar (i : Nat) : DE := fun s C Q => ∃ d, s[i]? = some (some d) ∧ Q d C
def dC (d : D) : DE := fun _ C Q => Q d C
theorem jv (i : Nat) {x : Str} {pos : Pos} (hN : X.N[i]? = some x := by rfl) (hv : Vis X.env.scope x := by first | exact Or.inl rfl | exact Or.inr (Or.inl rfl) | exact Or.inr (Or.inr rfl)) (hd : (x == ("__debug__" : Str)) = false := by decide)
    (hcd : (x == ("__classdict__" : Str)) = false := by decide) : JE X B (.Name x pos) (dVar i) := PE.imp (pe_var hN hv hd hcd) fun σ H Q h => by
  obtain ⟨sl, C, Qd, rs, rl, ⟨d, e, q⟩, k⟩ := h
  obtain ⟨v, e1, r⟩ := rs.get e
  exact ⟨v, e1, k v d H C (Stp.refl H C) rl r q⟩
theorem j_const {e : Expr} {v : V} (d : D) (h : PE X e (tC v)) (r : ∀ K H, Rep K H d v) : JE X B e (dC d) := PE.imp h fun σ H Q h => by
  obtain ⟨sl, C, Qd, rs, rl, q, k⟩ := h
  exact k v d H C (Stp.refl H C) rl (r _ _) q
theorem j_int {i j pos} : JE X B (.Constant (.int i) j pos) (dC (.int i)) := j_const _ pe_int fun _ _ => rfl
theorem j_bl {i j pos} : JE X B (.Constant (.bool i) j pos) (dC (.bl i)) := j_const _ pe_bl fun _ _ => rfl
theorem j_non {j pos} : JE X B (.Constant .none j pos) (dC .non) := j_const _ pe_non fun _ _ => rfl
/-- a text by its signs' numbers -/
theorem j_str {x : Str} {j pos} (l : List Nat) (h : x = ⟨l.toArray⟩ := by decide +kernel) : JE X B (.Constant (.str x) j pos) (dC (.str l)) := j_const _ pe_str fun _ _ => by
  show V.str x = _
  rw [h]
theorem j_globI {x : Str} {i : Int} {t : Tok} {pos : Pos} (hm : X.mg x = some (.int i t)) (hg : Gl X x := by rfl) (hd : (x == ("__debug__" : Str)) = false := by decide) : JE X B (.Name x pos) (dC (.int i)) := j_const _ (pe_glob (v := .int i) hg hm ⟨t, rfl⟩ hd) fun _ _ => rfl
theorem j_globS {x : Str} {z : Str} {t : Tok} {pos : Pos} (l : List Nat) (hm : X.mg x = some (.str z t)) (h : z = ⟨l.toArray⟩ := by decide +kernel) (hg : Gl X x := by rfl) (hd : (x == ("__debug__" : Str)) = false := by decide) : JE X B (.Name x pos) (dC (.str l)) := j_const _ (pe_glob (v := .str z) hg hm ⟨t, rfl⟩ hd) fun _ _ => by
  show V.str z = _
  rw [h]
end
end KB
/-! KB1: == of data. -/
namespace KB
open PySem PySem.Spec PyProof.Rows L2 SeqAt
mutual
def eqD : D → D → Bool
  | .non, .non => true
  | .bl a, .bl b => a == b
  | .bl a, .int j => (if a then 1 else 0) == j
  | .int i, .bl b => i == (if b then 1 else 0)
  | .int i, .int j => i == j
  | .str x, .str y => x == y
  | .tup xs, .tup ys => eqDs xs ys
  | _, _ => false
def eqDs : List D → List D → Bool
  | [], [] => true
  | x :: xs, y :: ys => eqD x y && eqDs xs ys
  | _, _ => false
end
mutual
/-- how deep; no places within -/
def dep : D → Nat
  | .tup xs => deps xs + 1
  | _ => 0
def deps : List D → Nat
  | [] => 0
  | x :: xs => max (dep x) (deps xs)
end
mutual
def npt : D → Bool
  | .tup xs => npts xs
  | .ptr _ => false
  | .ty _ => false
  | .fn _ => false
  | _ => true
def npts : List D → Bool
  | [] => true
  | x :: xs => npt x && npts xs
end
theorem deps_mem : ∀ {ds : List D} {d : D}, d ∈ ds → dep d ≤ deps ds
  | x :: xs, d, h => by
    unfold deps
    rcases List.mem_cons.mp h with rfl | h
    · omega
    · have := deps_mem h
      omega
theorem npts_mem : ∀ {ds : List D} {d : D}, npts ds = true → d ∈ ds → npt d = true
  | x :: xs, d, e, h => by
    unfold npts at e
    rw [Bool.and_eq_true] at e
    rcases List.mem_cons.mp h with rfl | h
    · exact e.1
    · exact npts_mem e.2 h
theorem deps_of : ∀ {ds : List D} {n : Nat}, (∀ d ∈ ds, dep d ≤ n) → deps ds ≤ n
  | [], _, _ => Nat.zero_le _
  | x :: xs, n, h => by
    unfold deps
    have h1 := h x List.mem_cons_self
    have h2 := deps_of fun d m => h d (List.mem_cons_of_mem _ m)
    omega
/-- what the tuples' rule tells is eqDs -/
theorem range_all_cons {f : Nat → Bool} {n : Nat} : (List.range (n + 1)).all f = (f 0 && (List.range n).all fun j => f (j + 1)) := by
  rw [List.range_succ_eq_map, List.all_cons, List.all_map]
  rfl
theorem eqDs_at : ∀ (ds es : List D), ((List.range (min ds.length es.length)).all (fun j => eqD (ds.getD j .non) (es.getD j .non)) && ds.length == es.length) = eqDs ds es
  | [], [] => rfl
  | [], _ :: _ => by
    unfold eqDs
    simp
  | _ :: _, [] => by
    unfold eqDs
    simp
  | x :: xs, y :: ys => by
    have ih := eqDs_at xs ys
    unfold eqDs
    rw [← ih, List.length_cons, List.length_cons, Nat.add_min_add_right, range_all_cons, Bool.and_assoc]
    have e : (xs.length + 1 == ys.length + 1) = (xs.length == ys.length) := by
      by_cases h : xs.length = ys.length
      · simp [h]
      · simp [h]
    rw [e]
    rfl
theorem getV_of {ds : List D} {vs : List V} {us : List Value} {K : PySem.W.Frag} {H : Hp} (r : Reps K H ds vs) (q : Vals vs us) {j : Nat} (h : j < us.length) : ∃ v, Rep K H (ds.getD j .non) v ∧ RelV v us[j] ∧ ds.getD j .non ∈ ds := by
  have hl : j < ds.length := by rw [r.length, q.length]; exact h
  obtain ⟨v, e1, e2⟩ := r.get (i := j) (d := ds[j]) (List.getElem?_eq_getElem hl)
  obtain ⟨u, e3, e4⟩ := q.get e1
  rw [List.getElem?_eq_getElem h] at e3
  cases e3
  have : ds.getD j .non = ds[j] := by rw [List.getD_eq_getElem?_getD, List.getElem?_eq_getElem hl]; rfl
  rw [this]
  exact ⟨v, e2, e4, List.getElem_mem hl⟩
section
variable {X : Cx} {pins : List (Addr × Obj)} {σ : L2.St} {H : Hp} {s : Shared}
theorem sOf_inj {x y : List Nat} (h : (⟨x.toArray⟩ : Str) = ⟨y.toArray⟩) : x = y := by simpa using congrArg Array.toList (congrArg Str.cps h)
mutual
theorem eqD_self : ∀ d : D, npt d = true → eqD d d = true
  | .non, _ => rfl
  | .bl b, _ => by unfold eqD; simp
  | .int i, _ => by unfold eqD; simp
  | .str l, _ => by unfold eqD; simp
  | .tup ds, h => by
    unfold eqD
    exact eqDs_self ds h
  | .ptr _, h => by unfold npt at h; cases h
  | .ty _, h => by unfold npt at h; cases h
  | .fn _, h => by unfold npt at h; cases h
theorem eqDs_self : ∀ ds : List D, npts ds = true → eqDs ds ds = true
  | [], _ => rfl
  | x :: xs, h => by
    unfold npts at h
    rw [Bool.and_eq_true] at h
    unfold eqDs
    rw [eqD_self x h.1, eqDs_self xs h.2]
    rfl
end
mutual
theorem rep_inj (I : Inv X pins σ H s) : ∀ (d e : D) (v : V), npt d = true → npt e = true → Rep X.K H d v → Rep X.K H e v → d = e
  | d, .ptr _, v, _, h, _, _ => by unfold npt at h; cases h
  | d, .ty _, v, _, h, _, _ => by unfold npt at h; cases h
  | d, .fn _, v, _, h, _, _ => by unfold npt at h; cases h
  | .ptr _, _, v, h, _, _, _ => by unfold npt at h; cases h
  | .ty _, _, v, h, _, _, _ => by unfold npt at h; cases h
  | .fn _, _, v, h, _, _, _ => by unfold npt at h; cases h
  | .non, e, v, _, _, h1, h2 => by
    cases h1
    cases e <;> first | rfl | (cases h2; done) | (obtain ⟨_, _, q, _⟩ := h2; cases q; done) | (obtain ⟨_, q, _⟩ := h2; cases q)
  | .bl b, e, v, _, _, h1, h2 => by
    cases h1
    cases e <;> first | (cases h2; rfl) | (cases h2; done) | (obtain ⟨_, _, q, _⟩ := h2; cases q; done) | (obtain ⟨_, q, _⟩ := h2; cases q)
  | .int b, e, v, _, _, h1, h2 => by
    cases h1
    cases e <;> first | (cases h2; rfl) | (cases h2; done) | (obtain ⟨_, _, q, _⟩ := h2; cases q; done) | (obtain ⟨_, q, _⟩ := h2; cases q)
  | .str b, e, v, _, _, h1, h2 => by
    cases h1
    cases e with
    | str c =>
      have h2 : V.str ⟨b.toArray⟩ = V.str ⟨c.toArray⟩ := h2
      rw [sOf_inj (V.str.inj h2)]
    | tup es => obtain ⟨_, _, q, _⟩ := h2; cases q
    | fn m => obtain ⟨_, q, _⟩ := h2; cases q
    | _ => cases h2
  | .tup ds, .tup es, v, n1, n2, h1, h2 => by
    obtain ⟨a, vs, rfl, q1, r1⟩ := h1
    obtain ⟨b, ws, e, q2, r2⟩ := h2
    cases e
    have := I.tuple_inj q1 q2
    subst this
    rw [reps_inj I ds es vs n1 n2 r1 r2]
  | .tup ds, .non, v, n1, n2, h1, h2 => by obtain ⟨_, _, rfl, _⟩ := h1; cases h2
  | .tup ds, .bl _, v, n1, n2, h1, h2 => by obtain ⟨_, _, rfl, _⟩ := h1; cases h2
  | .tup ds, .int _, v, n1, n2, h1, h2 => by obtain ⟨_, _, rfl, _⟩ := h1; cases h2
  | .tup ds, .str _, v, n1, n2, h1, h2 => by obtain ⟨_, _, rfl, _⟩ := h1; cases h2
theorem reps_inj (I : Inv X pins σ H s) : ∀ (ds es : List D) (vs : List V), npts ds = true → npts es = true → Reps X.K H ds vs → Reps X.K H es vs → ds = es
  | [], [], _, _, _, _, _ => rfl
  | [], _ :: _, vs, _, _, h1, h2 => by
    cases h1
    obtain ⟨_, _, q, _⟩ := h2
    cases q
  | _ :: _, [], vs, _, _, h1, h2 => by
    cases h2
    obtain ⟨_, _, q, _⟩ := h1
    cases q
  | d :: ds, e :: es, vs, n1, n2, h1, h2 => by
    unfold npts at n1 n2
    rw [Bool.and_eq_true] at n1 n2
    obtain ⟨v, r, rfl, a1, t1⟩ := h1
    obtain ⟨w, r2, q, a2, t2⟩ := h2
    cases q
    rw [rep_inj I d e v n1.1 n2.1 a1 a2, reps_inj I ds es r n1.2 n2.2 t1 t2]
end
theorem sarr_eq (x y : List Nat) : ((⟨x.toArray⟩ : Str) == ⟨y.toArray⟩) = (x == y) := by
  have : ((⟨x.toArray⟩ : Str) == ⟨y.toArray⟩) = (x.toArray == y.toArray) := by
    rw [Bool.eq_iff_iff, beq_iff_eq, beq_iff_eq]
    exact ⟨fun h => congrArg Str.cps h, fun h => by rw [h]⟩
  rw [this, Bool.eq_iff_iff, beq_iff_eq, beq_iff_eq]
  exact ⟨fun h => by simpa using congrArg Array.toList h, fun h => by rw [h]⟩
/-- == of data -/
theorem eqAt_D (I : Inv X pins σ H s) : ∀ (n : Nat) (d e : D) (A : Around) (x y : V) (u w : Value), dep d ≤ n → npt d = true → npt e = true → A.units + n < cLine → Rep X.K H d x → Rep X.K H e y → RelV x u → RelV y w → EqAt A s u w (eqD d e) := by
  intro n
  induction n with
  | zero =>
    intro d e A x y u w hd nd ne hA rd re ru rw'
    cases d with
    | tup ds => unfold dep at hd; omega
    | ptr a => exact absurd nd (by unfold npt; decide)
    | ty a => exact absurd nd (by unfold npt; decide)
    | fn a => exact absurd nd (by unfold npt; decide)
    | non =>
      cases rd; cases ru
      cases e with
      | non => cases re; cases rw'; exact EqAt.same _
      | bl b => cases re; cases rw'; exact EqAt.none_bool b
      | int i => cases re; obtain ⟨t, rfl⟩ := rw'; exact EqAt.none_int i t
      | str l => cases re; obtain ⟨t, rfl⟩ := rw'; exact EqAt.none_str _ t
      | tup es =>
        obtain ⟨a, vs, rfl, hq, _⟩ := re
        cases rw'
        obtain ⟨its, _, p, _⟩ := I.tuple hq
        exact EqAt.none_tuple p (by omega)
      | ptr a => exact absurd ne (by unfold npt; decide)
      | ty a => exact absurd ne (by unfold npt; decide)
      | fn a => exact absurd ne (by unfold npt; decide)
    | bl k =>
      cases rd; cases ru
      cases e with
      | non => cases re; cases rw'; exact EqAt.bool_none _
      | bl b => cases re; cases rw'; exact EqAt.bool_bool _ b
      | int i => cases re; obtain ⟨t, rfl⟩ := rw'; exact EqAt.bool_int _ i t
      | str l => cases re; obtain ⟨t, rfl⟩ := rw'; exact EqAt.bool_str _ _ t
      | tup es =>
        obtain ⟨a, vs, rfl, hq, _⟩ := re
        cases rw'
        obtain ⟨its, _, p, _⟩ := I.tuple hq
        exact EqAt.bool_tuple _ p (by omega)
      | ptr a => exact absurd ne (by unfold npt; decide)
      | ty a => exact absurd ne (by unfold npt; decide)
      | fn a => exact absurd ne (by unfold npt; decide)
    | int k =>
      cases rd; obtain ⟨t0, rfl⟩ := ru
      cases e with
      | non => cases re; cases rw'; exact EqAt.int_none _ _
      | bl b => cases re; cases rw'; exact EqAt.int_bool _ _ b
      | int i => cases re; obtain ⟨t, rfl⟩ := rw'; exact EqAt.int_int _ _ i t
      | str l => cases re; obtain ⟨t, rfl⟩ := rw'; exact EqAt.int_str _ _ _ t
      | tup es =>
        obtain ⟨a, vs, rfl, hq, _⟩ := re
        cases rw'
        obtain ⟨its, _, p, _⟩ := I.tuple hq
        exact EqAt.int_tuple _ _ p (by omega)
      | ptr a => exact absurd ne (by unfold npt; decide)
      | ty a => exact absurd ne (by unfold npt; decide)
      | fn a => exact absurd ne (by unfold npt; decide)
    | str k =>
      cases rd; obtain ⟨t0, rfl⟩ := ru
      cases e with
      | non => cases re; cases rw'; exact EqAt.str_none _ _
      | bl b => cases re; cases rw'; exact EqAt.str_bool _ _ b
      | int i => cases re; obtain ⟨t, rfl⟩ := rw'; exact EqAt.str_int _ _ i t
      | str l =>
        cases re; obtain ⟨t, rfl⟩ := rw'
        have h := EqAt.str_str (A := A) (s := s) ⟨k.toArray⟩ t0 ⟨l.toArray⟩ t
        rw [sarr_eq] at h
        exact h
      | tup es =>
        obtain ⟨a, vs, rfl, hq, _⟩ := re
        cases rw'
        obtain ⟨its, _, p, _⟩ := I.tuple hq
        exact EqAt.str_tuple _ _ p (by omega)
      | ptr a => exact absurd ne (by unfold npt; decide)
      | ty a => exact absurd ne (by unfold npt; decide)
      | fn a => exact absurd ne (by unfold npt; decide)
  | succ n ih =>
    intro d e A x y u w hd nd ne hA rd re ru rw'
    cases d with
    | tup ds =>
      have hd : deps ds + 1 ≤ n + 1 := hd
      have nd : npts ds = true := nd
      obtain ⟨a, vs, rfl, hq, hr⟩ := rd
      cases ru
      obtain ⟨its, rv, p, _⟩ := I.tuple hq
      cases e with
      | non => cases re; cases rw'; exact EqAt.tuple_none p (by omega)
      | bl b => cases re; cases rw'; exact EqAt.tuple_bool b p (by omega)
      | int i => cases re; obtain ⟨t, rfl⟩ := rw'; exact EqAt.tuple_int i t p (by omega)
      | str l => cases re; obtain ⟨t, rfl⟩ := rw'; exact EqAt.tuple_str _ t p (by omega)
      | ptr a => exact absurd ne (by unfold npt; decide)
      | ty a => exact absurd ne (by unfold npt; decide)
      | fn a => exact absurd ne (by unfold npt; decide)
      | tup es =>
        have ne : npts es = true := ne
        obtain ⟨b, ws, rfl, hq2, hr2⟩ := re
        cases rw'
        obtain ⟨its2, rv2, p2, _⟩ := I.tuple hq2
        have core : RcAt A s (.ref a) (.ref b) (eqDs ds es) := by
          have h := RcAt.tuples (A := A) (s := s) (e := fun j => eqD (ds.getD j .non) (es.getD j .non)) p p2 (by omega) (fun j h1 h2 => by
            have h1 : j < its.length := by simpa using h1
            have h2 : j < its2.length := by simpa using h2
            obtain ⟨v1, a1, a2, a3⟩ := getV_of hr rv h1
            obtain ⟨v2, b1, b2, b3⟩ := getV_of hr2 rv2 h2
            have m1 := deps_mem a3
            exact ih _ _ A.in1 v1 v2 _ _ (by omega) (npts_mem nd a3) (npts_mem ne b3) (by show A.units + 1 + n < cLine; omega) a1 b1 (by simpa using a2) (by simpa using b2))
          have l1 : its.toArray.size = ds.length := by rw [List.size_toArray, ← rv.length, ← hr.length]
          have l2 : its2.toArray.size = es.length := by rw [List.size_toArray, ← rv2.length, ← hr2.length]
          rw [l1, l2, eqDs_at] at h
          exact h
        by_cases hab : a = b
        · subst hab
          -- the same place: the rows are the same
          have hs : vs = ws := I.tuple_inj hq hq2
          subst hs
          have he : ds = es := reps_inj I ds es vs nd ne hr hr2
          subst he
          show EqAt A s _ _ (eqDs ds ds)
          rw [eqDs_self ds nd]
          exact EqAt.same _
        · exact EqAt.of_refs hab core
    | ptr a => exact absurd nd (by unfold npt; decide)
    | ty a => exact absurd nd (by unfold npt; decide)
    | fn a => exact absurd nd (by unfold npt; decide)
    | non => exact ih _ _ A x y u w (by unfold dep; omega) nd ne (by omega) rd re ru rw'
    | bl k => exact ih _ _ A x y u w (by unfold dep; omega) nd ne (by omega) rd re ru rw'
    | int k => exact ih _ _ A x y u w (by unfold dep; omega) nd ne (by omega) rd re ru rw'
    | str k => exact ih _ _ A x y u w (by unfold dep; omega) nd ne (by omega) rd re ru rw'
end
end KB
/-! KB2: operators, tests, statements, loops, calls over data. -/
namespace KB
open PySem PySem.Spec PyProof.Rows L2 SeqAt
/-! ### operators by data -/
def lR (K : PySem.W.Frag) (B : Bs) (r : D → D → Cp → DQ → Prop) : R2 := fun x y H Q => ∃ dx dy C Qd, Rep K H dx x ∧ Rep K H dy y ∧ Rl K B H C ∧ r dx dy C Qd ∧ ∀ v d H' C', Stp H C H' C' → Rl K B H' C' → Rep K H' d v → Qd d C' → Q v H'
abbrev OpD (X : Cx) (B : Bs) (f : Value → Value → Sem Value) (r : D → D → Cp → DQ → Prop) : Prop := OpR X f (lR X.K B r)
def lC (K : PySem.W.Frag) (B : Bs) (r : List D → Cp → DQ → Prop) : List V → Hp → VK → Prop := fun xs H Q => ∃ ds C Qd, Reps K H ds xs ∧ Rl K B H C ∧ r ds C Qd ∧ ∀ v d H' C', Stp H C H' C' → Rl K B H' C' → Rep K H' d v → Qd d C' → Q v H'
abbrev CallD (X : Cx) (B : Bs) (f : Value) (r : List D → Cp → DQ → Prop) : Prop := CallR X f (lC X.K B r)
def lM (K : PySem.W.Frag) (B : Bs) (r : D → List D → Cp → DQ → Prop) : V → List V → Hp → VK → Prop := fun x xs H Q => ∃ d ds C Qd, Rep K H d x ∧ Reps K H ds xs ∧ Rl K B H C ∧ r d ds C Qd ∧ ∀ v e H' C', Stp H C H' C' → Rl K B H' C' → Rep K H' e v → Qd e C' → Q v H'
abbrev MtD (X : Cx) (B : Bs) (id : String) (r : D → List D → Cp → DQ → Prop) : Prop := MtR X id (lM X.K B r)
def isL (C : Cp) (p : Addr) (ds : List D) : Prop := C p = some (.lst ds) ∨ C p = some (.fz ds)
def addD : D → D → Cp → DQ → Prop
  | .int a, .int b, C, Q => Q (.int (a + b)) C
  | .str a, .str b, C, Q => a.length + b.length ≤ sizeLine ∧ Q (.str (a ++ b)) C
  | .tup a, .tup b, C, Q => a.length + b.length ≤ sizeLine ∧ Q (.tup (a ++ b)) C
  | .ptr a, .ptr b, C, Q => ∃ xs ys, isL C a xs ∧ isL C b ys ∧ xs.length + ys.length ≤ sizeLine ∧ ∀ p, C p = none → Q (.ptr p) (up C p (.lst (xs ++ ys)))
  | _, _, _, _ => False
def subD : D → D → Cp → DQ → Prop
  | .int a, .int b, C, Q => Q (.int (a - b)) C
  | _, _, _, _ => False
def mulD : D → D → Cp → DQ → Prop
  | .int a, .int b, C, Q => CMulW a b ∧ Q (.int (a * b)) C
  | .ptr a, .int k, C, Q => ∃ xs, C a = some (.lst xs) ∧ -(2 ^ 63) ≤ k ∧ k < 2 ^ 63 ∧ xs.length * k.toNat ≤ sizeLine ∧ ∀ p, C p = none → Q (.ptr p) (up C p (.lst (List.replicate k.toNat xs).flatten))
  | _, _, _, _ => False
def modD : D → D → Cp → DQ → Prop
  | .int a, .int b, C, Q => 0 < b ∧ Q (.int (a % b)) C
  | _, _, _, _ => False
def fdivD : D → D → Cp → DQ → Prop
  | .int a, .int b, C, Q => CDivW a b ∧ Q (.int (a / b)) C
  | _, _, _, _ => False
def ltD : D → D → Cp → DQ → Prop
  | .int a, .int b, C, Q => Q (.bl (decide (a < b))) C
  | .str a, .str b, C, Q => Q (.bl (decide (a < b))) C
  | _, _, _, _ => False
def leD : D → D → Cp → DQ → Prop
  | .int a, .int b, C, Q => Q (.bl (decide (a ≤ b))) C
  | .str a, .str b, C, Q => Q (.bl (!decide (b < a))) C
  | _, _, _, _ => False
def gtD : D → D → Cp → DQ → Prop
  | .int a, .int b, C, Q => Q (.bl (decide (b < a))) C
  | .str a, .str b, C, Q => Q (.bl (decide (b < a))) C
  | _, _, _, _ => False
def geD : D → D → Cp → DQ → Prop
  | .int a, .int b, C, Q => Q (.bl (decide (b ≤ a))) C
  | .str a, .str b, C, Q => Q (.bl (!decide (a < b))) C
  | _, _, _, _ => False
/-- what == may be asked of: data without places, of small depth; lists of such -/
def okEq (d : D) : Prop := npt d = true ∧ dep d ≤ 60
def okEqs (ds : List D) : Prop := npts ds = true ∧ deps ds ≤ 60
def eqR (neg : Bool) : D → D → Cp → DQ → Prop
  | .ptr p, .ptr q, C, Q => ∃ ds es, isL C p ds ∧ isL C q es ∧ okEqs ds ∧ npts es = true ∧ Q (.bl (if neg then !eqDs ds es else eqDs ds es)) C
  | .ptr p, d, C, Q => ∃ ds, isL C p ds ∧ npt d = true ∧ Q (.bl neg) C
  | d, .ptr p, C, Q => ∃ ds, isL C p ds ∧ npt d = true ∧ Q (.bl neg) C
  | d, e, C, Q => okEq d ∧ npt e = true ∧ Q (.bl (if neg then !eqD d e else eqD d e)) C
theorem isL.sq {K : PySem.W.Frag} {B : Bs} {H : Hp} {C : Cp} (r : Rl K B H C) {p : Addr} {ds : List D} (h : isL C p ds) : ∃ vs, SqL K H p vs ∧ Reps K H ds vs := by
  rcases h with h | h
  · obtain ⟨vs, e, q⟩ := r.ok _ _ h
    exact ⟨vs, .inl (.inl e), q⟩
  · obtain ⟨o, vs, e, q⟩ := r.ok _ _ h
    exact ⟨vs, .inl (.inr ⟨o, e⟩), q⟩
theorem Rl.cells {K : PySem.W.Frag} {B : Bs} {H : Hp} {C : Cp} (r : Rl K B H C) {p : Addr} {ds : List D} (h : C p = some (.lst ds)) : ∃ vs, H p = some (.lst vs) ∧ Reps K H ds vs := r.ok _ _ h
theorem CMulW_small {a b : Int} (h : (-(2 ^ 64) < a ∧ a < 2 ^ 64) ∧ -(2 ^ 64) < b ∧ b < 2 ^ 64) : CMulW a b := wide_mul (a := 64) (b := 64) (by omega) (by omega) (by decide) (by decide) (by decide)
theorem CDivW_small {a b : Int} (h : 0 < b ∧ b < 2 ^ 100) : CDivW a b := wide_div (b := 100) h.1 (by omega) (by decide) (by decide)
section
variable {X : Cx} {B : Bs} {pos : Pos} {a b c : Expr} {ta tb tc : DE}
/-- list + list, of any that can be read -/
theorem op_catSq : OpR X (binaryOp .Add) (fun x y H Q => ∃ l b xs zs, x = .ref l ∧ y = .ref b ∧ SqL X.K H l xs ∧ SqL X.K H b zs ∧ xs.length + zs.length ≤ sizeLine ∧ ∀ p, H p = none → Q (.ref p) (upd H p (.lst (xs ++ zs)))) := by
  intro pins s σ H x y v u Q I rx ry h
  obtain ⟨l, b, xs, zs, rfl, rfl, hH, hB, hz, q⟩ := h
  cases rx
  cases ry
  obtain ⟨its, r, ⟨⟨cls, dd, data, sl⟩, n, ho, hc, hn, hd⟩, _⟩ := I.list hH
  obtain ⟨its2, r2, ⟨⟨cls2, dd2, data2, sl2⟩, n2, ho2, hc2, hn2, hd2⟩, _⟩ := I.list hB
  simp only at hc hd hc2 hd2
  subst hc hd hc2 hd2
  have hl := r.length
  have hl2 := r2.length
  refine concat_meets ⟨_, ho, rfl⟩ ⟨_, ho2, rfl⟩ noFill_list_add seq_list_add PySem.F.slot_list_add PySem.F.entry_list_add (PySem.F.args_list_add_2 _ _) (list_addW l b its.toArray its2.toArray n n2 dd dd2 sl sl2 (by simpa [← hl, ← hl2] using hz)) ⟨ho, ho2, ?_⟩
  have ea : its.toArray ++ its2.toArray = (its ++ its2).toArray := by simp
  rw [ea]
  exact ⟨.ref _, _, I.lnew (t' := s.toks) (r.append r2) (by rw [List.length_append]; omega), rfl, q _ I.fresh⟩
theorem op_addD : OpD X B (binaryOp .Add) addD := by
  intro pins s σ H x y v u Q I rx ry h
  obtain ⟨dx, dy, C, Qd, r1, r2, rl, h, k⟩ := h
  cases dx with
  | int a =>
    cases dy with
    | int b =>
      cases r1; cases r2
      exact op_add pins s σ H _ _ v u Q I rx ry ⟨_, _, rfl, rfl, k _ (.int (a + b)) H C (Stp.refl _ _) rl rfl h⟩
    | _ => exact False.elim h
  | str a =>
    cases dy with
    | str b =>
      cases r1; cases r2
      refine op_add_str pins s σ H _ _ v u Q I rx ry ⟨_, _, rfl, rfl, ?_, k _ (.str (a ++ b)) H C (Stp.refl _ _) rl ?_ h.2⟩
      · show a.toArray.size + b.toArray.size ≤ sizeLine
        simpa using h.1
      · show V.str _ = V.str _
        congr 1
        exact TL.ext_tl (by rw [TL.tl_append])
    | _ => exact False.elim h
  | tup a =>
    cases dy with
    | tup b =>
      obtain ⟨p, vs, rfl, hp, hr⟩ := r1
      obtain ⟨q, ws, rfl, hq, hr2⟩ := r2
      refine op_catF pins s σ H _ _ v u Q I rx ry ⟨_, _, _, _, rfl, rfl, hp, hq, ?_, fun e => ?_, fun e e2 => ?_, fun e e2 t ob ht hob => ?_⟩
      · rw [← hr.length, ← hr2.length]
        exact h.1
      · subst e
        have : a = [] := List.length_eq_zero_iff.mp (by rw [hr.length] <;> rfl)
        subst this
        exact k _ (.tup ([] ++ b)) H C (Stp.refl _ _) rl ⟨_, _, rfl, hq, hr2⟩ h.2
      · subst e2
        have : b = [] := List.length_eq_zero_iff.mp (by rw [hr2.length] <;> rfl)
        subst this
        have h2 := h.2
        rw [List.append_nil] at h2
        exact k _ (.tup a) H C (Stp.refl _ _) rl ⟨_, _, rfl, hp, hr⟩ h2
      · exact k _ (.tup (a ++ b)) _ C (stp_more ht) (rl.more ht hob) ⟨t, _, rfl, .inl (.inr ⟨_, upd_same⟩), (hr.append hr2).mono (tx_new ht)⟩ h.2
    | _ => exact False.elim h
  | ptr a =>
    cases dy with
    | ptr b =>
      cases r1; cases r2
      obtain ⟨xs, ys, ha, hb, hz, h⟩ := h
      obtain ⟨vs, e1, q1⟩ := isL.sq rl ha
      obtain ⟨ws, e2, q2⟩ := isL.sq rl hb
      refine op_catSq pins s σ H _ _ v u Q I rx ry ⟨_, _, _, _, rfl, rfl, e1, e2, ?_, fun p hp => ?_⟩
      · rw [← q1.length, ← q2.length]
        exact hz
      · exact k _ (.ptr p) _ (up C p (.lst (xs ++ ys))) (stp_put (by rw [hp]; exact id) (.inr hp)) (rl.putNew hp ⟨_, upd_same, (q1.append q2).mono (tx_new hp)⟩) rfl (h p (rl.fresh hp))
    | _ => exact False.elim h
  | _ => exact False.elim h
theorem opI_D {f : Value → Value → Sem Value} {Cn : Int → Int → Prop} {g : Int → Int → V} {g' : Int → Int → D} (hr : OpR X f (rI Cn g)) (hg : ∀ i j K H, Rep K H (g' i j) (g i j)) {i j : Int} {pins : List (Addr × Obj)} {s : Shared} {σ : L2.St} {H : Hp} {C : Cp} {v u : Value} {Q : VK} {Qd : DQ}
    (I : Inv X pins σ H s) (rx : RelV (.int i) v) (ry : RelV (.int j) u) (rl : Rl X.K B H C) (hc : Cn i j) (h : Qd (g' i j) C) (k : ∀ v d H' C', Stp H C H' C' → Rl X.K B H' C' → Rep X.K H' d v → Qd d C' → Q v H') : wpAny (model X.prog X.w) X.A (f v u) (EP X pins σ Q) X.xe s :=
  hr pins s σ H _ _ v u Q I rx ry ⟨_, _, rfl, rfl, hc, k _ (g' i j) H C (Stp.refl _ _) rl (hg _ _ _ _) h⟩
theorem op_subD : OpD X B (binaryOp .Sub) subD := by
  intro pins s σ H x y v u Q I rx ry h
  obtain ⟨dx, dy, C, Qd, r1, r2, rl, h, k⟩ := h
  cases dx with
  | int a =>
    cases dy with
    | int b =>
      cases r1; cases r2
      exact op_sub pins s σ H _ _ v u Q I rx ry ⟨_, _, rfl, rfl, k _ (.int (a - b)) H C (Stp.refl _ _) rl rfl h⟩
    | _ => exact False.elim h
  | _ => exact False.elim h
theorem op_mulD : OpD X B (binaryOp .Mult) mulD := by
  intro pins s σ H x y v u Q I rx ry h
  obtain ⟨dx, dy, C, Qd, r1, r2, rl, h, k⟩ := h
  cases dx with
  | int a =>
    cases dy with
    | int b =>
      cases r1; cases r2
      exact opI_D (g' := fun i j => .int (i * j)) op_mulW (fun _ _ _ _ => rfl) I rx ry rl h.1 h.2 k
    | _ => exact False.elim h
  | ptr a =>
    cases dy with
    | int b =>
      cases r1; cases r2
      obtain ⟨xs, ha, h1, h2, h3, h⟩ := h
      obtain ⟨vs, e1, q1⟩ := rl.cells ha
      refine op_rep pins s σ H _ _ v u Q I rx ry ⟨_, _, _, rfl, rfl, e1, h1, h2, by rw [← q1.length]; exact h3, fun p hp => ?_⟩
      have q2 : ∀ n : Nat, Reps X.K H (List.replicate n xs).flatten (List.replicate n vs).flatten := by
        intro n
        induction n with
        | zero => exact .nil
        | succ n ih =>
          rw [List.replicate_succ, List.replicate_succ, List.flatten_cons, List.flatten_cons]
          exact q1.append ih
      exact k _ (.ptr p) _ (up C p (.lst _)) (stp_put (by rw [hp]; exact id) (.inr hp)) (rl.putNew hp ⟨_, upd_same, (q2 _).mono (tx_new hp)⟩) rfl (h p (rl.fresh hp))
    | _ => exact False.elim h
  | _ => exact False.elim h
theorem op_modD : OpD X B (binaryOp .Mod) modD := by
  intro pins s σ H x y v u Q I rx ry h
  obtain ⟨dx, dy, C, Qd, r1, r2, rl, h, k⟩ := h
  cases dx with
  | int a =>
    cases dy with
    | int b =>
      cases r1; cases r2
      exact opI_D (g' := fun i j => .int (i % j)) op_mod (fun _ _ _ _ => rfl) I rx ry rl h.1 h.2 k
    | _ => exact False.elim h
  | _ => exact False.elim h
theorem op_fdivD : OpD X B (binaryOp .FloorDiv) fdivD := by
  intro pins s σ H x y v u Q I rx ry h
  obtain ⟨dx, dy, C, Qd, r1, r2, rl, h, k⟩ := h
  cases dx with
  | int a =>
    cases dy with
    | int b =>
      cases r1; cases r2
      exact opI_D (g' := fun i j => .int (i / j)) op_fdivW (fun _ _ _ _ => rfl) I rx ry rl h.1 h.2 k
    | _ => exact False.elim h
  | _ => exact False.elim h
theorem op_ltD : OpD X B (compareOp .Lt) ltD := by
  intro pins s σ H x y v u Q I rx ry h
  obtain ⟨dx, dy, C, Qd, r1, r2, rl, h, k⟩ := h
  cases dx with
  | int a =>
    cases dy with
    | int b =>
      cases r1; cases r2
      exact op_lt pins s σ H _ _ v u Q I rx ry ⟨_, _, rfl, rfl, k _ (.bl _) H C (Stp.refl _ _) rl rfl h⟩
    | _ => exact False.elim h
  | str a =>
    cases dy with
    | str b =>
      cases r1; cases r2
      exact op_lt_str pins s σ H _ _ v u Q I rx ry ⟨_, _, rfl, rfl, k _ (.bl (decide (a < b))) H C (Stp.refl _ _) rl rfl h⟩
    | _ => exact False.elim h
  | _ => exact False.elim h
theorem op_leD : OpD X B (compareOp .LtE) leD := by
  intro pins s σ H x y v u Q I rx ry h
  obtain ⟨dx, dy, C, Qd, r1, r2, rl, h, k⟩ := h
  cases dx with
  | int a =>
    cases dy with
    | int b =>
      cases r1; cases r2
      exact op_le pins s σ H _ _ v u Q I rx ry ⟨_, _, rfl, rfl, k _ (.bl _) H C (Stp.refl _ _) rl rfl h⟩
    | _ => exact False.elim h
  | str a =>
    cases dy with
    | str b =>
      cases r1; cases r2
      exact op_le_str pins s σ H _ _ v u Q I rx ry ⟨_, _, rfl, rfl, k _ (.bl (!decide (b < a))) H C (Stp.refl _ _) rl rfl h⟩
    | _ => exact False.elim h
  | _ => exact False.elim h
theorem op_gtD : OpD X B (compareOp .Gt) gtD := by
  intro pins s σ H x y v u Q I rx ry h
  obtain ⟨dx, dy, C, Qd, r1, r2, rl, h, k⟩ := h
  cases dx with
  | int a =>
    cases dy with
    | int b =>
      cases r1; cases r2
      exact op_gt pins s σ H _ _ v u Q I rx ry ⟨_, _, rfl, rfl, k _ (.bl _) H C (Stp.refl _ _) rl rfl h⟩
    | _ => exact False.elim h
  | str a =>
    cases dy with
    | str b =>
      cases r1; cases r2
      exact op_gt_str pins s σ H _ _ v u Q I rx ry ⟨_, _, rfl, rfl, k _ (.bl (decide (b < a))) H C (Stp.refl _ _) rl rfl h⟩
    | _ => exact False.elim h
  | _ => exact False.elim h
theorem op_geD : OpD X B (compareOp .GtE) geD := by
  intro pins s σ H x y v u Q I rx ry h
  obtain ⟨dx, dy, C, Qd, r1, r2, rl, h, k⟩ := h
  cases dx with
  | int a =>
    cases dy with
    | int b =>
      cases r1; cases r2
      exact op_ge pins s σ H _ _ v u Q I rx ry ⟨_, _, rfl, rfl, k _ (.bl _) H C (Stp.refl _ _) rl rfl h⟩
    | _ => exact False.elim h
  | str a =>
    cases dy with
    | str b =>
      cases r1; cases r2
      exact op_ge_str pins s σ H _ _ v u Q I rx ry ⟨_, _, rfl, rfl, k _ (.bl (!decide (a < b))) H C (Stp.refl _ _) rl rfl h⟩
    | _ => exact False.elim h
  | _ => exact False.elim h
end
end KB
/-! KB3: == and != as operators. -/
namespace KB
open PySem PySem.Spec PyProof.Rows SeqAt
open L2 hiding op_eqD op_neD
section
variable {X : Cx} {pins : List (Addr × Obj)} {σ : L2.St} {H : Hp} {s : Shared}
theorem RcAt_D (I : L2.Inv X pins σ H s) (d e : D) (A : Around) (x y : V) (u w : Value) (hd : dep d ≤ 60) (nd : npt d = true) (ne : npt e = true) (hA : A.units + 60 < cLine) (rd : Rep X.K H d x) (re : Rep X.K H e y) (ru : RelV x u) (rw' : RelV y w) : RcAt A s u w (eqD d e) := by
  cases d with
  | ptr a => exact absurd nd (by unfold npt; decide)
  | ty a => exact absurd nd (by unfold npt; decide)
  | fn a => exact absurd nd (by unfold npt; decide)
  | non =>
    cases rd; cases ru
    cases e with
    | ptr a => exact absurd ne (by unfold npt; decide)
    | ty a => exact absurd ne (by unfold npt; decide)
    | fn a => exact absurd ne (by unfold npt; decide)
    | non =>
      cases re; cases rw'
      exact RcAt.none_none 
    | bl l =>
      cases re; cases rw'
      exact RcAt.none_bool _
    | int l =>
      cases re; obtain ⟨t, rfl⟩ := rw'
      exact RcAt.none_int _ _
    | str l =>
      cases re; obtain ⟨t, rfl⟩ := rw'
      exact RcAt.none_str _ _
    | tup es =>
      have ne : npts es = true := ne
      obtain ⟨b, ws, rfl, hq2, hr2⟩ := re
      cases rw'
      obtain ⟨its2, rv2, p2, _⟩ := I.tuple hq2
      exact RcAt.none_tuple  p2 (by omega)
  | bl k =>
    cases rd; cases ru
    cases e with
    | ptr a => exact absurd ne (by unfold npt; decide)
    | ty a => exact absurd ne (by unfold npt; decide)
    | fn a => exact absurd ne (by unfold npt; decide)
    | non =>
      cases re; cases rw'
      exact RcAt.bool_none _
    | bl l =>
      cases re; cases rw'
      exact RcAt.bool_bool _ _
    | int l =>
      cases re; obtain ⟨t, rfl⟩ := rw'
      exact RcAt.bool_int _ _ _
    | str l =>
      cases re; obtain ⟨t, rfl⟩ := rw'
      exact RcAt.bool_str _ _ _
    | tup es =>
      have ne : npts es = true := ne
      obtain ⟨b, ws, rfl, hq2, hr2⟩ := re
      cases rw'
      obtain ⟨its2, rv2, p2, _⟩ := I.tuple hq2
      exact RcAt.bool_tuple _ p2 (by omega)
  | int k =>
    cases rd; obtain ⟨t0, rfl⟩ := ru
    cases e with
    | ptr a => exact absurd ne (by unfold npt; decide)
    | ty a => exact absurd ne (by unfold npt; decide)
    | fn a => exact absurd ne (by unfold npt; decide)
    | non =>
      cases re; cases rw'
      exact RcAt.int_none _ _
    | bl l =>
      cases re; cases rw'
      exact RcAt.int_bool _ _ _
    | int l =>
      cases re; obtain ⟨t, rfl⟩ := rw'
      exact RcAt.int_int _ _ _ _
    | str l =>
      cases re; obtain ⟨t, rfl⟩ := rw'
      exact RcAt.int_str _ _ _ _
    | tup es =>
      have ne : npts es = true := ne
      obtain ⟨b, ws, rfl, hq2, hr2⟩ := re
      cases rw'
      obtain ⟨its2, rv2, p2, _⟩ := I.tuple hq2
      exact RcAt.int_tuple _ _ p2 (by omega)
  | str k =>
    cases rd; obtain ⟨t0, rfl⟩ := ru
    cases e with
    | ptr a => exact absurd ne (by unfold npt; decide)
    | ty a => exact absurd ne (by unfold npt; decide)
    | fn a => exact absurd ne (by unfold npt; decide)
    | non =>
      cases re; cases rw'
      exact RcAt.str_none _ _
    | bl l =>
      cases re; cases rw'
      exact RcAt.str_bool _ _ _
    | int l =>
      cases re; obtain ⟨t, rfl⟩ := rw'
      exact RcAt.str_int _ _ _ _
    | str l =>
      cases re; obtain ⟨t, rfl⟩ := rw'
      have h := RcAt.str_str (A := A) (s := s) ⟨k.toArray⟩ t0 ⟨l.toArray⟩ t
      rw [sarr_eq] at h
      exact h
    | tup es =>
      have ne : npts es = true := ne
      obtain ⟨b, ws, rfl, hq2, hr2⟩ := re
      cases rw'
      obtain ⟨its2, rv2, p2, _⟩ := I.tuple hq2
      exact RcAt.str_tuple _ _ p2 (by omega)
  | tup ds =>
    have nd : npts ds = true := nd
    have hd : deps ds + 1 ≤ 60 := hd
    obtain ⟨a, vs, rfl, hq, hr⟩ := rd
    cases ru
    obtain ⟨its, rv, p, _⟩ := I.tuple hq
    cases e with
    | ptr a => exact absurd ne (by unfold npt; decide)
    | ty a => exact absurd ne (by unfold npt; decide)
    | fn a => exact absurd ne (by unfold npt; decide)
    | non =>
      cases re; cases rw'
      exact RcAt.tuple_none  p (by omega)
    | bl l =>
      cases re; cases rw'
      exact RcAt.tuple_bool _ p (by omega)
    | int l =>
      cases re; obtain ⟨t, rfl⟩ := rw'
      exact RcAt.tuple_int _ _ p (by omega)
    | str l =>
      cases re; obtain ⟨t, rfl⟩ := rw'
      exact RcAt.tuple_str _ _ p (by omega)
    | tup es =>
      have ne : npts es = true := ne
      obtain ⟨b, ws, rfl, hq2, hr2⟩ := re
      cases rw'
      obtain ⟨its2, rv2, p2, _⟩ := I.tuple hq2
      have h := RcAt.tuples (A := A) (s := s) (e := fun j => eqD (ds.getD j .non) (es.getD j .non)) p p2 (by omega) (fun j h1 h2 => by
        have h1 : j < its.length := by simpa using h1
        have h2 : j < its2.length := by simpa using h2
        obtain ⟨v1, a1, a2, a3⟩ := getV_of hr rv h1
        obtain ⟨v2, b1, b2, b3⟩ := getV_of hr2 rv2 h2
        have m1 := deps_mem a3
        exact eqAt_D I 59 _ _ A.in1 v1 v2 _ _ (by omega) (npts_mem nd a3) (npts_mem ne b3) (by show A.units + 1 + 59 < cLine; omega) a1 b1 (by simpa using a2) (by simpa using b2))
      have l1 : its.toArray.size = ds.length := by rw [List.size_toArray, ← rv.length, ← hr.length]
      have l2 : its2.toArray.size = es.length := by rw [List.size_toArray, ← rv2.length, ← hr2.length]
      rw [l1, l2, eqDs_at] at h
      exact h
theorem RcAt_L (I : L2.Inv X pins σ H s) (ds es : List D) (A : Around) (p q : Addr) (hd : deps ds ≤ 60) (nd : npts ds = true) (ne : npts es = true) (hA : A.units + 70 < cLine) (rd : ∃ vs, SqL X.K H p vs ∧ Reps X.K H ds vs) (re : ∃ vs, SqL X.K H q vs ∧ Reps X.K H es vs) : RcAt A s (.ref p) (.ref q) (eqDs ds es) := by
  obtain ⟨vs, hq, hr⟩ := rd
  obtain ⟨ws, hq2, hr2⟩ := re
  obtain ⟨its, rv, pl, _⟩ := I.list hq
  obtain ⟨its2, rv2, pl2, _⟩ := I.list hq2
  have l1 : its.toArray.size = ds.length := by rw [List.size_toArray, ← rv.length, ← hr.length]
  have l2 : its2.toArray.size = es.length := by rw [List.size_toArray, ← rv2.length, ← hr2.length]
  by_cases hl : ds.length = es.length
  · have h := RcAt.lists (A := A) (s := s) (e := fun j => eqD (ds.getD j .non) (es.getD j .non)) pl.isList pl2.isList (by rw [l1, l2, hl]) (by omega) (fun j h1 h2 => by
      have h1 : j < its.length := by simpa using h1
      have h2 : j < its2.length := by simpa using h2
      obtain ⟨v1, a1, a2, a3⟩ := getV_of hr rv h1
      obtain ⟨v2, b1, b2, b3⟩ := getV_of hr2 rv2 h2
      have m1 := deps_mem a3
      exact eqAt_D I 60 _ _ A.in1 v1 v2 _ _ (by omega) (npts_mem nd a3) (npts_mem ne b3) (by show A.units + 1 + 60 < cLine; omega) a1 b1 (by simpa using a2) (by simpa using b2))
    have e := eqDs_at ds es
    rw [← hl, Nat.min_self, beq_self_eq_true, Bool.and_true] at e
    rw [l1, e] at h
    exact h
  · have e : eqDs ds es = false := by
      rw [← eqDs_at, beq_eq_false_iff_ne.mpr hl, Bool.and_false]
    rw [e]
    exact RcAt.lists_lengths pl.isList pl2.isList (by rw [l1, l2]; simpa using hl) (by omega)
theorem RcAt_Ld (I : L2.Inv X pins σ H s) (e : D) (A : Around) (p : Addr) (y : V) (w : Value) (ne : npt e = true) (hA : A.units + 70 < cLine) (rd : ∃ vs, SqL X.K H p vs) (re : Rep X.K H e y) (rw' : RelV y w) : RcAt A s (.ref p) w false := by
  obtain ⟨vs, hq⟩ := rd
  obtain ⟨its, rv, pl, _⟩ := I.list hq
  cases e with
  | ptr a => exact absurd ne (by unfold npt; decide)
  | ty a => exact absurd ne (by unfold npt; decide)
  | fn a => exact absurd ne (by unfold npt; decide)
  | non => cases re; cases rw'; exact RcAt.list_none pl.isList (by omega)
  | bl b => cases re; cases rw'; exact RcAt.list_bool b pl.isList (by omega)
  | int i => cases re; obtain ⟨t, rfl⟩ := rw'; exact RcAt.list_int _ _ pl.isList (by omega)
  | str l => cases re; obtain ⟨t, rfl⟩ := rw'; exact RcAt.list_str _ _ pl.isList (by omega)
  | tup es =>
    obtain ⟨b, ws, rfl, hq2, hr2⟩ := re
    cases rw'
    obtain ⟨its2, rv2, p2, _⟩ := I.tuple hq2
    exact RcAt.list_tuple pl.isList p2 (by omega)
theorem RcAt_dL (I : L2.Inv X pins σ H s) (e : D) (A : Around) (p : Addr) (y : V) (w : Value) (ne : npt e = true) (hA : A.units + 70 < cLine) (rd : ∃ vs, SqL X.K H p vs) (re : Rep X.K H e y) (rw' : RelV y w) : RcAt A s w (.ref p) false := by
  obtain ⟨vs, hq⟩ := rd
  obtain ⟨its, rv, pl, _⟩ := I.list hq
  cases e with
  | ptr a => exact absurd ne (by unfold npt; decide)
  | ty a => exact absurd ne (by unfold npt; decide)
  | fn a => exact absurd ne (by unfold npt; decide)
  | non => cases re; cases rw'; exact RcAt.none_list pl.isList (by omega)
  | bl b => cases re; cases rw'; exact RcAt.bool_list b pl.isList (by omega)
  | int i => cases re; obtain ⟨t, rfl⟩ := rw'; exact RcAt.int_list _ _ pl.isList (by omega)
  | str l => cases re; obtain ⟨t, rfl⟩ := rw'; exact RcAt.str_list _ _ pl.isList (by omega)
  | tup es =>
    obtain ⟨b, ws, rfl, hq2, hr2⟩ := re
    cases rw'
    obtain ⟨its2, rv2, p2, _⟩ := I.tuple hq2
    exact RcAt.tuple_list p2 pl.isList (by omega)
theorem RcNeAt_D (I : L2.Inv X pins σ H s) (d e : D) (A : Around) (x y : V) (u w : Value) (hd : dep d ≤ 60) (nd : npt d = true) (ne : npt e = true) (hA : A.units + 60 < cLine) (rd : Rep X.K H d x) (re : Rep X.K H e y) (ru : RelV x u) (rw' : RelV y w) : RcNeAt A s u w (!eqD d e) := by
  cases d with
  | ptr a => exact absurd nd (by unfold npt; decide)
  | ty a => exact absurd nd (by unfold npt; decide)
  | fn a => exact absurd nd (by unfold npt; decide)
  | non =>
    cases rd; cases ru
    cases e with
    | ptr a => exact absurd ne (by unfold npt; decide)
    | ty a => exact absurd ne (by unfold npt; decide)
    | fn a => exact absurd ne (by unfold npt; decide)
    | non =>
      cases re; cases rw'
      exact RcNeAt.none_none 
    | bl l =>
      cases re; cases rw'
      exact RcNeAt.none_bool _
    | int l =>
      cases re; obtain ⟨t, rfl⟩ := rw'
      exact RcNeAt.none_int _ _
    | str l =>
      cases re; obtain ⟨t, rfl⟩ := rw'
      exact RcNeAt.none_str _ _
    | tup es =>
      have ne : npts es = true := ne
      obtain ⟨b, ws, rfl, hq2, hr2⟩ := re
      cases rw'
      obtain ⟨its2, rv2, p2, _⟩ := I.tuple hq2
      exact RcNeAt.none_tuple  p2 (by omega)
  | bl k =>
    cases rd; cases ru
    cases e with
    | ptr a => exact absurd ne (by unfold npt; decide)
    | ty a => exact absurd ne (by unfold npt; decide)
    | fn a => exact absurd ne (by unfold npt; decide)
    | non =>
      cases re; cases rw'
      exact RcNeAt.bool_none _
    | bl l =>
      cases re; cases rw'
      exact RcNeAt.bool_bool _ _
    | int l =>
      cases re; obtain ⟨t, rfl⟩ := rw'
      exact RcNeAt.bool_int _ _ _
    | str l =>
      cases re; obtain ⟨t, rfl⟩ := rw'
      exact RcNeAt.bool_str _ _ _
    | tup es =>
      have ne : npts es = true := ne
      obtain ⟨b, ws, rfl, hq2, hr2⟩ := re
      cases rw'
      obtain ⟨its2, rv2, p2, _⟩ := I.tuple hq2
      exact RcNeAt.bool_tuple _ p2 (by omega)
  | int k =>
    cases rd; obtain ⟨t0, rfl⟩ := ru
    cases e with
    | ptr a => exact absurd ne (by unfold npt; decide)
    | ty a => exact absurd ne (by unfold npt; decide)
    | fn a => exact absurd ne (by unfold npt; decide)
    | non =>
      cases re; cases rw'
      exact RcNeAt.int_none _ _
    | bl l =>
      cases re; cases rw'
      exact RcNeAt.int_bool _ _ _
    | int l =>
      cases re; obtain ⟨t, rfl⟩ := rw'
      exact RcNeAt.int_int _ _ _ _
    | str l =>
      cases re; obtain ⟨t, rfl⟩ := rw'
      exact RcNeAt.int_str _ _ _ _
    | tup es =>
      have ne : npts es = true := ne
      obtain ⟨b, ws, rfl, hq2, hr2⟩ := re
      cases rw'
      obtain ⟨its2, rv2, p2, _⟩ := I.tuple hq2
      exact RcNeAt.int_tuple _ _ p2 (by omega)
  | str k =>
    cases rd; obtain ⟨t0, rfl⟩ := ru
    cases e with
    | ptr a => exact absurd ne (by unfold npt; decide)
    | ty a => exact absurd ne (by unfold npt; decide)
    | fn a => exact absurd ne (by unfold npt; decide)
    | non =>
      cases re; cases rw'
      exact RcNeAt.str_none _ _
    | bl l =>
      cases re; cases rw'
      exact RcNeAt.str_bool _ _ _
    | int l =>
      cases re; obtain ⟨t, rfl⟩ := rw'
      exact RcNeAt.str_int _ _ _ _
    | str l =>
      cases re; obtain ⟨t, rfl⟩ := rw'
      have h := RcNeAt.str_str (A := A) (s := s) ⟨k.toArray⟩ t0 ⟨l.toArray⟩ t
      rw [sarr_eq] at h
      exact h
    | tup es =>
      have ne : npts es = true := ne
      obtain ⟨b, ws, rfl, hq2, hr2⟩ := re
      cases rw'
      obtain ⟨its2, rv2, p2, _⟩ := I.tuple hq2
      exact RcNeAt.str_tuple _ _ p2 (by omega)
  | tup ds =>
    have nd : npts ds = true := nd
    have hd : deps ds + 1 ≤ 60 := hd
    obtain ⟨a, vs, rfl, hq, hr⟩ := rd
    cases ru
    obtain ⟨its, rv, p, _⟩ := I.tuple hq
    cases e with
    | ptr a => exact absurd ne (by unfold npt; decide)
    | ty a => exact absurd ne (by unfold npt; decide)
    | fn a => exact absurd ne (by unfold npt; decide)
    | non =>
      cases re; cases rw'
      exact RcNeAt.tuple_none  p (by omega)
    | bl l =>
      cases re; cases rw'
      exact RcNeAt.tuple_bool _ p (by omega)
    | int l =>
      cases re; obtain ⟨t, rfl⟩ := rw'
      exact RcNeAt.tuple_int _ _ p (by omega)
    | str l =>
      cases re; obtain ⟨t, rfl⟩ := rw'
      exact RcNeAt.tuple_str _ _ p (by omega)
    | tup es =>
      have ne : npts es = true := ne
      obtain ⟨b, ws, rfl, hq2, hr2⟩ := re
      cases rw'
      obtain ⟨its2, rv2, p2, _⟩ := I.tuple hq2
      have h := RcNeAt.tuples (A := A) (s := s) (e := fun j => eqD (ds.getD j .non) (es.getD j .non)) p p2 (by omega) (fun j h1 h2 => by
        have h1 : j < its.length := by simpa using h1
        have h2 : j < its2.length := by simpa using h2
        obtain ⟨v1, a1, a2, a3⟩ := getV_of hr rv h1
        obtain ⟨v2, b1, b2, b3⟩ := getV_of hr2 rv2 h2
        have m1 := deps_mem a3
        exact eqAt_D I 59 _ _ A.in1 v1 v2 _ _ (by omega) (npts_mem nd a3) (npts_mem ne b3) (by show A.units + 1 + 59 < cLine; omega) a1 b1 (by simpa using a2) (by simpa using b2))
      have l1 : its.toArray.size = ds.length := by rw [List.size_toArray, ← rv.length, ← hr.length]
      have l2 : its2.toArray.size = es.length := by rw [List.size_toArray, ← rv2.length, ← hr2.length]
      rw [l1, l2, eqDs_at] at h
      exact h
theorem RcNeAt_L (I : L2.Inv X pins σ H s) (ds es : List D) (A : Around) (p q : Addr) (hd : deps ds ≤ 60) (nd : npts ds = true) (ne : npts es = true) (hA : A.units + 70 < cLine) (rd : ∃ vs, SqL X.K H p vs ∧ Reps X.K H ds vs) (re : ∃ vs, SqL X.K H q vs ∧ Reps X.K H es vs) : RcNeAt A s (.ref p) (.ref q) (!eqDs ds es) := by
  obtain ⟨vs, hq, hr⟩ := rd
  obtain ⟨ws, hq2, hr2⟩ := re
  obtain ⟨its, rv, pl, _⟩ := I.list hq
  obtain ⟨its2, rv2, pl2, _⟩ := I.list hq2
  have l1 : its.toArray.size = ds.length := by rw [List.size_toArray, ← rv.length, ← hr.length]
  have l2 : its2.toArray.size = es.length := by rw [List.size_toArray, ← rv2.length, ← hr2.length]
  by_cases hl : ds.length = es.length
  · have h := RcNeAt.lists (A := A) (s := s) (e := fun j => eqD (ds.getD j .non) (es.getD j .non)) pl.isList pl2.isList (by rw [l1, l2, hl]) (by omega) (fun j h1 h2 => by
      have h1 : j < its.length := by simpa using h1
      have h2 : j < its2.length := by simpa using h2
      obtain ⟨v1, a1, a2, a3⟩ := getV_of hr rv h1
      obtain ⟨v2, b1, b2, b3⟩ := getV_of hr2 rv2 h2
      have m1 := deps_mem a3
      exact eqAt_D I 60 _ _ A.in1 v1 v2 _ _ (by omega) (npts_mem nd a3) (npts_mem ne b3) (by show A.units + 1 + 60 < cLine; omega) a1 b1 (by simpa using a2) (by simpa using b2))
    have e := eqDs_at ds es
    rw [← hl, Nat.min_self, beq_self_eq_true, Bool.and_true] at e
    rw [l1, e] at h
    exact h
  · have e : eqDs ds es = false := by
      rw [← eqDs_at, beq_eq_false_iff_ne.mpr hl, Bool.and_false]
    rw [e]
    exact RcNeAt.lists_lengths pl.isList pl2.isList (by rw [l1, l2]; simpa using hl) (by omega)
theorem RcNeAt_Ld (I : L2.Inv X pins σ H s) (e : D) (A : Around) (p : Addr) (y : V) (w : Value) (ne : npt e = true) (hA : A.units + 70 < cLine) (rd : ∃ vs, SqL X.K H p vs) (re : Rep X.K H e y) (rw' : RelV y w) : RcNeAt A s (.ref p) w true := by
  obtain ⟨vs, hq⟩ := rd
  obtain ⟨its, rv, pl, _⟩ := I.list hq
  cases e with
  | ptr a => exact absurd ne (by unfold npt; decide)
  | ty a => exact absurd ne (by unfold npt; decide)
  | fn a => exact absurd ne (by unfold npt; decide)
  | non => cases re; cases rw'; exact RcNeAt.list_none pl.isList (by omega)
  | bl b => cases re; cases rw'; exact RcNeAt.list_bool b pl.isList (by omega)
  | int i => cases re; obtain ⟨t, rfl⟩ := rw'; exact RcNeAt.list_int _ _ pl.isList (by omega)
  | str l => cases re; obtain ⟨t, rfl⟩ := rw'; exact RcNeAt.list_str _ _ pl.isList (by omega)
  | tup es =>
    obtain ⟨b, ws, rfl, hq2, hr2⟩ := re
    cases rw'
    obtain ⟨its2, rv2, p2, _⟩ := I.tuple hq2
    exact RcNeAt.list_tuple pl.isList p2 (by omega)
theorem RcNeAt_dL (I : L2.Inv X pins σ H s) (e : D) (A : Around) (p : Addr) (y : V) (w : Value) (ne : npt e = true) (hA : A.units + 70 < cLine) (rd : ∃ vs, SqL X.K H p vs) (re : Rep X.K H e y) (rw' : RelV y w) : RcNeAt A s w (.ref p) true := by
  obtain ⟨vs, hq⟩ := rd
  obtain ⟨its, rv, pl, _⟩ := I.list hq
  cases e with
  | ptr a => exact absurd ne (by unfold npt; decide)
  | ty a => exact absurd ne (by unfold npt; decide)
  | fn a => exact absurd ne (by unfold npt; decide)
  | non => cases re; cases rw'; exact RcNeAt.none_list pl.isList (by omega)
  | bl b => cases re; cases rw'; exact RcNeAt.bool_list b pl.isList (by omega)
  | int i => cases re; obtain ⟨t, rfl⟩ := rw'; exact RcNeAt.int_list _ _ pl.isList (by omega)
  | str l => cases re; obtain ⟨t, rfl⟩ := rw'; exact RcNeAt.str_list _ _ pl.isList (by omega)
  | tup es =>
    obtain ⟨b, ws, rfl, hq2, hr2⟩ := re
    cases rw'
    obtain ⟨its2, rv2, p2, _⟩ := I.tuple hq2
    exact RcNeAt.tuple_list p2 pl.isList (by omega)
end
section
variable {X : Cx} {B : Bs}
theorem op_eqD (hu : X.A.units + 70 < cLine) : OpD X B (compareOp .Eq) (eqR false) := by
  intro pins s σ H x y v u Q I rx ry h
  obtain ⟨dx, dy, C, Qd, r1, r2, rl, h, k⟩ := h
  have fin : ∀ b : Bool, RcAt X.A s v u b → Qd (.bl b) C → wpAny (model X.prog X.w) X.A (compareOp .Eq v u) (EP X pins σ Q) X.xe s := fun b hb hq => hb X.prog X.w _ _ ⟨.bl b, H, I, rfl, k _ (.bl b) H C (Stp.refl _ _) rl rfl hq⟩
  have gen : ∀ dx dy : D, Rep X.K H dx x → Rep X.K H dy y → okEq dx ∧ npt dy = true ∧ Qd (.bl (eqD dx dy)) C → wpAny (model X.prog X.w) X.A (compareOp .Eq v u) (EP X pins σ Q) X.xe s := fun dx dy a b ⟨⟨h1, h2⟩, h3, h4⟩ => fin _ (RcAt_D I dx dy X.A x y v u h2 h1 h3 (by omega) a b rx ry) h4
  cases dx with
  | ptr p =>
    cases r1; cases rx
    cases dy with
    | ptr q =>
      cases r2; cases ry
      obtain ⟨ds, es, h1, h2, ⟨h3, h4⟩, h5, h6⟩ := h
      exact fin _ (RcAt_L I ds es X.A p q h4 h3 h5 hu (h1.sq rl) (h2.sq rl)) h6
    | _ =>
      obtain ⟨ds, h1, h2, h3⟩ := h
      exact fin _ (RcAt_Ld I _ X.A p y u h2 hu (let ⟨vs, q, _⟩ := h1.sq rl; ⟨vs, q⟩) r2 ry) h3
  | _ =>
    cases dy with
    | ptr p =>
      cases r2; cases ry
      obtain ⟨ds, h1, h2, h3⟩ := h
      exact fin _ (RcAt_dL I _ X.A p x v h2 hu (let ⟨vs, q, _⟩ := h1.sq rl; ⟨vs, q⟩) r1 rx) h3
    | _ => exact gen _ _ r1 r2 h
theorem op_neD (hu : X.A.units + 70 < cLine) : OpD X B (compareOp .NotEq) (eqR true) := by
  intro pins s σ H x y v u Q I rx ry h
  obtain ⟨dx, dy, C, Qd, r1, r2, rl, h, k⟩ := h
  have fin : ∀ b : Bool, RcNeAt X.A s v u b → Qd (.bl b) C → wpAny (model X.prog X.w) X.A (compareOp .NotEq v u) (EP X pins σ Q) X.xe s := fun b hb hq => hb X.prog X.w _ _ ⟨.bl b, H, I, rfl, k _ (.bl b) H C (Stp.refl _ _) rl rfl hq⟩
  have gen : ∀ dx dy : D, Rep X.K H dx x → Rep X.K H dy y → okEq dx ∧ npt dy = true ∧ Qd (.bl (!eqD dx dy)) C → wpAny (model X.prog X.w) X.A (compareOp .NotEq v u) (EP X pins σ Q) X.xe s := fun dx dy a b ⟨⟨h1, h2⟩, h3, h4⟩ => fin _ (RcNeAt_D I dx dy X.A x y v u h2 h1 h3 (by omega) a b rx ry) h4
  cases dx with
  | ptr p =>
    cases r1; cases rx
    cases dy with
    | ptr q =>
      cases r2; cases ry
      obtain ⟨ds, es, h1, h2, ⟨h3, h4⟩, h5, h6⟩ := h
      exact fin _ (RcNeAt_L I ds es X.A p q h4 h3 h5 hu (h1.sq rl) (h2.sq rl)) h6
    | _ =>
      obtain ⟨ds, h1, h2, h3⟩ := h
      exact fin _ (RcNeAt_Ld I _ X.A p y u h2 hu (let ⟨vs, q, _⟩ := h1.sq rl; ⟨vs, q⟩) r2 ry) h3
  | _ =>
    cases dy with
    | ptr p =>
      cases r2; cases ry
      obtain ⟨ds, h1, h2, h3⟩ := h
      exact fin _ (RcNeAt_dL I _ X.A p x v h2 hu (let ⟨vs, q, _⟩ := h1.sq rl; ⟨vs, q⟩) r1 rx) h3
    | _ => exact gen _ _ r1 r2 h
end
end KB
/-! KB4: expressions, tests, statements over data. -/
namespace KB
open PySem PySem.Spec PyProof.Rows SeqAt
open L2 hiding op_eqD op_neD
theorem repB {K : PySem.W.Frag} {H : Hp} (b : Bool) : Rep K H (.bl b) (.bl b) := rfl
theorem repI {K : PySem.W.Frag} {H : Hp} (b : Int) : Rep K H (.int b) (.int b) := rfl
theorem repN {K : PySem.W.Frag} {H : Hp} : Rep K H .non .non := rfl
theorem repP {K : PySem.W.Frag} {H : Hp} (p : Addr) : Rep K H (.ptr p) (.ref p) := rfl
section
variable {X : Cx} {B : Bs} {pos : Pos} {a b c : Expr} {ta tb tc : DE} {rest : List Expr}
/-! ### operators -/
def dOp (r : D → D → Cp → DQ → Prop) (ta tb : DE) : DE := fun s C Q => ta s C fun x C1 => tb s C1 fun y C2 => r x y C2 Q
theorem op_lift {K : PySem.W.Frag} {r : D → D → Cp → DQ → Prop} {σ : L2.St} {H : Hp} {Q : VK} (h : lE K B (dOp r ta tb) σ H Q) : tOp (lR K B r) (lE K B ta) (lE K B tb) σ H Q := by
  obtain ⟨sl, C, Qd, rs, rl, h, k⟩ := h
  exact ⟨sl, C, _, rs, rl, h, fun x dx H1 C1 st1 rl1 rx h1 => ⟨sl, C1, _, rs.mono st1.tx, rl1, h1, fun y dy H2 C2 st2 rl2 ry h2 => ⟨dx, dy, C2, Qd, rx.mono st2.tx, ry, rl2, h2, fun v d H' C' st => k v d H' C' ((st1.trans st2).trans st)⟩⟩⟩
theorem j_op {op : Operator} {r : D → D → Cp → DQ → Prop} (ho : OpD X B (binaryOp op) r) (ha : JE X B a ta) (hb : JE X B b tb) : JE X B (.BinOp a op b pos) (dOp r ta tb) := PE.imp (pe_op ho ha hb) fun _ _ _ h => op_lift h
theorem j_cmp {op : CmpOp} {r : D → D → Cp → DQ → Prop} (ho : OpD X B (compareOp op) r) (ha : JE X B a ta) (hb : JE X B b tb) (hm : behindInMarks op b = false := by first | exact nobehind _ (by decide) (by decide) | rfl) : JE X B (.Compare a [op] [b] pos) (dOp r ta tb) :=
  PE.imp (pe_cmpR ho ha hb hm) fun _ _ _ h => op_lift h
def dTest (t : DE) : DT := fun s C Q => t s C fun d C1 => ∃ b, d = .bl b ∧ Q b C1
theorem jt_cmp {op : CmpOp} {r : D → D → Cp → DQ → Prop} (ho : OpD X B (compareOp op) r) (ha : JE X B a ta) (hb : JE X B b tb) (hm : behindInMarks op b = false := by first | exact nobehind _ (by decide) (by decide) | rfl) : JT X B (.Compare a [op] [b] pos) (dTest (dOp r ta tb)) :=
  PT.imp (pt_cmpR ho ha hb hm) fun σ H Q h => by
    obtain ⟨sl, C, Qd, rs, rl, h, k⟩ := h
    refine op_lift (Q := fun x H' => ∃ k, x = .bl k ∧ Q k H') ⟨sl, C, _, rs, rl, h, fun v d H' C' st rl' r ⟨b, e, q⟩ => ?_⟩
    subst e
    exact ⟨b, r, k b H' C' st rl' q⟩
def dChain (r r' : D → D → Cp → DQ → Prop) (ta tb tc : DE) : DE := fun s C Q => ta s C fun x C1 => tb s C1 fun y C2 => r x y C2 fun z C3 => ∃ k, z = .bl k ∧ (if k = true then tc s C3 fun w C4 => r' y w C4 Q else Q (.bl false) C3)
theorem chain_lift {K : PySem.W.Frag} {r r' : D → D → Cp → DQ → Prop} {σ : L2.St} {H : Hp} {Q : VK} (h : lE K B (dChain r r' ta tb tc) σ H Q) : tChain (lR K B r) (lR K B r') (lE K B ta) (lE K B tb) (lE K B tc) σ H Q := by
  obtain ⟨sl, C, Qd, rs, rl, h, k⟩ := h
  refine ⟨sl, C, _, rs, rl, h, fun x dx H1 C1 st1 rl1 rx h1 => ⟨sl, C1, _, rs.mono st1.tx, rl1, h1, fun y dy H2 C2 st2 rl2 ry h2 => ⟨dx, dy, C2, _, rx.mono st2.tx, ry, rl2, h2, fun v d H3 C3 st3 rl3 rv ⟨kk, e, q⟩ => ?_⟩⟩⟩
  subst e
  refine ⟨kk, rv, ?_⟩
  cases kk with
  | true => exact ⟨sl, C3, _, rs.mono ((st1.trans st2).trans st3).tx, rl3, q, fun w dw H4 C4 st4 rl4 rw4 h4 => ⟨dy, dw, C4, Qd, ry.mono (st3.trans st4).tx, rw4, rl4, h4, fun v d H' C' st => k v d H' C' ((((st1.trans st2).trans st3).trans st4).trans st)⟩⟩
  | false => exact k _ _ H3 C3 ((st1.trans st2).trans st3) rl3 (repB _) q
theorem jt_chain {op op' : CmpOp} {r r' : D → D → Cp → DQ → Prop} (ho : OpD X B (compareOp op) r) (ho' : OpD X B (compareOp op') r') (ha : JE X B a ta) (hb : JE X B b tb) (hc : JE X B c tc) (hm : lastMarks [op, op'] [b, c] = false := by with_unfolding_all rfl) :
    JT X B (.Compare a [op, op'] [b, c] pos) (dTest (dChain r r' ta tb tc)) := PT.imp (pt_chain ho ho' ha hb hc hm) fun σ H Q h => by
  obtain ⟨sl, C, Qd, rs, rl, h, k⟩ := h
  refine chain_lift (Q := fun x H' => ∃ k, x = .bl k ∧ Q k H') ⟨sl, C, _, rs, rl, h, fun v d H' C' st rl' r ⟨b, e, q⟩ => ?_⟩
  subst e
  exact ⟨b, r, k b H' C' st rl' q⟩
/-! is None -/
def isNR (neg : Bool) : D → D → Cp → DQ → Prop := fun x y C Q => y = .non ∧ Q (.bl (match x with | .non => !neg | _ => neg)) C
theorem op_isND : OpD X B (compareOp .Is) (isNR false) := by
  intro pins s σ H x y v u Q I rx ry h
  obtain ⟨dx, dy, C, Qd, r1, r2, rl, ⟨e, h⟩, k⟩ := h
  subst e
  cases r2
  refine op_isN pins s σ H x _ v u Q I rx ry ⟨rfl, ?_⟩
  cases dx with
  | tup ds => obtain ⟨a, vs, rfl, _⟩ := r1; exact k _ _ H C (Stp.refl _ _) rl (repB _) h
  | fn _ => obtain ⟨a, rfl, _⟩ := r1; exact k _ _ H C (Stp.refl _ _) rl (repB _) h
  | _ => cases r1; exact k _ _ H C (Stp.refl _ _) rl (repB _) h
theorem op_isNND : OpD X B (compareOp .IsNot) (isNR true) := by
  intro pins s σ H x y v u Q I rx ry h
  obtain ⟨dx, dy, C, Qd, r1, r2, rl, ⟨e, h⟩, k⟩ := h
  subst e
  cases r2
  refine op_notN pins s σ H x _ v u Q I rx ry ⟨rfl, ?_⟩
  cases dx with
  | tup ds => obtain ⟨a, vs, rfl, _⟩ := r1; exact k _ _ H C (Stp.refl _ _) rl (repB _) h
  | fn _ => obtain ⟨a, rfl, _⟩ := r1; exact k _ _ H C (Stp.refl _ _) rl (repB _) h
  | _ => cases r1; exact k _ _ H C (Stp.refl _ _) rl (repB _) h
/-! ### tests -/
def truD (C : Cp) : D → Bool → Prop
  | .non, k => k = false
  | .bl b, k => k = b
  | .int i, k => k = (i != 0)
  | .str l, k => l.length ≤ sizeLine ∧ k = !l.isEmpty
  | .tup ds, k => k = !ds.isEmpty
  | .ptr p, k => (∃ ds, isL C p ds ∧ k = !ds.isEmpty) ∨ ∃ kvs, C p = some (.dk kvs) ∧ k = !kvs.isEmpty
  | .ty _, _ => False
  | .fn _, _ => False
theorem isEmpty_reps {K : PySem.W.Frag} {H : Hp} {ds : List D} {vs : List V} (r : Reps K H ds vs) : (!ds.isEmpty) = !vs.isEmpty := by
  have := r.length
  cases ds <;> cases vs <;> simp_all
theorem truD_ok {K : PySem.W.Frag} {H : Hp} {C : Cp} (rl : Rl K B H C) {d : D} {x : V} {k : Bool} (r : Rep K H d x) (h : truD C d k) : TruV K x H k := by
  cases d with
  | non => cases r; exact h
  | bl b => cases r; exact h
  | int i => cases r; exact h
  | str l =>
    cases r
    refine ⟨by simpa [Str.length] using h.1, ?_⟩
    rw [h.2]
    cases l with
    | nil => rfl
    | cons x l =>
      show true = (((l.length + 1 : Nat) : Int) != 0)
      symm
      rw [bne_iff_ne]
      omega
  | tup ds =>
    obtain ⟨a, vs, rfl, hq, hr⟩ := r
    have h : k = !ds.isEmpty := h
    exact .inr (.inl ⟨vs, hq, by rw [h, isEmpty_reps hr]⟩)
  | ptr p =>
    cases r
    rcases h with ⟨ds, hl, h⟩ | ⟨kvs, hl, h⟩
    · obtain ⟨vs, hq, hr⟩ := hl.sq rl
      exact .inl ⟨vs, hq, by rw [h, isEmpty_reps hr]⟩
    · obtain ⟨ws, e, q⟩ := rl.ok _ _ hl
      refine .inr (.inr ⟨ws, e, ?_⟩)
      rw [h]
      have := Paired.length q
      cases kvs <;> cases ws <;> simp_all
  | ty _ => exact h.elim
  | fn _ => exact h.elim
def dTru (t : DE) : DT := fun s C Q => t s C fun d C1 => ∃ k, truD C1 d k ∧ Q k C1
theorem jt_tru (ha : JE X B a ta) (he : ∀ whole, isTrue a X.env whole = (do let v ← whole; standAt a.pos; holding [v] (truthy v)) := by intro _; rfl) : JT X B a (dTru ta) := PT.imp (pt_truth ha he) fun σ H Q h => by
  obtain ⟨sl, C, Qd, rs, rl, h, k⟩ := h
  exact ⟨sl, C, _, rs, rl, h, fun v d H' C' st rl' r ⟨b, t, q⟩ => ⟨b, truD_ok rl' r t, k b H' C' st rl' q⟩⟩
def dAnd (t u : DT) : DT := fun s C Q => t s C fun c C1 => if c = true then u s C1 Q else Q false C1
def dOr (t u : DT) : DT := fun s C Q => t s C fun c C1 => if c = true then Q true C1 else u s C1 Q
def dNot (t : DT) : DT := fun s C Q => t s C fun c C1 => Q (!c) C1
variable {tA tB : DT}
theorem jw_and1 (ha : JT X B a tA) : JW X B (.BoolOp .And [a] pos) tA := pw_and1 ha
theorem jw_or1 (ha : JT X B a tA) : JW X B (.BoolOp .Or [a] pos) tA := pw_or1 ha
theorem jw_and (ha : JT X B a tA) (hb : JW X B (.BoolOp .And (b :: rest) pos) tB) : JW X B (.BoolOp .And (a :: b :: rest) pos) (dAnd tA tB) := PW.imp (pw_and ha hb) fun σ H Q h => by
  obtain ⟨sl, C, Qd, rs, rl, h, k⟩ := h
  refine ⟨sl, C, _, rs, rl, h, fun c H1 C1 st1 rl1 q => ?_⟩
  cases c with
  | true => exact ⟨sl, C1, Qd, rs.mono st1.tx, rl1, q, fun b H' C' st => k b H' C' (st1.trans st)⟩
  | false => exact k _ H1 C1 st1 rl1 q
theorem jw_or (ha : JT X B a tA) (hb : JW X B (.BoolOp .Or (b :: rest) pos) tB) : JW X B (.BoolOp .Or (a :: b :: rest) pos) (dOr tA tB) := PW.imp (pw_or ha hb) fun σ H Q h => by
  obtain ⟨sl, C, Qd, rs, rl, h, k⟩ := h
  refine ⟨sl, C, _, rs, rl, h, fun c H1 C1 st1 rl1 q => ?_⟩
  cases c with
  | false => exact ⟨sl, C1, Qd, rs.mono st1.tx, rl1, q, fun b H' C' st => k b H' C' (st1.trans st)⟩
  | true => exact k _ H1 C1 st1 rl1 q
theorem jt_w (h : JW X B a tA) : JT X B a tA := PW.pt h
theorem jt_not (ha : JT X B a tA) : JT X B (.UnaryOp .Not a pos) (dNot tA) := PT.imp (pt_not ha) fun σ H Q h => by
  obtain ⟨sl, C, Qd, rs, rl, h, k⟩ := h
  exact ⟨sl, C, _, rs, rl, h, fun c H1 C1 st1 rl1 q => k _ H1 C1 st1 rl1 q⟩
/-! as values -/
def dOrT (ta tb : DE) : DE := fun s C Q => ta s C fun x C1 => ∃ k, truD C1 x k ∧ if k = true then Q x C1 else tb s C1 Q
def dAndT (ta tb : DE) : DE := fun s C Q => ta s C fun x C1 => ∃ k, truD C1 x k ∧ if k = true then tb s C1 Q else Q x C1
def dNotT (ta : DE) : DE := fun s C Q => ta s C fun x C1 => ∃ k, truD C1 x k ∧ Q (.bl (!k)) C1
theorem j_one {op} (h : JE X B a ta) : JE X B (.BoolOp op [a] pos) ta := pe_one h
theorem j_or (ha : JE X B a ta) (hb : JE X B (.BoolOp .Or (b :: rest) pos) tb) : JE X B (.BoolOp .Or (a :: b :: rest) pos) (dOrT ta tb) := PE.imp (pe_orT ha hb) fun σ H Q h => by
  obtain ⟨sl, C, Qd, rs, rl, h, k⟩ := h
  refine ⟨sl, C, _, rs, rl, h, fun v d H1 C1 st1 rl1 r ⟨kk, t, q⟩ => ⟨kk, truD_ok rl1 r t, ?_⟩⟩
  cases kk with
  | true => exact k _ _ H1 C1 st1 rl1 r q
  | false => exact ⟨sl, C1, Qd, rs.mono st1.tx, rl1, q, fun v d H' C' st => k v d H' C' (st1.trans st)⟩
theorem j_and (ha : JE X B a ta) (hb : JE X B (.BoolOp .And (b :: rest) pos) tb) : JE X B (.BoolOp .And (a :: b :: rest) pos) (dAndT ta tb) := PE.imp (pe_andT ha hb) fun σ H Q h => by
  obtain ⟨sl, C, Qd, rs, rl, h, k⟩ := h
  refine ⟨sl, C, _, rs, rl, h, fun v d H1 C1 st1 rl1 r ⟨kk, t, q⟩ => ⟨kk, truD_ok rl1 r t, ?_⟩⟩
  cases kk with
  | false => exact k _ _ H1 C1 st1 rl1 r q
  | true => exact ⟨sl, C1, Qd, rs.mono st1.tx, rl1, q, fun v d H' C' st => k v d H' C' (st1.trans st)⟩
theorem j_not (ha : JE X B a ta) : JE X B (.UnaryOp .Not a pos) (dNotT ta) := PE.imp (pe_notT ha) fun σ H Q h => by
  obtain ⟨sl, C, Qd, rs, rl, h, k⟩ := h
  exact ⟨sl, C, _, rs, rl, h, fun v d H1 C1 st1 rl1 r ⟨kk, t, q⟩ => ⟨kk, truD_ok rl1 r t, k _ _ H1 C1 st1 rl1 (repB _) q⟩⟩
def dIfE (t : DT) (ta tb : DE) : DE := fun s C Q => t s C fun c C1 => if c = true then ta s C1 Q else tb s C1 Q
theorem j_ifExp (hc : JT X B c tA) (ha : JE X B a ta) (hb : JE X B b tb) : JE X B (.IfExp c a b pos) (dIfE tA ta tb) := PE.imp (pe_ifExp hc ha hb) fun σ H Q h => by
  obtain ⟨sl, C, Qd, rs, rl, h, k⟩ := h
  refine ⟨sl, C, _, rs, rl, h, fun cc H1 C1 st1 rl1 q => ?_⟩
  cases cc with
  | true => exact ⟨sl, C1, Qd, rs.mono st1.tx, rl1, q, fun v d H' C' st => k v d H' C' (st1.trans st)⟩
  | false => exact ⟨sl, C1, Qd, rs.mono st1.tx, rl1, q, fun v d H' C' st => k v d H' C' (st1.trans st)⟩
/-! ### arguments, displays -/
def dNil : DA := fun _ C Q => Q [] C
def dCons (t : DE) (u : DA) : DA := fun s C Q => t s C fun x C1 => u s C1 fun xs C2 => Q (x :: xs) C2
variable {es : List Expr} {tr : DA}
theorem jas_nil : JA X B [] dNil := PA.imp pa_nil fun σ H Q h => by
  obtain ⟨sl, C, Qd, rs, rl, h, k⟩ := h
  exact k [] [] H C (Stp.refl _ _) rl rfl h
theorem jas_cons (ha : JE X B a ta) (hr : JA X B es tr) (hs : starEach (a :: es) X.env = (false, eval a X.env) :: starEach es X.env := by rfl) : JA X B (a :: es) (dCons ta tr) := PA.imp (pa_cons ha hr hs) fun σ H Q h => by
  obtain ⟨sl, C, Qd, rs, rl, h, k⟩ := h
  refine ⟨sl, C, _, rs, rl, h, fun v d H1 C1 st1 rl1 r q => ⟨sl, C1, _, rs.mono st1.tx, rl1, q, fun vs ds H2 C2 st2 rl2 r2 q2 => ?_⟩⟩
  exact k _ _ H2 C2 (st1.trans st2) rl2 (.cons (r.mono st2.tx) r2) q2
def dTup (t : DA) : DE := fun s C Q => t s C fun ds C1 => ds.length ≤ 1000 ∧ Q (.tup ds) C1
def dLst (t : DA) : DE := fun s C Q => t s C fun ds C1 => ds.length ≤ 1000 ∧ ∀ p, C1 p = none → Q (.ptr p) (up C1 p (.lst ds))
theorem Rl.newL {K : PySem.W.Frag} {H : Hp} {C : Cp} (rl : Rl K B H C) {p : Addr} {ds : List D} {vs : List V} (hp : H p = none) (r : Reps K H ds vs) : Stp H C (upd H p (.lst vs)) (up C p (.lst ds)) ∧ Rl K B (upd H p (.lst vs)) (up C p (.lst ds)) :=
  ⟨stp_put (by rw [hp]; exact id) (.inr hp), rl.putNew hp ⟨vs, upd_same, r.mono (tx_new hp)⟩⟩
theorem Rl.newF {K : PySem.W.Frag} {H : Hp} {C : Cp} (rl : Rl K B H C) {p : Addr} {ds : List D} {vs : List V} {ob : Obj} (hp : H p = none) (hob : ob.dict = none) (r : Reps K H ds vs) : Stp H C (upd H p (.frz ob (.tup vs))) C ∧ Rl K B (upd H p (.frz ob (.tup vs))) C ∧ Rep K (upd H p (.frz ob (.tup vs))) (.tup ds) (.ref p) :=
  ⟨stp_more hp, rl.more hp hob, ⟨p, vs, rfl, .inl (.inr ⟨_, upd_same⟩), r.mono (tx_new hp)⟩⟩
theorem sz1000 {n : Nat} (h : n ≤ 1000) : n ≤ sizeLine := Nat.le_trans h (by decide)
theorem j_tup {x1} (h : JA X B es tr) : JE X B (.Tuple es x1 pos) (dTup tr) := PE.imp (pe_tupF h) fun σ H Q h => by
  obtain ⟨sl, C, Qd, rs, rl, h, k⟩ := h
  refine ⟨sl, C, _, rs, rl, h, fun vs ds H1 C1 st1 rl1 r ⟨hz, q⟩ => ⟨by rw [← r.length]; exact sz1000 hz, fun p ob hp hob => ?_⟩⟩
  obtain ⟨a1, a2, a3⟩ := rl1.newF hp hob r
  exact k _ _ _ C1 (st1.trans a1) a2 a3 q
theorem j_lst (h : JA X B es tr) : JE X B (.List es pos) (dLst tr) := PE.imp (pe_lst h) fun σ H Q h => by
  obtain ⟨sl, C, Qd, rs, rl, h, k⟩ := h
  refine ⟨sl, C, _, rs, rl, h, fun vs ds H1 C1 st1 rl1 r ⟨hz, q⟩ => ⟨by rw [← r.length]; exact sz1000 hz, fun p hp => ?_⟩⟩
  obtain ⟨a1, a2⟩ := rl1.newL hp r
  exact k _ _ _ _ (st1.trans a1) a2 (repP p) (q p (rl1.fresh hp))
def dEmp : DE := fun _ C Q => ∀ p, C p = none → Q (.ptr p) (up C p (.dk []))
theorem j_emp : JE X B (.Dict [] [] pos) dEmp := PE.imp pe_dnewK fun σ H Q h p hp => by
  obtain ⟨sl, C, Qd, rs, rl, h, k⟩ := h
  exact k _ _ _ (up C p (.dk [])) (stp_put (by rw [hp]; exact id) (.inr hp)) (rl.putNew hp ⟨[], upd_same, .nil⟩) (repP p) (h p (rl.fresh hp))
/-! ### items, slices -/
def ixD : D → D → Cp → DQ → Prop
  | .tup ds, .int i, C, Q => ∃ d, atI ds i = some d ∧ Q d C
  | .str l, .int i, C, Q => l.length ≤ sizeLine ∧ ∃ c, atI l i = some c ∧ Q (.str [c]) C
  | .ptr p, .int i, C, Q => ∃ ds d, isL C p ds ∧ atI ds i = some d ∧ Q d C
  | _, _, _, _ => False
theorem atI_reps {K : PySem.W.Frag} {H : Hp} {ds : List D} {vs : List V} {i : Int} {d : D} (r : Reps K H ds vs) (h : atI ds i = some d) : ∃ v, atI vs i = some v ∧ Rep K H d v := by
  unfold atI at h ⊢
  rw [← r.length]
  cases e : ixN ds.length i with
  | none => rw [e] at h; cases h
  | some j =>
    rw [e] at h
    obtain ⟨v, e1, e2⟩ := r.get (show ds[j]? = some d from h)
    exact ⟨v, e1, e2⟩
theorem ix_D : IxR X (lR X.K B ixD) := by
  intro value slice pins s σ H x y v u Q I rx ry h hs
  obtain ⟨dx, dy, C, Qd, r1, r2, rl, h, k⟩ := h
  cases dx with
  | tup ds =>
    cases dy with
    | int i =>
      obtain ⟨a, vs, rfl, hq, hr⟩ := r1
      cases r2
      obtain ⟨d, e, q⟩ := h
      obtain ⟨w, e1, e2⟩ := atI_reps hr e
      exact ix_tup value slice pins s σ H _ _ v u Q I rx ry ⟨_, _, _, _, rfl, rfl, hq, e1, k _ d H C (Stp.refl _ _) rl e2 q⟩ hs
    | _ => exact False.elim h
  | str l =>
    cases dy with
    | int i =>
      cases r1; cases r2
      obtain ⟨hz, c, e, q⟩ := h
      exact ix_str value slice pins s σ H _ _ v u Q I rx ry ⟨_, _, c, rfl, rfl, by simpa [Str.length] using hz, e, k _ (.str [c]) H C (Stp.refl _ _) rl rfl q⟩ hs
    | _ => exact False.elim h
  | ptr p =>
    cases dy with
    | int i =>
      cases r1; cases r2
      obtain ⟨ds, d, hl, e, q⟩ := h
      obtain ⟨vs, hq, hr⟩ := hl.sq rl
      obtain ⟨w, e1, e2⟩ := atI_reps hr e
      exact ix_list value slice pins s σ H _ _ v u Q I rx ry ⟨_, _, _, _, rfl, rfl, hq, e1, k _ d H C (Stp.refl _ _) rl e2 q⟩ hs
    | _ => exact False.elim h
  | _ => exact False.elim h
theorem j_ix (ha : JE X B a ta) (hb : JE X B b tb) (hs : PlainIx b := by exact fun _ _ => rfl) : JE X B (.Subscript a b pos) (dOp ixD ta tb) := PE.imp (pe_ix ix_D ha hb hs) fun _ _ _ h => op_lift h
/-! parts -/
abbrev DO := Sl → Cp → (Option Int → Cp → Prop) → Prop
def lO (K : PySem.W.Frag) (B : Bs) (τ : DO) : TO := fun σ H Q => ∃ sl C Qd, RepS K H sl σ ∧ Rl K B H C ∧ τ sl C Qd ∧ ∀ o H' C', Stp H C H' C' → Rl K B H' C' → Qd o C' → Q o H'
abbrev JO (X : Cx) (B : Bs) (e : Option Expr) (τ : DO) : Prop := PO X e (lO X.K B τ)
theorem PO.imp {e : Option Expr} {t t' : TO} (h : PO X e t) (i : ∀ σ H Q, t' σ H Q → t σ H Q) : PO X e t' := ⟨fun pins s σ H Q I q => h.run pins s σ H Q I (i σ H Q q)⟩
def dNoP : DO := fun _ C Q => Q none C
def dPart (t : DE) : DO := fun s C Q => t s C fun x C1 => ∃ i, x = .int i ∧ Q (some i) C1
theorem jo_none : JO X B none dNoP := PO.imp po_none fun σ H Q h => by
  obtain ⟨sl, C, Qd, rs, rl, h, k⟩ := h
  exact k _ H C (Stp.refl _ _) rl h
theorem jo_some (ha : JE X B a ta) : JO X B (some a) (dPart ta) := PO.imp (po_some ha) fun σ H Q h => by
  obtain ⟨sl, C, Qd, rs, rl, h, k⟩ := h
  refine ⟨sl, C, _, rs, rl, h, fun v d H1 C1 st1 rl1 r ⟨i, e, q⟩ => ?_⟩
  subst e
  exact ⟨i, r, k _ H1 C1 st1 rl1 q⟩
def cutL {α : Type} (xs : List α) (lo hi : Option Int) : List α := (xs.drop (HT.sIx xs.length 0 lo)).take (HT.sIx xs.length xs.length hi - HT.sIx xs.length 0 lo)
theorem cutL_whole {α : Type} (xs : List α) {lo hi : Option Int} (h : HT.sIx xs.length 0 lo = 0 ∧ HT.sIx xs.length xs.length hi = xs.length) : cutL xs lo hi = xs := by
  unfold cutL
  rw [h.1, h.2]
  simp
def slD (x : D) (lo hi : Option Int) (C : Cp) (Q : DQ) : Prop := match x with
  | .tup ds => Q (.tup (cutL ds lo hi)) C
  | .str l => l.length ≤ sizeLine ∧ Q (.str (cutL l lo hi)) C
  | .ptr p => ∃ ds, isL C p ds ∧ ∀ q, C q = none → Q (.ptr q) (up C q (.lst (cutL ds lo hi)))
  | _ => False
def lSl (K : PySem.W.Frag) (B : Bs) : V → Option Int → Option Int → Hp → VK → Prop := fun x lo hi H Q => ∃ dx C Qd, Rep K H dx x ∧ Rl K B H C ∧ slD dx lo hi C Qd ∧ ∀ v d H' C', Stp H C H' C' → Rl K B H' C' → Rep K H' d v → Qd d C' → Q v H'
theorem sl_D : SlR X (lSl X.K B) := by
  intro pins s σ H x v vl vu lo hi sl Q I rx hs pl pu h
  obtain ⟨dx, C, Qd, r1, rl, h, k⟩ := h
  cases dx with
  | tup ds =>
    obtain ⟨a, vs, rfl, hq, hr⟩ := r1
    have h : Qd (.tup (cutL ds lo hi)) C := h
    refine sl_tupF pins s σ H _ v vl vu lo hi sl Q I rx hs pl pu ⟨a, vs, rfl, hq, fun e => ?_, fun e p ob hp hob => ?_⟩
    · rw [← hr.length] at e
      rw [cutL_whole ds e] at h
      exact k _ (.tup ds) H C (Stp.refl _ _) rl ⟨a, vs, rfl, hq, hr⟩ h
    · have hr2 : Reps X.K H (cutL ds lo hi) (cutV vs lo hi) := by
        unfold cutL cutV
        rw [← hr.length]
        exact (hr.drop _).take _
      obtain ⟨a1, a2, a3⟩ := rl.newF hp hob hr2
      exact k _ _ _ C a1 a2 a3 h
  | str l =>
    cases r1
    refine sl_str pins s σ H _ v vl vu lo hi sl Q I rx hs pl pu ⟨_, rfl, by simpa [Str.length] using h.1, k _ (.str (cutL l lo hi)) H C (Stp.refl _ _) rl ?_ h.2⟩
    show V.str _ = V.str _
    rfl
  | ptr p =>
    cases r1
    obtain ⟨ds, hl, h⟩ := h
    obtain ⟨vs, hq, hr⟩ := hl.sq rl
    refine sl_list pins s σ H _ v vl vu lo hi sl Q I rx hs pl pu ⟨p, vs, rfl, hq, fun q hqn => ?_⟩
    have hr2 : Reps X.K H (cutL ds lo hi) (cutV vs lo hi) := by
      unfold cutL cutV
      rw [← hr.length]
      exact (hr.drop _).take _
    obtain ⟨a1, a2⟩ := rl.newL hqn hr2
    exact k _ _ _ _ a1 a2 (repP q) (h q (rl.fresh hqn))
  | _ => exact False.elim h
def dSl (te : DE) (tl th : DO) : DE := fun s C Q => te s C fun x C1 => tl s C1 fun l C2 => th s C2 fun u C3 => slD x l u C3 Q
theorem j_slice {lo hi : Option Expr} {tl th : DO} {p2 : Pos} (ha : JE X B a ta) (hl : JO X B lo tl) (hu : JO X B hi th) : JE X B (.Subscript a (.Slice lo hi none p2) pos) (dSl ta tl th) := PE.imp (pe_slice sl_D ha hl hu) fun σ H Q h => by
  obtain ⟨sl, C, Qd, rs, rl, h, k⟩ := h
  exact ⟨sl, C, _, rs, rl, h, fun x dx H1 C1 st1 rl1 rx h1 => ⟨sl, C1, _, rs.mono st1.tx, rl1, h1, fun l H2 C2 st2 rl2 h2 => ⟨sl, C2, _, rs.mono (st1.trans st2).tx, rl2, h2, fun u H3 C3 st3 rl3 h3 => ⟨dx, C3, Qd, rx.mono (st2.trans st3).tx, rl3, h3, fun v d H' C' st => k v d H' C' (((st1.trans st2).trans st3).trans st)⟩⟩⟩⟩
/-! ### statements -/
variable {st : Stmt} {sts : List Stmt} {tS uS : DS}
def dNext : DS := fun D s C => D.nx s C
def dSeq (t u : DS) : DS := fun D s C => t { D with nx := u D } s C
theorem jss_nil : JSs X B [] dNext := PSs.imp pss_nil fun D σ H h => by
  obtain ⟨sl, C, Dd, rs, rl, h, k⟩ := h
  exact k.nx σ sl H C (Stp.refl _ _) rl rs h
theorem EndsOk.seq {K : PySem.W.Frag} {H : Hp} {C : Cp} {Dd : DEnds} {D : Ends} (k : EndsOk K B H C Dd D) (u : DS) : EndsOk K B H C { Dd with nx := u Dd } { D with nx := lS K B u D } :=
  ⟨fun σ sl H' C' st rl rs q => ⟨sl, C', Dd, rs, rl, q, k.mono st⟩, k.rt, k.bk, k.ct⟩
theorem jss_cons (h1 : JS X B st tS) (h2 : JSs X B sts uS) : JSs X B (st :: sts) (dSeq tS uS) := PSs.imp (pss_cons h1 h2) fun D σ H h => by
  obtain ⟨sl, C, Dd, rs, rl, h, k⟩ := h
  exact ⟨sl, C, _, rs, rl, h, k.seq uS⟩
theorem jss_one (h1 : JS X B st tS) : JSs X B [st] tS := PSs.imp (pss_one h1) fun D σ H h => h
def dDrop (t : DE) : DS := fun D s C => t s C fun _ C1 => D.nx s C1
theorem js_expr (ha : JE X B a ta) (hs : swapsWith a none pos.line X.env = pure false := by rfl) : JS X B (.Expr a pos) (dDrop ta) := PS.imp (ps_expr ha hs) fun D σ H h => by
  obtain ⟨sl, C, Dd, rs, rl, h, k⟩ := h
  exact ⟨sl, C, _, rs, rl, h, fun v d H1 C1 st1 rl1 r q => k.nx σ sl H1 C1 st1 rl1 (rs.mono st1.tx) q⟩
/-- a def's end: what is not wanted any more may be let go -/
def dRet (t : DE) : DS := fun D s C => t s C D.rt
theorem js_ret (ha : JE X B a ta) : JS X B (.Return (some a) pos) (dRet ta) := PS.imp (ps_ret ha) fun D σ H h => by
  obtain ⟨sl, C, Dd, rs, rl, h, k⟩ := h
  exact ⟨sl, C, _, rs, rl, h, fun v d H1 C1 st1 rl1 r q => k.rt v d H1 C1 st1 rl1 r q⟩
def dIf (c : DT) (t u : DS) : DS := fun D s C => c s C fun b C1 => if b = true then t D s C1 else u D s C1
theorem js_if {p q : List Stmt} (hc : JT X B c tA) (ha : JSs X B p tS) (hb : JSs X B q uS) : JS X B (.If c p q pos) (dIf tA tS uS) := PS.imp (ps_if hc ha hb) fun D σ H h => by
  obtain ⟨sl, C, Dd, rs, rl, h, k⟩ := h
  refine ⟨sl, C, _, rs, rl, h, fun b H1 C1 st1 rl1 q => ?_⟩
  cases b with
  | true => exact ⟨sl, C1, Dd, rs.mono st1.tx, rl1, q, k.mono st1⟩
  | false => exact ⟨sl, C1, Dd, rs.mono st1.tx, rl1, q, k.mono st1⟩
/-! targets -/
def gNm (i : Nat) : DG := fun d s C Q => Q (s.set i (some d)) C
theorem jg_name {i : Nat} {x : Str} (hN : X.N.Nodup) (hi : X.N[i]? = some x := by rfl) (hx : Loc X.env.scope x := by first | exact .inl rfl | exact .inr rfl) (hf : X.fn x = true ∨ X.env.scope.names.lookup x = some .local := by first | exact .inl rfl | exact .inr rfl | assumption) : JG X B (.Name x pos) (gNm i) := PG.imp (pg_name hN hi hx hf) fun v σ H Q h => by
  obtain ⟨d, sl, C, Qd, r, rs, rl, h, k⟩ := h
  exact k _ _ H C (Stp.refl _ _) rl (rs.setD r i) h
def gNl : DGs := fun ds s C Q => ds = [] ∧ Q s C
def gCn (t : DG) (u : DGs) : DGs := fun ds s C Q => ∃ d r, ds = d :: r ∧ t d s C fun s' C' => u r s' C' Q
theorem jgs_nil : JGs X B [] gNl := PGs.imp pgs_nil fun v σ H Q h => by
  obtain ⟨d, sl, C, Qd, r, rs, rl, ⟨e, h⟩, k⟩ := h
  subst e
  cases r
  exact ⟨rfl, k _ _ H C (Stp.refl _ _) rl rs h⟩
theorem jgs_cons {g : DG} {gs : DGs} (h1 : JG X B a g) (h2 : JGs X B es gs) (hs : (assignEach (a :: es) X.env).map (·.2) = assign a X.env :: (assignEach es X.env).map (·.2) := by rfl) : JGs X B (a :: es) (gCn g gs) := PGs.imp (pgs_cons h1 h2 hs) fun v σ H Q h => by
  obtain ⟨ds, sl, C, Qd, r, rs, rl, ⟨d, dr, e, h⟩, k⟩ := h
  subst e
  obtain ⟨w, vr, rfl, r1, r2⟩ := r
  exact ⟨w, vr, rfl, d, sl, C, _, r1, rs, rl, h, fun σ' sl' H' C' st rl' rs' q => ⟨dr, sl', C', Qd, r2.mono st.tx, rs', rl', q, fun a b c d e => k a b c d (st.trans e)⟩⟩
def gTp (n : Nat) (t : DGs) : DG := fun d s C Q => ∃ ds, d = .tup ds ∧ ds.length = n ∧ t ds s C Q
theorem jg_tup {k : Nat} {t : DGs} {n : Nat} (hc : X.calm = true) (h : JGs X B es t) (hn : (assignEach es X.env).length = n := by rfl) (hst : (assignEach es X.env).findIdx? (·.1) = none := by rfl) : JG X B (.Tuple es k pos) (gTp n t) := PG.imp (pg_tup hc h hn hst) fun v σ H Q h => by
  obtain ⟨d, sl, C, Qd, r, rs, rl, ⟨ds, e, hl, h⟩, k⟩ := h
  subst e
  obtain ⟨a, vs, rfl, hq, hr⟩ := r
  exact ⟨a, vs, rfl, hq, by rw [← hr.length]; exact hl, ds, sl, C, Qd, hr, rs, rl, h, k⟩
def dAsg (te : DE) (g : DG) : DS := fun D s C => te s C fun x C1 => g x s C1 D.nx
theorem js_asg {tg : Expr} {g : DG} (ha : JE X B a ta) (hg : JG X B tg g) (hs : swapsWithSole [tg] a pos.line X.env = pure false := by rfl) (hw : swappedStores [tg] a X.env = pure none := by rfl) (h1 : (assignEach [tg] X.env).map (·.2) = [assign tg X.env] := by rfl) : JS X B (.Assign [tg] a pos) (dAsg ta g) := PS.imp (ps_asg ha hg hs hw h1) fun D σ H h => by
  obtain ⟨sl, C, Dd, rs, rl, h, k⟩ := h
  exact ⟨sl, C, _, rs, rl, h, fun v d H1 C1 st1 rl1 r q => ⟨d, sl, C1, _, r, rs.mono st1.tx, rl1, q, fun σ' sl' H' C' st rl' rs' q' => k.nx σ' sl' H' C' (st1.trans st) rl' rs' q'⟩⟩
theorem js_set {i : Nat} {x : Str} {pos' : Pos} (hN : X.N.Nodup) (ha : JE X B a ta) (hi : X.N[i]? = some x := by rfl) (hx : Loc X.env.scope x := by first | exact .inl rfl | exact .inr rfl) (hs : swapsWith a (some (.Name x pos')) pos.line X.env = pure false := by rfl) (hf : X.fn x = true ∨ X.env.scope.names.lookup x = some .local := by first | exact .inl rfl | exact .inr rfl | assumption) :
    JS X B (.Assign [.Name x pos'] a pos) (dAsg ta (gNm i)) := PS.imp (ps_set hN hi hx ha hs hf) fun D σ H h => by
  obtain ⟨sl, C, Dd, rs, rl, h, k⟩ := h
  exact ⟨sl, C, _, rs, rl, h, fun v d H1 C1 st1 rl1 r q => k.nx _ _ H1 C1 st1 rl1 ((rs.mono st1.tx).setD r i) q⟩
/-- a, b = e1, e2, the names two different locals -/
def dPar (i j : Nat) (ta : DA) : DS := fun D s C => ta s C fun ds C1 => ∃ v w, ds = [v, w] ∧ D.nx ((s.set i (some v)).set j (some w)) C1
end
end KB
/-! KB5: loops, comprehensions, calls over data. -/
namespace KB
open PySem PySem.Spec PyProof.Rows SeqAt
open L2 hiding op_eqD op_neD
/-- what is walked: the items, what must stay of the store for that -/
abbrev DI := Sl → Cp → (List D → (Cp → Prop) → Cp → Prop) → Prop
structure WalkD (K : PySem.W.Frag) (B : Bs) (J : It) (items : List D) (ok : Cp → Prop) : Prop where
  goes : ∀ i H C, i < items.length → Rl K B H C → ok C → J.go i H
  stops : ∀ H C, Rl K B H C → ok C → J.stop items.length H
  yields : ∀ i H C x H', i < items.length → Rl K B H C → ok C → J.yld i H x H' → Stp H C H' C ∧ Rl K B H' C ∧ ∃ d, items[i]? = some d ∧ Rep K H' d x
def lI (K : PySem.W.Frag) (B : Bs) (τ : DI) : TI := fun σ H R => ∃ sl C Qd, RepS K H sl σ ∧ Rl K B H C ∧ τ sl C Qd ∧ ∀ items ok H' C' J, Stp H C H' C' → Rl K B H' C' → WalkD K ⟨H', C', B.P, B.w⟩ J items ok → Qd items ok C' → R J H'
abbrev JI (X : Cx) (B : Bs) (tg e : Expr) (τ : DI) : Prop := PI X tg e (lI X.K B τ)
theorem PI.imp {X : Cx} {tg e : Expr} {t t' : TI} (h : PI X tg e t) (i : ∀ σ H R, t' σ H R → t σ H R) : PI X tg e t' := ⟨fun pins s σ H R I q => h.run pins s σ H R I (i σ H R q)⟩
section
variable {X : Cx} {B : Bs} {pos : Pos} {a b c tg e : Expr} {ta tb tc : DE} {rest es : List Expr} {tr : DA} {K : PySem.W.Frag}
theorem walkD_same {J : It} {items : List D} {ok : Cp → Prop} {G : Hp → Prop} {Y : Hp → List V → Prop} (w : ∀ vs, Walk J vs.length (fun H => Y H vs) (YAt vs)) (hg : ∀ H C, Rl K B H C → ok C → ∃ vs, Y H vs ∧ Reps K H items vs) : WalkD K B J items ok where
  goes := fun i H C hi rl o => by
    obtain ⟨vs, g1, g2⟩ := hg H C rl o
    exact (w vs).goes i H (by rw [← g2.length]; exact hi) g1
  stops := fun H C rl o => by
    obtain ⟨vs, g1, g2⟩ := hg H C rl o
    rw [g2.length]
    exact (w vs).stops H g1
  yields := fun i H C x H' hi rl o y => by
    obtain ⟨vs, g1, g2⟩ := hg H C rl o
    obtain ⟨e, hx⟩ := (w vs).yields i H x H' (by rw [← g2.length]; exact hi) g1 y
    subst e
    obtain ⟨d, e1, e2⟩ := g2.getV hx
    exact ⟨Stp.refl _ _, rl, d, e1, e2⟩
/-- over a list: it must stand as it is -/
def dOver (t : DE) : DI := fun s C R => t s C fun x C1 => match x with
  | .ptr p => ∃ ds, isL C1 p ds ∧ R ds (fun C => isL C p ds) C1
  | _ => False
theorem ji_list (ha : JE X B a ta) : JI X B tg a (dOver ta) := PI.imp (pi_list ha) fun σ H R h => by
  obtain ⟨sl, C, Qd, rs, rl, h, k⟩ := h
  refine ⟨sl, C, _, rs, rl, h, fun v d H1 C1 st1 rl1 r q => ?_⟩
  cases d with
  | ptr p =>
    cases r
    obtain ⟨ds, hl, q⟩ := q
    obtain ⟨vs, hq, hr⟩ := hl.sq rl1
    exact ⟨p, rfl, ⟨vs, hq⟩, k ds _ H1 C1 _ st1 rl1 (walkD_same (G := fun _ => True) (Y := fun H vs => SqL X.K H p vs) (fun vs => walk_list) fun H C rl o => isL.sq rl o) q⟩
  | _ => exact False.elim q
/-- over a tuple -/
def dOverT (t : DE) : DI := fun s C R => t s C fun x C1 => match x with
  | .tup ds => R ds (fun _ => True) C1
  | _ => False
theorem ji_tup (ha : JE X B a ta) : JI X B tg a (dOverT ta) := PI.imp (pi_tup ha) fun σ H R h => by
  obtain ⟨sl, C, Qd, rs, rl, h, k⟩ := h
  refine ⟨sl, C, _, rs, rl, h, fun v d H1 C1 st1 rl1 r q => ?_⟩
  cases d with
  | tup ds =>
    obtain ⟨p, vs, rfl, hq, hr⟩ := r
    exact ⟨p, rfl, ⟨vs, hq⟩, k ds _ H1 C1 _ st1 rl1 (walkD_same (G := fun _ => True) (Y := fun H vs => SqT X.K H p vs) (fun vs => walk_tup) fun H C rl o => ⟨vs, rl.st.tx.sqT hq, hr.mono rl.st.tx⟩) q⟩
  | _ => exact False.elim q
/-- over a text -/
def dOverS (t : DE) : DI := fun s C R => t s C fun x C1 => match x with
  | .str l => R (l.map fun c => .str [c]) (fun _ => True) C1
  | _ => False
theorem ji_str (ha : JE X B a ta) : JI X B tg a (dOverS ta) := PI.imp (pi_str ha) fun σ H R h => by
  obtain ⟨sl, C, Qd, rs, rl, h, k⟩ := h
  refine ⟨sl, C, _, rs, rl, h, fun v d H1 C1 st1 rl1 r q => ?_⟩
  cases d with
  | str l =>
    cases r
    refine ⟨⟨l.toArray⟩, rfl, k _ _ H1 C1 _ st1 rl1 ⟨fun i H C hi rl o => ?_, fun H C rl o => ?_, fun i H C x H' hi rl o y => ?_⟩ q⟩
    · exact walk_str.goes i H (by simpa using hi) trivial
    · have := (walk_str (z := ⟨l.toArray⟩)).stops H trivial
      simpa using this
    · obtain ⟨e, c, hc, hx⟩ := walk_str.yields i H x H' (by simpa using hi) trivial y
      subst e hx
      refine ⟨Stp.refl _ _, rl, .str [c], ?_, rfl⟩
      have hc : l.toArray[i]? = some c := hc
      rw [List.getElem?_map]
      simp at hc
      rw [hc]
      rfl
  | _ => exact False.elim q
/-- over a range -/
def rngD (lo : Int) (n : Nat) : List D := (List.range n).map fun (i : Nat) => D.int (lo + (i : Int))
theorem rngD_len {lo : Int} {n : Nat} : (rngD lo n).length = n := by simp [rngD]
theorem rngD_get {lo : Int} {n i : Nat} (h : i < n) : (rngD lo n)[i]? = some (.int (lo + (i : Int))) := by simp [rngD, h]
theorem walkD_rng {lo : Int} {n : Nat} : WalkD K B (Itr lo n) (rngD lo n) (fun _ => True) where
  goes := fun i H C hi rl o => walk_range.goes i H (by rw [rngD_len] at hi; exact hi) trivial
  stops := fun H C rl o => by rw [rngD_len]; exact walk_range.stops H trivial
  yields := fun i H C x H' hi rl o y => by
    rw [rngD_len] at hi
    obtain ⟨e, hx⟩ := walk_range.yields i H x H' hi trivial y
    subst e hx
    exact ⟨Stp.refl _ _, rl, _, rngD_get hi, rfl⟩
def dRng1 (t : DA) : DI := fun s C R => t s C fun ds C1 => ∃ j : Int, ds = [.int j] ∧ -(2 ^ 62) ≤ j ∧ j < 2 ^ 62 ∧ R (rngD 0 j.toNat) (fun _ => True) C1
theorem ji_range1 {p : Pos} (hm : X.mg "range" = none) (ha : JA X B [a] tr) (hg : Gl X "range" := by rfl) (hs : starEach [a] X.env = [(false, eval a X.env)] := by rfl) : JI X B tg (.Call (.Name "range" p) [a] [] pos) (dRng1 tr) := PI.imp (pi_range1 hg hm ha hs) fun σ H R h => by
  obtain ⟨sl, C, Qd, rs, rl, h, k⟩ := h
  refine ⟨sl, C, _, rs, rl, h, fun vs ds H1 C1 st1 rl1 r ⟨j, e, h1, h2, q⟩ => ?_⟩
  subst e
  obtain ⟨v, r2, rfl, hv, hn⟩ := r
  cases hv; cases hn
  exact ⟨j, rfl, h1, h2, k _ _ H1 C1 _ st1 rl1 walkD_rng q⟩
/-! pairs -/
/-! ### for -/
variable {src : DI} {g : DG} {tS uS : DS} {tA : DT}
/-- Pv by the turn; behind a turn what is not wanted may be let go -/
def dFor (src : DI) (g : DG) (tb : DS) : DS := fun D s C => src s C fun items ok C1 => ∃ Pv : Nat → Sl → Cp → Prop, Pv 0 s C1 ∧ (∀ i s C, i ≤ items.length → Pv i s C → ok C) ∧
  (∀ i x s C, items[i]? = some x → Pv i s C → g x s C fun s2 C2 => tb { D with nx := fun s' C' => ∃ C'', Sub C'' C' ∧ Pv (i + 1) s' C'', ct := fun s' C' => ∃ C'', Sub C'' C' ∧ Pv (i + 1) s' C'', bk := D.nx } s2 C2) ∧ ∀ s C, Pv items.length s C → D.nx s C
theorem js_for {body : List Stmt} (hp : PassesOwn (model X.prog X.w) X.A X.env X.xe) (hc : X.calm = true) (hi : JI X B tg a src) (hg : JG X B tg g) (hb : JSs X B body tS) (hs : ∀ x, foldedSetIterable a X.env x = pure x := by intro _; rfl) : JS X B (.For tg a body [] pos) (dFor src g tS) := PS.imp (ps_for hp hc hi hg hb hs) fun D σ H h => by
  obtain ⟨sl, C, Dd, rs, rl, h, k⟩ := h
  refine ⟨sl, C, _, rs, rl, h, fun items ok H1 C1 J st1 rl1 w ⟨Pv, h0, hok, hstep, hd⟩ => ?_⟩
  refine ⟨fun i m σ H => m = items.length - i ∧ i ≤ items.length ∧ ∃ sl C, RepS X.K H sl σ ∧ Rl X.K B H C ∧ Stp H1 C1 H C ∧ Pv i sl C, ⟨_, rfl, Nat.zero_le _, sl, C1, rs.mono st1.tx, rl1, Stp.refl _ _, h0⟩, ?_⟩
  rintro i m σ2 H2 ⟨rfl, hi2, sl2, C2, rs2, rl2, st2, hp2⟩
  have rb : Rl X.K ⟨H1, C1, B.P, B.w⟩ H2 C2 := ⟨st2, rl2.ok, rl2.ti⟩
  have o := hok i sl2 C2 hi2 hp2
  by_cases hlt : i < items.length
  · refine .inr ⟨w.goes i H2 C2 hlt rb o, fun σ' H' => ∃ sl C, RepS X.K H' sl σ' ∧ Rl X.K B H' C ∧ Stp H1 C1 H' C ∧ Pv (i + 1) sl C, fun σ' H' q => ⟨items.length - (i + 1), by omega, rfl, hlt, q⟩, fun x H' y => ?_⟩
    obtain ⟨s3, r3, d, e, rd⟩ := w.yields i H2 C2 x H' hlt rb o y
    have rl3 : Rl X.K B H' C2 := ⟨rl2.st.trans s3, r3.ok, r3.ti⟩
    refine ⟨d, sl2, C2, _, rd, rs2.mono s3.tx, rl3, hstep i d sl2 C2 e hp2, fun σ' sl' H3 C3 st3 rl4 rs3 q => ?_⟩
    refine ⟨sl', C3, _, rs3, rl4, q, ⟨fun σ sl H' C' st rl rs q => ?_, fun v d H' C' st => k.rt v d H' C' ((((st1.trans st2).trans s3).trans st3).trans st), fun σ sl H' C' st => k.nx σ sl H' C' ((((st1.trans st2).trans s3).trans st3).trans st), fun σ sl H' C' st rl rs q => ?_⟩⟩
    · obtain ⟨C'', hs, q⟩ := q
      exact ⟨sl, C'', rs, rl.less hs, ((((st2.trans s3).trans st3).trans st).less hs), q⟩
    · obtain ⟨C'', hs, q⟩ := q
      exact ⟨sl, C'', rs, rl.less hs, ((((st2.trans s3).trans st3).trans st).less hs), q⟩
  · have e : i = items.length := by omega
    subst e
    exact .inl ⟨w.stops H2 C2 rb o, k.nx _ _ H2 C2 (st1.trans st2) rl2 rs2 (hd _ _ hp2)⟩
/-- while, by a word and a measure -/
def dWhile (c : DT) (tb : DS) : DS := fun D s C => ∃ W : Nat → Sl → Cp → Prop, (∃ m, W m s C) ∧ ∀ m s C, W m s C → c s C fun b C1 => if b = true then tb { D with nx := fun s' C' => ∃ m', m' < m ∧ ∃ C'', Sub C'' C' ∧ W m' s' C'', ct := fun s' C' => ∃ m', m' < m ∧ ∃ C'', Sub C'' C' ∧ W m' s' C'', bk := D.nx } s C1 else D.nx s C1
theorem js_while {body : List Stmt} (hp : PassesOwn (model X.prog X.w) X.A X.env X.xe) (hc : JT X B c tA) (hb : JSs X B body tS) : JS X B (.While c body [] pos) (dWhile tA tS) := PS.imp (ps_while hp hc hb) fun D σ H h => by
  obtain ⟨sl, C, Dd, rs, rl, ⟨W, ⟨m0, w0⟩, turn⟩, k⟩ := h
  refine ⟨fun m σ' H' => ∃ sl' C', RepS X.K H' sl' σ' ∧ Rl X.K B H' C' ∧ Stp H C H' C' ∧ W m sl' C', ⟨m0, sl, C, rs, rl, Stp.refl _ _, w0⟩, ?_⟩
  rintro m σ1 H1 ⟨sl1, C1, rs1, rl1, st1, w1⟩
  refine ⟨sl1, C1, _, rs1, rl1, turn m sl1 C1 w1, fun b H2 C2 st2 rl2 q => ?_⟩
  cases b with
  | true =>
    refine ⟨fun σ' H' => ∃ m', m' < m ∧ ∃ sl' C', RepS X.K H' sl' σ' ∧ Rl X.K B H' C' ∧ Stp H C H' C' ∧ W m' sl' C', fun σ' H' q => q, ?_⟩
    refine ⟨sl1, C2, _, rs1.mono st2.tx, rl2, q, ⟨fun σ sl H' C' st rl rs q => ?_, fun v d H' C' st => k.rt v d H' C' ((st1.trans st2).trans st), fun σ sl H' C' st => k.nx σ sl H' C' ((st1.trans st2).trans st), fun σ sl H' C' st rl rs q => ?_⟩⟩
    · obtain ⟨m', hm, C'', hs, q⟩ := q
      exact ⟨m', hm, sl, C'', rs, rl.less hs, ((st1.trans st2).trans st).less hs, q⟩
    · obtain ⟨m', hm, C'', hs, q⟩ := q
      exact ⟨m', hm, sl, C'', rs, rl.less hs, ((st1.trans st2).trans st).less hs, q⟩
  | false => exact k.nx _ _ H2 C2 (st1.trans st2) rl2 (rs1.mono st2.tx) q
/-! ### comprehensions -/
theorem wipe_at {σ : L2.St} {i : Nat} {x : Option V} : ∀ {vs : List Nat}, i ∈ vs → wipe (σ.set i x) vs = wipe σ vs
  | v :: vs, h => by
    unfold wipe
    by_cases hm : i ∈ vs
    · rw [wipe_at hm]
    · have e : i = v := by
        rcases List.mem_cons.mp h with e | e
        · exact e
        · exact absurd e hm
      subst e
      have : ∀ ws : List Nat, i ∉ ws → wipe (σ.set i x) ws = (wipe σ ws).set i x := by
        intro ws
        induction ws with
        | nil => intro _; rfl
        | cons w ws ih =>
          intro hn
          have h1 : i ≠ w := fun e => hn (by simp [e])
          have h2 : i ∉ ws := fun e => hn (by simp [e])
          show (wipe (σ.set i x) ws).set w none = ((wipe σ ws).set w none).set i x
          rw [ih h2, List.set_comm _ _ h1]
      rw [this vs hm, List.set_set]
theorem wipe_get {σ : L2.St} : ∀ (vs : List Nat) (i : Nat), (wipe σ vs)[i]? = if i ∈ vs ∧ i < σ.length then some none else σ[i]?
  | [], i => by simp [wipe]
  | v :: vs, i => by
    show ((wipe σ vs).set v none)[i]? = _
    rw [List.getElem?_set, wipe_get vs i, wipe_length]
    by_cases e : v = i
    · subst e
      by_cases hl : v < σ.length
      · simp [hl]
      · simp [hl, List.getElem?_eq_none (Nat.le_of_not_lt hl)]
    · have e2 : ¬ i = v := fun z => e z.symm
      simp [e, e2]
theorem wipe_idem (σ : L2.St) (vs : List Nat) : wipe (wipe σ vs) vs = wipe σ vs := by
  apply List.ext_getElem?
  intro i
  rw [wipe_get, wipe_length, wipe_get]
  by_cases h : i ∈ vs ∧ i < σ.length
  · rw [if_pos h, if_pos h]
  · rw [if_neg h]
def lGv (K : PySem.W.Frag) (B : Bs) (vs : List Nat) (τ : DG) : TG := fun v σ H Q => ∃ d sl C Qd, Rep K H d v ∧ RepS K H sl σ ∧ Rl K B H C ∧ τ d sl C Qd ∧ ∀ σ' sl' H' C', Stp H C H' C' → Rl K B H' C' → RepS K H' sl' σ' → wipe σ' vs = wipe σ vs → Qd sl' C' → Q σ' H'
def lGsv (K : PySem.W.Frag) (B : Bs) (vs : List Nat) (τ : DGs) : TGs := fun v σ H Q => ∃ d sl C Qd, Reps K H d v ∧ RepS K H sl σ ∧ Rl K B H C ∧ τ d sl C Qd ∧ ∀ σ' sl' H' C', Stp H C H' C' → Rl K B H' C' → RepS K H' sl' σ' → wipe σ' vs = wipe σ vs → Qd sl' C' → Q σ' H'
def GL (K : PySem.W.Frag) (B : Bs) (vs : List Nat) (g : TG) (τ : DG) : Prop := ∀ v σ H Q, lGv K B vs τ v σ H Q → g v σ H Q
def GLs (K : PySem.W.Frag) (B : Bs) (vs : List Nat) (g : TGs) (τ : DGs) : Prop := ∀ v σ H Q, lGsv K B vs τ v σ H Q → g v σ H Q
theorem gl_name {vs : List Nat} {i : Nat} (h : i ∈ vs := by decide) : GL K B vs (gName i) (gNm i) := fun v σ H Q ⟨d, sl, C, Qd, r, rs, rl, q, k⟩ => k _ _ H C (Stp.refl _ _) rl (rs.setD r i) (wipe_at h) q
theorem gls_nil {vs : List Nat} : GLs K B vs gNil gNl := fun v σ H Q ⟨d, sl, C, Qd, r, rs, rl, ⟨e, q⟩, k⟩ => by
  subst e
  cases r
  exact ⟨rfl, k _ _ H C (Stp.refl _ _) rl rs rfl q⟩
theorem gls_cons {vs : List Nat} {g : TG} {gs : TGs} {τ : DG} {τs : DGs} (h1 : GL K B vs g τ) (h2 : GLs K B vs gs τs) : GLs K B vs (gCons g gs) (gCn τ τs) := fun v σ H Q ⟨d, sl, C, Qd, r, rs, rl, ⟨x, xr, e, q⟩, k⟩ => by
  subst e
  obtain ⟨w, vr, rfl, r1, r2⟩ := r
  exact ⟨w, vr, rfl, h1 _ _ _ _ ⟨x, sl, C, _, r1, rs, rl, q, fun σ' sl' H' C' st rl' rs' hw q => h2 _ _ _ _ ⟨xr, sl', C', Qd, r2.mono st.tx, rs', rl', q, fun a b c d e f g hw2 => k a b c d (st.trans e) f g (hw2.trans hw)⟩⟩⟩
theorem gl_tup {vs : List Nat} {n : Nat} {gs : TGs} {τs : DGs} (h : GLs K B vs gs τs) : GL K B vs (gTup K n gs) (gTp n τs) := fun v σ H Q ⟨d, sl, C, Qd, r, rs, rl, ⟨ds, e, hl, q⟩, k⟩ => by
  subst e
  obtain ⟨a, ws, rfl, hq, hr⟩ := r
  exact ⟨a, ws, rfl, hq, by rw [← hr.length]; exact hl, h _ _ _ _ ⟨ds, sl, C, Qd, hr, rs, rl, q, k⟩⟩
theorem stp_hid {H0 H1 H : Hp} {C0 C1 C : Cp} {p : Addr} {o : HO} (a : Stp H0 C0 H1 C1) (h1 : H1 p = none) (b : Stp H1 C1 H C) (hp : ¬ Frz (H p)) : Stp H0 C0 (upd H p o) C := by
  refine ⟨(a.tx.trans b.tx).trans (tx_upd hp), fun q u e n => ?_⟩
  obtain ⟨e1, n1⟩ := a.hid q u e n
  obtain ⟨e2, n2⟩ := b.hid q u e1 n1
  exact ⟨by rw [upd_ne (ne_of_none e1 h1)]; exact e2, n2⟩
/-- the list so far is hidden; Pv by the turn and it; behind a turn what is not wanted may be let go -/
def dLc (src : DI) (g : DG) (tt : DT) (te : DE) (vs : List Nat) : DE := fun s C Q => src s C fun items ok C1 => ∃ Pv : Nat → List D → Cp → Prop, Pv 0 [] C1 ∧ (∀ i acc C, i ≤ items.length → Pv i acc C → ok C) ∧
  (∀ i x acc C, items[i]? = some x → Pv i acc C → acc.length ≤ i → g x (wipeD s vs) C fun s2 C2 => tt s2 C2 fun b C3 => if b = true then te s2 C3 fun y C4 => ∃ C'', Sub C'' C4 ∧ Pv (i + 1) (acc ++ [y]) C'' else ∃ C'', Sub C'' C3 ∧ Pv (i + 1) acc C'') ∧
  items.length < sizeLine ∧ ∀ acc C p, Pv items.length acc C → C p = none → Q (.ptr p) (up C p (.lst acc))
abbrev JTs (X : Cx) (B : Bs) (ifs : List Expr) (τ : DT) : Prop := PTs X ifs (lT X.K B τ)
def dYes : DT := fun _ C Q => Q true C
theorem jts_nil : JTs X B [] dYes := by
  refine ⟨fun pins s σ H Q I h => pts_nil.run pins s σ H Q I ?_⟩
  obtain ⟨sl, C, Qd, rs, rl, h, k⟩ := h
  exact k _ H C (Stp.refl _ _) rl h
theorem jts_one (h : JT X B c tA) : JTs X B [c] tA := pts_one h
theorem lc_lift {vs : List Nat} {g : TG} {τg : DG} {tt : DT} {te : DE} {σ : L2.St} {H : Hp} {Q : VK} (hg : GL K B vs g τg) (h : lE K B (dLc src τg tt te vs) σ H Q) : tLc (lI K B src) g (lT K B tt) (lE K B te) vs σ H Q := by
  obtain ⟨sl, C, Qd, rs, rl, h, k⟩ := h
  refine ⟨sl, C, _, rs, rl, h, fun items ok H1 C1 J st1 rl1 w ⟨Pv, h0, hok, hstep, hz, hd⟩ D hD => ?_⟩
  have c1 : C1 D = none := rl1.fresh hD
  refine ⟨fun i m H => m = items.length - i ∧ i ≤ items.length ∧ ∃ acc vacc C, H D = some (.lst vacc) ∧ Reps K H acc vacc ∧ Rl K B H C ∧ Stp H1 C1 H C ∧ C D = none ∧ acc.length ≤ i ∧ Pv i acc C,
    ⟨_, rfl, Nat.zero_le _, [], [], C1, upd_same, .nil, rl1.more hD, stp_more hD, c1, Nat.le_refl _, h0⟩, ?_⟩
  rintro i m H2 ⟨rfl, hi2, acc, vacc, C2, eD, ra, rl2, st2, cD, hl, hp2⟩
  have rb : Rl K ⟨H1, C1, B.P, B.w⟩ H2 C2 := ⟨st2, rl2.ok, rl2.ti⟩
  have o := hok i acc C2 hi2 hp2
  by_cases hlt : i < items.length
  · refine .inr ⟨w.goes i H2 C2 hlt rb o, fun H' => ∃ acc vacc C, H' D = some (.lst vacc) ∧ Reps K H' acc vacc ∧ Rl K B H' C ∧ Stp H1 C1 H' C ∧ C D = none ∧ acc.length ≤ i + 1 ∧ Pv (i + 1) acc C, fun H' q => ⟨items.length - (i + 1), by omega, rfl, hlt, q⟩, fun x H' y => ?_⟩
    obtain ⟨s3, r3, d, e, rd⟩ := w.yields i H2 C2 x H' hlt rb o y
    have rl3 : Rl K B H' C2 := ⟨rl2.st.trans s3, r3.ok, r3.ti⟩
    refine hg _ _ _ _ ⟨d, wipeD sl vs, C2, _, rd, (rs.wipe vs).mono ((st1.trans st2).trans s3).tx, rl3, hstep i d acc C2 e hp2 hl, fun σ' sl' H3 C3 st3 rl4 rs3 hw q => ⟨by rw [hw, wipe_idem], ?_⟩⟩
    refine ⟨sl', C3, _, rs3, rl4, q, fun b H4 C4 st4 rl5 q => ?_⟩
    have s24 : Stp H2 C2 H4 C4 := (s3.trans st3).trans st4
    cases b with
    | true =>
      refine ⟨sl', C4, _, rs3.mono st4.tx, rl5, q, fun v dv H5 C5 st5 rl6 rv ⟨C6, hs, q⟩ => ?_⟩
      have s25 : Stp H2 C2 H5 C5 := s24.trans st5
      obtain ⟨e5, n5⟩ := s25.hid D _ eD cD
      have nf : ¬ Frz (H5 D) := by rw [e5]; exact id
      refine ⟨vacc, e5, ?_, acc ++ [dv], vacc ++ [v], C6, upd_same, (Reps.append (ra.mono s25.tx) (.cons rv .nil)).mono (tx_upd nf), ?_, ?_, hs.none n5, by rw [List.length_append]; show acc.length + 1 ≤ i + 1; omega, q⟩
      · rw [← ra.length]
        omega
      · have st' : Stp B.H B.C (upd H5 D (.lst (vacc ++ [v]))) C6 := (stp_hid rl1.st hD (st2.trans s25) nf).less hs
        refine ⟨st', fun p c e => ?_, ti_upd rl6.ti⟩
        have hp : p ≠ D := by
          intro z
          subst z
          rw [hs.none n5] at e
          cases e
        exact (rl6.ok p c (hs p c e)).keep (tx_upd nf) (upd_ne hp)
      · exact (stp_hid (Stp.refl H1 C1) hD (st2.trans s25) nf).less hs
    | false =>
      obtain ⟨C6, hs, q⟩ := q
      obtain ⟨e5, n5⟩ := s24.hid D _ eD cD
      exact ⟨acc, vacc, C6, e5, ra.mono s24.tx, rl5.less hs, (st2.trans s24).less hs, hs.none n5, by omega, q⟩
  · have e : i = items.length := by omega
    subst e
    refine .inl ⟨w.stops H2 C2 rb o, k _ _ H2 (up C2 D (.lst acc)) ?_ ⟨?_, fun p c e => ?_, rl2.ti⟩ (repP D) (hd acc C2 D hp2 cD)⟩
    · refine st1.trans ⟨st2.tx, fun p u e n => ?_⟩
      obtain ⟨a1, a2⟩ := st2.hid p u e n
      exact ⟨a1, by rw [up_ne (ne_of_none e hD)]; exact a2⟩
    · refine rl1.st.trans ⟨st2.tx, fun p u e n => ?_⟩
      obtain ⟨a1, a2⟩ := st2.hid p u e n
      exact ⟨a1, by rw [up_ne (ne_of_none e hD)]; exact a2⟩
    · by_cases hp : p = D
      · subst hp
        rw [up_same] at e
        cases e
        exact ⟨vacc, eD, ra⟩
      · rw [up_ne hp] at e
        exact rl2.ok p c e
theorem j_lc {elt : Expr} {ifs : List Expr} {scope : Scope} (own : List (Str × Nat)) {g : TG} {τg : DG} {tt : DT} {te : DE} (hc : X.calm = true) (hN : X.N.Nodup) (hi : JI X B tg a src) (hgl : GL X.K B (own.map (·.2)) g τg)
    (hg : ∀ (s : Shared) (H : Hp) (C : Addr) (cl : List (Str × Addr)) (fp : List Addr), PG (X.blk s H scope (compEnvC scope cl C X.env) fp) tg g)
    (ht : ∀ (s : Shared) (H : Hp) (C : Addr) (cl : List (Str × Addr)) (fp : List Addr), JTs (X.blk s H scope (compEnvC scope cl C X.env) fp) B ifs tt)
    (he : ∀ (s : Shared) (H : Hp) (C : Addr) (cl : List (Str × Addr)) (fp : List Addr), JE (X.blk s H scope (compEnvC scope cl C X.env) fp) B elt te) (ok : blkC X.N X.env.scope scope own = true := by decide +kernel) (hs : ∀ x, foldedSetIterable a X.env x = pure x := by intro _; rfl) :
    JE X B (.ListComp elt [⟨tg, a, ifs, 0⟩] scope pos) (dLc src τg tt te (own.map (·.2))) := PE.imp (pe_lc hc hN hi (blkOk_by ok) hg ht he hs) fun _ _ _ h => lc_lift hgl h
theorem js_setLc {i : Nat} {y : Str} {py spos : Pos} {elt : Expr} {ifs : List Expr} {scope : Scope} (own : List (Str × Nat)) {g : TG} {τg : DG} {tt : DT} {te : DE} (hc : X.calm = true) (hN : X.N.Nodup) (hi : JI X B tg a src) (hgl : GL X.K B (own.map (·.2)) g τg)
    (hg : ∀ (s : Shared) (H : Hp) (C : Addr) (cl : List (Str × Addr)) (fp : List Addr), PG (X.blk s H scope (compEnvC scope cl C X.env) fp) tg g)
    (ht : ∀ (s : Shared) (H : Hp) (C : Addr) (cl : List (Str × Addr)) (fp : List Addr), JTs (X.blk s H scope (compEnvC scope cl C X.env) fp) B ifs tt)
    (he : ∀ (s : Shared) (H : Hp) (C : Addr) (cl : List (Str × Addr)) (fp : List Addr), JE (X.blk s H scope (compEnvC scope cl C X.env) fp) B elt te)
    (hsw : swapsWith (.ListComp elt [⟨tg, a, ifs, 0⟩] scope pos) (some (.Name y py)) spos.line X.env = pure true)
    (hy : X.N[i]? = some y := by rfl) (hyl : X.env.scope.names.lookup y = some .local := by rfl) (ok : blkC X.N X.env.scope scope own = true := by decide +kernel) (hs : ∀ x, foldedSetIterable a X.env x = pure x := by intro _; rfl) :
    JS X B (.Assign [.Name y py] (.ListComp elt [⟨tg, a, ifs, 0⟩] scope pos) spos) (dAsg (dLc src τg tt te (own.map (·.2))) (gNm i)) := PS.imp (ps_setLc hc hN hy hyl hsw hi (blkOk_by ok) hg ht he hs) fun D σ H h => by
  obtain ⟨sl, C, Dd, rs, rl, h, k⟩ := h
  exact lc_lift (Q := fun x H1 => gName i x σ H1 D.nx) hgl ⟨sl, C, _, rs, rl, h, fun v d H1 C1 st1 rl1 r q => k.nx _ _ H1 C1 st1 rl1 ((rs.mono st1.tx).setD r i) q⟩
end
end KB
/-! KG: defs that are called where no repr is under way. -/
namespace KB
open PySem PySem.Spec PyProof.Rows
open L2
/-- room within calls where nothing is being shown -/
structure RoomG (k : Nat) (A : Around) : Prop extends Room k A where
  gd : A.guards = some []
theorem RoomG.mono {j k : Nat} {A : Around} (r : RoomG k A) (h : j ≤ k) : RoomG j A := ⟨r.toRoom.mono h, r.gd⟩
/-- what a def promises to a caller within whom nothing is being shown -/
structure FnG (P : Program) (w : World) (K : PySem.W.Frag) (mg : Str → Option Value) (base : Heap) (X0 : CXT) (k : Nat) (f : Addr) (fd : FuncData) (ps : List Str) (sp : Sp) : Prop where
  len : ∀ vs H Q E, sp vs H Q E → vs.length = ps.length
  go : ∀ (A : Around) (out : List Env) (s : Shared) (H : Hp) (as : Args) (us : List Value) (vs : List V) (Q : VK) (E : XK), A.guards = some [] → Room k A → Env0 P w K mg base A out s H → BindsTo s fd as (ps.zip us) → Vals vs us → sp vs H Q E →
    codeAny (model P w) A (.call (.ref f) as) (CR X0 out P w H s Q E) s
section
variable {P : Program} {w : World} {K : PySem.W.Frag} {mg : Str → Option Value} {base : Heap} {X0 : CXT} {f : Addr} {fd : FuncData} {ps : List Str} {sp : Sp}
theorem FnG.mono {j k : Nat} (F : FnG P w K mg base X0 j f fd ps sp) (h : j ≤ k) : FnG P w K mg base X0 k f fd ps sp := ⟨F.len, fun A out s H as us vs Q E g r => F.go A out s H as us vs Q E g (r.mono h)⟩
/-- a def's body -/
theorem FnG.of {x q : Str} {st : Stmt} {N : List Str} {k : Nat} (F : Fun K x q st f fd) (S : FnScope N ps (defScope st)) (len : ∀ vs H Q E, sp vs H Q E → vs.length = ps.length)
    (body : ∀ (cdv : Value) (A : Around) (out : List Env) (s : Shared) (H : Hp) (vs : List V) (Q : VK) (E : XK), (A.deeper (envOfC q (defScope st) s.heap.objs.size f cdv)).guards = some [] → Room k (A.deeper (envOfC q (defScope st) s.heap.objs.size f cdv)) → sp vs H Q E →
      ∃ t, PSs (cxOf CX0 P w K mg base N q (defScope st) f cdv A out s H E).nox (defBody st) t ∧ t { nx := fun _ H' => Q .non H', rt := Q } (start N vs) H) : FnG P w K mg base CX0 (k + 1) f fd ps sp := by
  obtain ⟨oc, od, kV, doc, pm, an, cdv, ct, osl, rfl, lk, hcd⟩ := F.ex
  refine ⟨len, fun A out s H as us vs Q E g hr e0 hb r hs => ?_⟩
  have n1 := len _ _ _ _ hs
  have old : ∀ b o, base.get? b = some o → s.heap.get? b = some o := fun b o e => (e0.bs b o e).1
  have kin : K.In s.heap := e0.mod.kin.keeps old
  have nol : s.heap.NoLimit := e0.mod.nolimit.keeps old
  have kinds : ∀ y ∈ ps.zip us, (defScope st).names.lookup y.1 = some .local ∨ ((defScope st).names.lookup y.1 = some .cell ∧ ((cellsFrom (s.heap.objs.size + 1) (defScope st).names []).lookup y.1).isSome = true) := by
    rintro ⟨n, v⟩ hy
    rcases S.par n (List.of_mem_zip hy).1 with z | z
    · exact .inl z
    · exact .inr ⟨z, PySem.W.cellsFrom_some _ _ _ (.inl z)⟩
  refine codeAny_call_function hr.depth (kin _ _ lk) rfl S.co S.gen rfl (PySem.W.codeRec_of kin hcd) (hb _ _ _ _ ?_)
  refine wpAny_newFunctionEnv_cells S.kind kinds fun env he s1 x => ?_
  subst he
  refine ⟨nol.keeps x.toInCall.keep, codeAny_func ?_⟩
  obtain ⟨t, ht, hq⟩ := body cdv A out s H vs Q E g (hr.deeper _) hs
  have I : Inv (cxOf CX0 P w K mg base N q (defScope st) f cdv A out s H E) [] (start N vs) H s1 := inv_start S hr.hd e0 n1 r x
  have fin : ∀ {s' : Shared} {σ' : L2.St} {H' : Hp} {v : V} {u : Value}, Inv (cxOf CX0 P w K mg base N q (defScope st) f cdv A out s H E) [] σ' H' s' → RelV v u → Q v H' → CE out P w H s Q u s' := fun J rv z => ⟨_, _, J.os, J.bare, J.base, J.hok, rv, z⟩
  refine wpAny_mono (ht.nox.run [] s1 (start N vs) H _ I hq) (fun fl s' hf => ?_) fun _ _ z => z
  match fl, hf with
  | .ret u, ⟨v, σ', H', J, rv, z⟩ => exact fin J rv z
  | .next, ⟨σ', H', J, z⟩ => exact fin (v := V.non) (u := Value.none) J rfl z
  | .brk, ⟨_, _, _, z⟩ => exact z.elim
  | .cont, ⟨_, _, _, z⟩ => exact z.elim
end
section
variable {X : Cx} {X0 : CXT} {k : Nat} {f C : Addr} {fd : FuncData} {ps : List Str} {sp : Sp} {dvs : List V} {ds : List Value} {E : XK} {x m : Str} {p pos apos : Pos} {e o : Expr} {es : List Expr} {ta : TE} {t : TA}
theorem FnG.run {pins : List (Addr × Obj)} {σ : L2.St} {H : Hp} {s : Shared} {Q : VK} {us : List Value} {vs : List V} (F : FnG X.prog X.w X.K X.mg X.base X0 k f fd ps sp) (g : X.A.guards = some []) (hr : Room k X.A) (hb : Binds X.K fd ps ds) (hd : Vals dvs ds) (hx : Passes X0 X E)
    (I : Inv X pins σ H s) (r : Vals vs us) (h : sp (vs ++ dvs) H Q E) : wpAny (model X.prog X.w) X.A (call (.ref f) us) (EP X pins σ Q) X.xe s := by
  have rr := r.append hd
  have n1 : (us ++ ds).length = ps.length := rr.length.symm.trans (F.len _ _ _ _ h)
  refine wpAny_call (codeAny_mono (F.go X.A X.stack s H ⟨us, []⟩ (us ++ ds) (vs ++ dvs) Q E g hr I.env0 (hb s us I.kIn n1) rr h) fun res s' hq => ?_)
  match res, hq with
  | .error e, hq => exact hx pins σ H s e s' I hq
  | .ok (.ret u), hq => exact I.after hq
  | .ok .next, hq => exact False.elim hq
  | .ok .brk, hq => exact False.elim hq
  | .ok .cont, hq => exact False.elim hq
theorem callG (F : FnG X.prog X.w X.K X.mg X.base X0 k f fd ps sp) (g : X.A.guards = some []) (hr : Room k X.A) (hg : Gl X x) (hm : X.mg x = some (.ref f)) (hk : PySem.W.keepIn X.K (.ref f) = true) (hb : Binds X.K fd ps ds) (hd : Vals dvs ds) (hx : Passes X0 X E) (ha : PA X (e :: es) t)
    (hdb : (x == ("__debug__" : Str)) = false := by decide) (he : starEach (e :: es) X.env = (false, eval e X.env) :: starEach es X.env := by rfl) (hpl : (backTo pos (starEach es X.env)).any (·.1) = false := by rfl) : PE X (.Call (.Name x p) (e :: es) [] pos) (tCall sp dvs E t) where
  run pins s σ H Q I h := wpAny_Call_Name_kw (ld_glob I hg hm (PySem.W.callWith_K (h₀ := X.base) I.ok.mod.kin hk (thn (ha.run pos pins s σ H _ I h) fun us s1 ⟨vs, H1, I1, r, z⟩ => ⟨I1.kIn, F.run g hr hb hd hx I1 r z⟩) he hpl) hdb)
theorem methG {pl : Sem Bool} (he : PE X o ta) (c : Cls X.K C) (hm : Meth X.K C m f) (F : FnG X.prog X.w X.K X.mg X.base X0 k f fd ps sp) (g : X.A.guards = some []) (hr : Room k X.A) (hb : Binds X.K fd ps ds) (hd : Vals dvs ds) (hx : Passes X0 X E) (ha : PA X (e :: es) t)
    (hst : starEach (e :: es) X.env = (false, eval e X.env) :: starEach es X.env := by rfl) (hpl : (backTo pos (starEach es X.env)).any (·.1) = false := by rfl)
    (ht : eval (.Call (.Attribute o m apos) (e :: es) [] pos) X.env = (do
      let v ← eval o X.env
      standAt apos.atName
      let (f, first) ← holding [v] (getMethod v m pl)
      callWith pos f first (backTo pos (starEach (e :: es) X.env)) (backToKw pos (keywordEach [] X.env))) := by rfl) : PE X (.Call (.Attribute o m apos) (e :: es) [] pos) (tMeth C m sp dvs E ta t) where
  run pins s σ H Q I h := by
    refine PySem.W.methodCall_KW (pl := pl) (thn (he.run pins s σ H _ I h) fun u s1 ⟨x, H1, I1, rx, a, dx, fs, ex, ea, l, z⟩ => ?_) ht
    cases ex
    obtain rfl : u = Value.ref a := rx
    exact getmeth_ok I1 ea c hm l (PySem.W.callWith_K (first := [.ref a]) (h₀ := X.base) I.ok.mod.kin hm.kp (thn (ha.run pos pins s1 σ H1 _ I1 z) fun us s2 ⟨vs, H2, I2, r, z2⟩ => ⟨I2.kIn, F.run (us := .ref a :: us) (vs := .ref a :: vs) g hr hb hd hx I2 (.cons rfl r) z2⟩) hst hpl)
theorem FnG.make {pins : List (Addr × Obj)} {σ : L2.St} {H : Hp} {s : Shared} {Q : VK} {us : List Value} {vs : List V} (M : Mk X.K C f) (F : FnG X.prog X.w X.K X.mg X.base X0 k f fd ps sp) (g : X.A.guards = some []) (hr : Room (k + 1) X.A) (hb : Binds X.K fd ps ds) (hd : Vals dvs ds)
    (hx : Passes X0 X E) (I : Inv X pins σ H s) (r : Vals vs us) (h : ∀ x dx, H x = none → H dx = none → dx ≠ x → sp (.ref x :: (vs ++ dvs)) (upd (upd H dx (.own x)) x (.ins C dx [])) (fun v H2 => v = .non ∧ Q (.ref x) H2) E) :
    wpAny (model X.prog X.w) X.A (call (.ref C) us) (EP X pins σ Q) X.xe s := by
  have z := h (s.heap.objs.size + 1) s.heap.objs.size (I.hok.fresh (Nat.le_succ _)) (I.hok.fresh (Nat.le_refl _)) (Nat.ne_of_lt (Nat.lt_succ_self _))
  have J := Inv.made (C := C) I
  have rr : Vals (V.ref (s.heap.objs.size + 1) :: (vs ++ dvs)) (Value.ref (s.heap.objs.size + 1) :: (us ++ ds)) := .cons rfl (r.append hd)
  have n1 : (Value.ref (s.heap.objs.size + 1) :: us ++ ds).length = ps.length := by rw [← F.len _ _ _ _ z, rr.length]; rfl
  have g2 : (X.A.under (.builtin "type.__call__" ⟨.ref C :: us, []⟩)).guards = some [] := by
    have q : (Code.builtin "type.__call__" ⟨.ref C :: us, []⟩).isGuard = false := by
      show guardIds.contains "type.__call__" = false
      decide +kernel
    have q2 : (Code.builtin "type.__call__" ⟨.ref C :: us, []⟩).guards = [] := by unfold Code.guards; rw [q]; rfl
    show pushGuards (Code.builtin "type.__call__" ⟨.ref C :: us, []⟩).guards X.A.guards = some []
    rw [q2, g]
    rfl
  refine wpAny_call (make_map (f := f) I.kIn M.makes M.init (beq_iff_eq.mp M.fn) (codeAny_mono (F.go _ X.stack _ _ ⟨Value.ref (s.heap.objs.size + 1) :: us, []⟩ (Value.ref (s.heap.objs.size + 1) :: (us ++ ds)) _ _ E g2 (hr.make C us [])
    (J.env0.make C us []) (hb _ (Value.ref (s.heap.objs.size + 1) :: us) J.kIn n1) rr z) fun res s' hq => ?_))
  match res, hq with
  | .error e, hq => exact hx pins σ _ _ e s' J hq
  | .ok (.ret u), hq =>
    obtain ⟨v, H', J2, rv, ev, z3⟩ := J.after hq
    cases ev
    exact ⟨rv, ⟨V.ref (s.heap.objs.size + 1), H', J2, rfl, z3⟩⟩
  | .ok .next, hq => exact False.elim hq
  | .ok .brk, hq => exact False.elim hq
  | .ok .cont, hq => exact False.elim hq
theorem makeG (M : Mk X.K C f) (F : FnG X.prog X.w X.K X.mg X.base X0 k f fd ps sp) (g : X.A.guards = some []) (hr : Room (k + 1) X.A) (hg : Gl X x) (hm : X.mg x = some (.ref C)) (hb : Binds X.K fd ps ds) (hd : Vals dvs ds) (hx : Passes X0 X E) (ha : PA X (e :: es) t)
    (hdb : (x == ("__debug__" : Str)) = false := by decide) (he : starEach (e :: es) X.env = (false, eval e X.env) :: starEach es X.env := by rfl) (hpl : (backTo pos (starEach es X.env)).any (·.1) = false := by rfl) : PE X (.Call (.Name x p) (e :: es) [] pos) (tMake C sp dvs E t) where
  run pins s σ H Q I h := wpAny_Call_Name_kw (ld_glob I hg hm (PySem.W.callWith_K (h₀ := X.base) I.ok.mod.kin M.kp (thn (ha.run pos pins s σ H _ I h) fun us s1 ⟨vs, H1, I1, r, z⟩ => ⟨I1.kIn, F.make M g hr hb hd hx I1 r z⟩) he hpl) hdb)
end
/-! ### the law's call -/
end KB
/-! KB6: defs, calls, built-ins, methods over data. -/
namespace KB
open PySem PySem.Spec PyProof.Rows SeqAt
open L2 hiding op_eqD op_neD
/-! ### defs -/
/-- the store is held, and the tuples are as they should be -/
def Ok2 (P : Program) (w : World) (K : PySem.W.Frag) (H : Hp) (C : Cp) : Prop := (∀ p c, C p = some c → CellOk P w K H p c) ∧ ∀ p o, H p = some o → TFo o
/-- a def that raises nothing: its promise by data -/
def lSp (P : Program) (w : World) (K : PySem.W.Frag) (n : Nat) (F : DSp) : Sp := fun vs H Q _ => vs.length = n ∧ ∃ ds C Qd, Reps K H ds vs ∧ Ok2 P w K H C ∧ F ds C Qd (fun _ _ => False) ∧ ∀ v d H' C', Stp H C H' C' → Ok2 P w K H' C' → Rep K H' d v → Qd d C' → Q v H'
/-- a body as a def: n names, the parameters first; what is not wanted at its end is let go -/
def runD (np n : Nat) (rd : DS) : DSp := fun ds C Q _ => ds.length = np ∧ rd { nx := fun _ C' => ∃ C'', Sub C'' C' ∧ Q .non C'', rt := fun d C' => ∃ C'', Sub C'' C' ∧ Q d C'' } (ds.map some ++ List.replicate (n - ds.length) none) C
theorem reps_start {K : PySem.W.Frag} {H : Hp} : ∀ {ds : List D} {vs : List V}, Reps K H ds vs → RepS K H (ds.map some) (vs.map some)
  | [], _, h => by cases h; exact .nil
  | d :: ds, _, h => by
    obtain ⟨v, r, rfl, a, t⟩ := h
    exact .cons (fun e q => by cases q; exact ⟨v, rfl, a⟩) (reps_start t)
theorem paired_append {α β : Type} {F : α → β → Prop} : ∀ {a c : List α} {b d : List β}, Paired F a b → Paired F c d → Paired F (a ++ c) (b ++ d)
  | _, _, _, _, .nil, h => h
  | _, _, _, _, .cons r t, h => .cons r (paired_append t h)
theorem reps_none {K : PySem.W.Frag} {H : Hp} : ∀ n : Nat, RepS K H (List.replicate n none) (List.replicate n none)
  | 0 => .nil
  | n + 1 => .cons (fun e q => nomatch q) (reps_none n)
section
variable {P : Program} {w : World} {K : PySem.W.Frag} {mg : Str → Option Value} {base : Heap}
theorem fnok_of {x qual : Str} {st : Stmt} {f : Addr} {fd : FuncData} {N ps : List Str} {k n : Nat} {rd : DS} (F : Fun K x qual st f fd) (S : FnScope N ps (defScope st)) (hn : ps.length = n)
    (hbody : ∀ (cdv : Value) (A : Around) (outer : List Env) (s : Shared) (H : Hp) (E : XK) (B : Bs), B.P = P → B.w = w → RoomG k (A.deeper (envOfC qual (defScope st) s.heap.objs.size f cdv)) →
      JSs (cxOf CX0 P w K mg base N qual (defScope st) f cdv A outer s H E).nox B (defBody st) rd) : FnG P w K mg base CX0 (k + 1) f fd ps (lSp P w K n (runD n N.length rd)) := by
  refine FnG.of F S (fun vs H Q E h => h.1.trans hn.symm) (fun cdv A outer s H vs Q E hg hr h => ?_)
  obtain ⟨hl, ds, C, Qd, r, ok, ⟨hl2, h⟩, k⟩ := h
  refine ⟨_, hbody cdv A outer s H E ⟨H, C, P, w⟩ rfl rfl ⟨hr, hg⟩, ds.map some ++ List.replicate (N.length - ds.length) none, C, _, ?_, ⟨Stp.refl _ _, ok.1, ok.2⟩, h, ⟨fun σ sl H' C' st rl rs q => ?_, fun v d H' C' st rl r q => ?_, fun _ _ _ _ _ _ _ q => q.elim, fun _ _ _ _ _ _ _ q => q.elim⟩⟩
  · unfold L2.start
    rw [r.length]
    exact paired_append (reps_start r) (reps_none _)
  · obtain ⟨C'', hs, q⟩ := q
    exact k _ _ H' C'' (st.less hs) ⟨fun p c e => rl.ok p c (hs p c e), rl.ti⟩ repN q
  · obtain ⟨C'', hs, q⟩ := q
    exact k _ _ H' C'' (st.less hs) ⟨fun p c e => rl.ok p c (hs p c e), rl.ti⟩ r q
end
section
variable {X : Cx} {B : Bs} {pos : Pos} {a b c tg e o : Expr} {ta tb tc to ty tv : DE} {rest es : List Expr} {tr : DA} {K : PySem.W.Frag}
/-- f(..), dd the defaults -/
def dCall (F : DSp) (dd : List D) (t : DA) : DE := fun s C Q => t s C fun ds C1 => F (ds ++ dd) C1 Q fun _ _ => False
theorem call_lift {n : Nat} {F : DSp} {dd : List D} {dvs : List V} {σ : L2.St} {H : Hp} {Q : VK} (hd : ∀ H, Reps K H dd dvs) (hl : ∀ ds C Q E, F ds C Q E → ds.length = n) (h : lE K B (dCall F dd tr) σ H Q) : tCall (lSp B.P B.w K n F) dvs E0 (lA K B tr) σ H Q := by
  obtain ⟨sl, C, Qd, rs, rl, h, k⟩ := h
  refine ⟨sl, C, _, rs, rl, h, fun vs ds H1 C1 st1 rl1 r q => ?_⟩
  have r2 := r.append (hd H1)
  exact ⟨by rw [← r2.length]; exact hl _ _ _ _ q, ds ++ dd, C1, Qd, r2, ⟨rl1.ok, rl1.ti⟩, q, fun v d H' C' st ok r q => k v d H' C' (st1.trans st) ⟨rl1.st.trans st, ok.1, ok.2⟩ r q⟩
theorem j_call {k n : Nat} {f : Addr} {fd : FuncData} {ps : List Str} {F : DSp} {ds : List Value} {x : Str} {p : Pos} (dd : List D) {dvs : List V} (G : FnG X.prog X.w X.K X.mg X.base CX0 k f fd ps (lSp B.P B.w X.K n F)) (hr : RoomG k X.A) (hm : X.mg x = some (.ref f)) (hk : PySem.W.keepIn X.K (.ref f) = true) (hb : Binds X.K fd ps ds)
    (hl : ∀ ds C Q E, F ds C Q E → ds.length = n) (hd : Vals dvs ds) (hdd : ∀ H, Reps X.K H dd dvs) (ha : JA X B (e :: es) tr) (hg : Gl X x := by rfl) (hdb : (x == ("__debug__" : Str)) = false := by decide)
    (he : starEach (e :: es) X.env = (false, eval e X.env) :: starEach es X.env := by rfl) (hpl : (backTo pos (starEach es X.env)).any (·.1) = false := by rfl) : JE X B (.Call (.Name x p) (e :: es) [] pos) (dCall F dd tr) :=
  PE.imp (callG G hr.gd hr.toRoom hg hm hk hb hd pass0 ha hdb he hpl) fun _ _ _ h => call_lift hdd hl h
/-! ### built-ins by name -/
def dCB (r : List D → Cp → DQ → Prop) (t : DA) : DE := fun s C Q => t s C fun ds C1 => r ds C1 Q
theorem cb_lift {r : List D → Cp → DQ → Prop} {σ : L2.St} {H : Hp} {Q : VK} (h : lE K B (dCB r tr) σ H Q) : tCB (lC K B r) (lA K B tr) σ H Q := by
  obtain ⟨sl, C, Qd, rs, rl, h, k⟩ := h
  exact ⟨sl, C, _, rs, rl, h, fun vs ds H1 C1 st1 rl1 r q => ⟨ds, C1, Qd, r, rl1, q, fun v d H' C' st => k v d H' C' (st1.trans st)⟩⟩
theorem j_callB {x : Str} {p : Pos} {id : String} {r : List D → Cp → DQ → Prop} (hc : CallD X B (.builtin id) r) (hm : X.mg x = none) (hv : bootBuiltins x = some (.builtin id)) (ha : JA X B (e :: es) tr) (hg : Gl X x := by rfl) (hn : x ≠ "__name__" := by decide) (hdb : (x == ("__debug__" : Str)) = false := by decide)
    (he : starEach (e :: es) X.env = (false, eval e X.env) :: starEach es X.env := by rfl) (hpl : (backTo pos (starEach es X.env)).any (·.1) = false := by rfl) : JE X B (.Call (.Name x p) (e :: es) [] pos) (dCB r tr) := PE.imp (pe_callB hc hg hm hv ha hn hdb he hpl) fun _ _ _ h => cb_lift h
theorem j_callTy {x : Str} {p : Pos} {T : String} {r : List D → Cp → DQ → Prop} (hc : CallD X B (.type T) r) (hm : X.mg x = none) (hv : bootBuiltins x = some (.type T)) (ha : JA X B (e :: es) tr) (hg : Gl X x := by rfl) (hn : x ≠ "__name__" := by decide) (hdb : (x == ("__debug__" : Str)) = false := by decide)
    (he : starEach (e :: es) X.env = (false, eval e X.env) :: starEach es X.env := by rfl) (hpl : (backTo pos (starEach es X.env)).any (·.1) = false := by rfl) : JE X B (.Call (.Name x p) (e :: es) [] pos) (dCB r tr) := PE.imp (pe_callTy hc hg hm hv ha hn hdb he hpl) fun _ _ _ h => cb_lift h
def lenD (C : Cp) : D → Nat → Prop
  | .tup ds, n => n = ds.length
  | .str l, n => l.length ≤ sizeLine ∧ n = l.length
  | .ptr p, n => ∃ ds, isL C p ds ∧ n = ds.length
  | _, _ => False
def lenR : List D → Cp → DQ → Prop := fun ds C Q => ∃ d n, ds = [d] ∧ lenD C d n ∧ Q (.int (n : Int)) C
theorem call_lenD0 : CallD X B (.builtin "len") lenR := by
  intro pins s σ H xs us Q I rx h
  obtain ⟨ds, C, Qd, r, rl, ⟨d, n, e, hl, h⟩, k⟩ := h
  subst e
  obtain ⟨v, r2, rfl, hv, hn⟩ := r
  cases hn
  cases d with
  | tup ds =>
    obtain ⟨p, vs, rfl, hq, hr⟩ := hv
    have hl : n = ds.length := hl
    subst hl
    exact call_len_seq pins s σ H _ us Q I rx ⟨p, vs, rfl, .inr hq, k _ (.int _) H C (Stp.refl _ _) rl (by rw [hr.length]; exact repI _) h⟩
  | str l =>
    cases hv
    obtain ⟨hz, hl⟩ := hl
    subst hl
    exact call_len_str pins s σ H _ us Q I rx ⟨_, rfl, by simpa [Str.length] using hz, k _ (.int _) H C (Stp.refl _ _) rl (by show V.int _ = V.int _; simp [Str.length]) h⟩
  | ptr p =>
    cases hv
    obtain ⟨ds, hl, e⟩ := hl
    subst e
    obtain ⟨vs, hq, hr⟩ := hl.sq rl
    exact call_len_seq pins s σ H _ us Q I rx ⟨p, vs, rfl, .inl hq, k _ (.int _) H C (Stp.refl _ _) rl (by rw [hr.length]; exact repI _) h⟩
  | _ => exact False.elim hl
def absR : List D → Cp → DQ → Prop := fun ds C Q => ∃ i, ds = [.int i] ∧ Q (.int (if i < 0 then -i else i)) C
theorem call_absD : CallD X B (.builtin "abs") absR := by
  intro pins s σ H xs us Q I rx h
  obtain ⟨ds, C, Qd, r, rl, ⟨i, e, h⟩, k⟩ := h
  subst e
  obtain ⟨v, r2, rfl, hv, hn⟩ := r
  cases hn; cases hv
  exact call_abs pins s σ H _ us Q I rx ⟨i, rfl, k _ (.int _) H C (Stp.refl _ _) rl rfl h⟩
def max2R : List D → Cp → DQ → Prop := fun ds C Q => ∃ i j, ds = [.int i, .int j] ∧ Q (.int (if j > i then j else i)) C
def min2R : List D → Cp → DQ → Prop := fun ds C Q => ∃ i j, ds = [.int i, .int j] ∧ Q (.int (if j < i then j else i)) C
theorem call_max2D (hc : X.calm = true) : CallD X B (.builtin "max") max2R := by
  intro pins s σ H xs us Q I rx h
  obtain ⟨ds, C, Qd, r, rl, ⟨i, j, e, h⟩, k⟩ := h
  subst e
  obtain ⟨v, r2, rfl, hv, w, r3, rfl, hw, hn⟩ := r
  cases hn; cases hv; cases hw
  exact call_max2 hc pins s σ H _ us Q I rx ⟨i, j, rfl, k _ (.int _) H C (Stp.refl _ _) rl rfl h⟩
theorem call_min2D (hc : X.calm = true) : CallD X B (.builtin "min") min2R := by
  intro pins s σ H xs us Q I rx h
  obtain ⟨ds, C, Qd, r, rl, ⟨i, j, e, h⟩, k⟩ := h
  subst e
  obtain ⟨v, r2, rfl, hv, w, r3, rfl, hw, hn⟩ := r
  cases hn; cases hv; cases hw
  exact call_min2 hc pins s σ H _ us Q I rx ⟨i, j, rfl, k _ (.int _) H C (Stp.refl _ _) rl rfl h⟩
def intR : List D → Cp → DQ → Prop := fun ds C Q => (∃ i, ds = [.int i] ∧ Q (.int i) C) ∨ ∃ b, ds = [.bl b] ∧ Q (.int (if b = true then 1 else 0)) C
theorem call_intD : CallD X B (.type "int") intR := by
  intro pins s σ H xs us Q I rx h
  obtain ⟨ds, C, Qd, r, rl, h, k⟩ := h
  rcases h with ⟨i, e, h⟩ | ⟨i, e, h⟩
  · subst e
    obtain ⟨v, r2, rfl, hv, hn⟩ := r
    cases hn; cases hv
    exact call_int1 pins s σ H _ us Q I rx (.inl ⟨i, rfl, k _ (.int _) H C (Stp.refl _ _) rl rfl h⟩)
  · subst e
    obtain ⟨v, r2, rfl, hv, hn⟩ := r
    cases hn; cases hv
    exact call_int1 pins s σ H _ us Q I rx (.inr ⟨i, rfl, k _ (.int _) H C (Stp.refl _ _) rl rfl h⟩)
/-- any, all of a list of truths -/
def anyR : List D → Cp → DQ → Prop := fun ds C Q => ∃ (p : Addr) (bs : List Bool), ds = [.ptr p] ∧ isL C p (bs.map D.bl) ∧ Q (.bl (bs.any id)) C
def allR : List D → Cp → DQ → Prop := fun ds C Q => ∃ (p : Addr) (bs : List Bool), ds = [.ptr p] ∧ isL C p (bs.map D.bl) ∧ Q (.bl (bs.all id)) C
theorem call_anyD (hc : X.calm = true) : CallD X B (.builtin "any") anyR := by
  intro pins s σ H xs us Q I rx h
  obtain ⟨ds, C, Qd, r, rl, ⟨p, bs, e, hl, h⟩, k⟩ := h
  subst e
  obtain ⟨v, r2, rfl, hv, hn⟩ := r
  cases hn; cases hv
  obtain ⟨vs, hq, hr⟩ := hl.sq rl
  rw [hr.bools] at hq
  exact cr_any hc pins s σ H _ us Q I rx ⟨p, bs, rfl, hq, k _ (.bl _) H C (Stp.refl _ _) rl rfl h⟩
theorem call_allD (hc : X.calm = true) : CallD X B (.builtin "all") allR := by
  intro pins s σ H xs us Q I rx h
  obtain ⟨ds, C, Qd, r, rl, ⟨p, bs, e, hl, h⟩, k⟩ := h
  subst e
  obtain ⟨v, r2, rfl, hv, hn⟩ := r
  cases hn; cases hv
  obtain ⟨vs, hq, hr⟩ := hl.sq rl
  rw [hr.bools] at hq
  exact cr_all hc pins s σ H _ us Q I rx ⟨p, bs, rfl, hq, k _ (.bl _) H C (Stp.refl _ _) rl rfl h⟩
/-- list(..), tuple(..) of a list or a tuple -/
def itemsD (C : Cp) : D → List D → Prop
  | .tup ds, xs => xs = ds
  | .ptr p, xs => isL C p xs
  | _, _ => False
def listR : List D → Cp → DQ → Prop := fun ds C Q => ∃ d xs, ds = [d] ∧ itemsD C d xs ∧ ∀ p, C p = none → Q (.ptr p) (up C p (.lst xs))
def tupleR : List D → Cp → DQ → Prop := fun ds C Q => ∃ d xs, ds = [d] ∧ itemsD C d xs ∧ Q (.tup xs) C
theorem call_listD : CallD X B (.type "list") listR := by
  intro pins s σ H xs us Q I rx h
  obtain ⟨ds, C, Qd, r, rl, ⟨d, ys, e, hl, h⟩, k⟩ := h
  subst e
  obtain ⟨v, r2, rfl, hv, hn⟩ := r
  cases hn
  cases d with
  | tup ds =>
    obtain ⟨p, vs, rfl, hq, hr⟩ := hv
    have hl : ys = ds := hl
    subst hl
    refine call_list_of pins s σ H _ us Q I rx ⟨p, vs, rfl, .inr hq, fun l hn => ?_⟩
    obtain ⟨a1, a2⟩ := rl.newL hn hr
    exact k _ _ _ _ a1 a2 (repP l) (h l (rl.fresh hn))
  | ptr p =>
    cases hv
    obtain ⟨vs, hq, hr⟩ := isL.sq rl hl
    refine call_list_of pins s σ H _ us Q I rx ⟨p, vs, rfl, .inl hq, fun l hn => ?_⟩
    obtain ⟨a1, a2⟩ := rl.newL hn hr
    exact k _ _ _ _ a1 a2 (repP l) (h l (rl.fresh hn))
  | _ => exact False.elim hl
theorem call_tupleD : CallD X B (.type "tuple") tupleR := by
  intro pins s σ H xs us Q I rx h
  obtain ⟨ds, C, Qd, r, rl, ⟨d, ys, e, hl, h⟩, k⟩ := h
  subst e
  obtain ⟨v, r2, rfl, hv, hn⟩ := r
  cases hn
  cases d with
  | tup ds =>
    obtain ⟨p, vs, rfl, hq, hr⟩ := hv
    have hl : ys = ds := hl
    subst hl
    exact call_tuple_ofF pins s σ H _ us Q I rx ⟨p, vs, rfl, .inr ⟨hq, k _ (.tup ys) H C (Stp.refl _ _) rl ⟨p, vs, rfl, hq, hr⟩ h⟩⟩
  | ptr p =>
    cases hv
    obtain ⟨vs, hq, hr⟩ := isL.sq rl hl
    refine call_tuple_ofF pins s σ H _ us Q I rx ⟨p, vs, rfl, .inl ⟨hq, fun l ob hn hob => ?_⟩⟩
    obtain ⟨a1, a2, a3⟩ := rl.newF hn hob hr
    exact k _ _ _ _ a1 a2 a3 h
  | _ => exact False.elim hl
/-! ### methods of built-in types -/
def tyD (C : Cp) (T : String) : D → Prop
  | .str _ => T = "str"
  | .ptr p => (T = "list" ∧ ∃ ds, isL C p ds) ∨ (T = "dict" ∧ ((∃ kvs, C p = some (.dk kvs)) ∨ ∃ kvs, C p = some (.dt kvs)))
  | _ => False
theorem tyD_ok {H : Hp} {C : Cp} {T : String} {d : D} {x : V} (rl : Rl K B H C) (r : Rep K H d x) (h : tyD C T d) : tyV K T x H := by
  cases d with
  | str l => cases r; exact h
  | ptr p =>
    cases r
    rcases h with ⟨e, ds, hl⟩ | ⟨e, ⟨kvs, hl⟩ | ⟨kvs, hl⟩⟩
    · obtain ⟨vs, hq, _⟩ := hl.sq rl
      exact .inl ⟨e, vs, hq⟩
    · obtain ⟨ws, e1, _⟩ := rl.ok _ _ hl
      exact .inr (.inr (.inl ⟨e, .inl ⟨ws, e1⟩⟩))
    · obtain ⟨ws, e1, _⟩ := rl.ok _ _ hl
      exact .inr (.inr (.inl ⟨e, .inr ⟨ws, e1⟩⟩))
  | _ => exact False.elim h
def dBM (T : String) (r : D → List D → Cp → DQ → Prop) (to : DE) (t : DA) : DE := fun s C Q => to s C fun d C1 => tyD C1 T d ∧ t s C1 fun ds C2 => r d ds C2 Q
def dBM0 (T : String) (r : D → List D → Cp → DQ → Prop) (to : DE) : DE := fun s C Q => to s C fun d C1 => tyD C1 T d ∧ r d [] C1 Q
theorem j_bm {T : String} {name : Str} {id : String} {apos : Pos} {r : D → List D → Cp → DQ → Prop} (pa : PlainAttrs T) (slot : Slot T name id) (hty : typeOf (.builtin id) = pure (.type "method_descriptor")) (hm : MtD X B id r) (ho : JE X B o to) (ha : JA X B (e :: es) tr)
    (hbase : attributeBase o name X.env (eval o X.env) = eval o X.env := by rfl)
    (hfew : ((backTo pos (starEach (e :: es) X.env)).all (fun x => !x.1) && (backToKw pos (keywordEach [] X.env)).all (fun x => x.1.isSome)
      && decide ((e :: es).length + ([] : List Keyword).length + (if ([] : List Keyword).isEmpty then 0 else 1) < 30)) = true := by rfl)
    (hline : (apos.endLine == pos.line) = true := by rfl) (hs : starEach (e :: es) X.env = (false, eval e X.env) :: starEach es X.env := by rfl) (hplain : (backTo pos (starEach es X.env)).any (·.1) = false := by rfl) :
    JE X B (.Call (.Attribute o name apos) (e :: es) [] pos) (dBM T r to tr) := PE.imp (pe_bm pa slot hty hm ho ha hbase hfew hline hs hplain) fun σ H Q h => by
  obtain ⟨sl, C, Qd, rs, rl, h, k⟩ := h
  exact ⟨sl, C, _, rs, rl, h, fun v d H1 C1 st1 rl1 r1 ⟨ty, q⟩ => ⟨tyD_ok rl1 r1 ty, sl, C1, _, rs.mono st1.tx, rl1, q, fun vs ds H2 C2 st2 rl2 r2 q => ⟨d, ds, C2, Qd, r1.mono st2.tx, r2, rl2, q, fun v e H' C' st => k v e H' C' ((st1.trans st2).trans st)⟩⟩⟩
theorem j_bm0 {T : String} {name : Str} {id : String} {apos : Pos} {r : D → List D → Cp → DQ → Prop} (pa : PlainAttrs T) (slot : Slot T name id) (hty : typeOf (.builtin id) = pure (.type "method_descriptor")) (hm : MtD X B id r) (ho : JE X B o to)
    (hbase : attributeBase o name X.env (eval o X.env) = eval o X.env := by rfl) (hline : (apos.endLine == pos.line) = true := by rfl) : JE X B (.Call (.Attribute o name apos) [] [] pos) (dBM0 T r to) := PE.imp (pe_bm0 pa slot hty hm ho hbase hline) fun σ H Q h => by
  obtain ⟨sl, C, Qd, rs, rl, h, k⟩ := h
  exact ⟨sl, C, _, rs, rl, h, fun v d H1 C1 st1 rl1 r1 ⟨ty, q⟩ => ⟨tyD_ok rl1 r1 ty, d, [], C1, Qd, r1, .nil, rl1, q, fun v e H' C' st => k v e H' C' (st1.trans st)⟩⟩
theorem Rl.setL {H : Hp} {C : Cp} (rl : Rl K B H C) {p : Addr} {ds es : List D} {vs ws : List V} (hc : C p = some (.lst ds)) (hp : H p = some (.lst vs)) (r : Reps K H es ws) : Stp H C (upd H p (.lst ws)) (up C p (.lst es)) ∧ Rl K B (upd H p (.lst ws)) (up C p (.lst es)) := by
  have nf : ¬ Frz (H p) := by rw [hp]; exact id
  have hn : C p ≠ none := by rw [hc]; exact fun z => nomatch z
  exact ⟨stp_put nf (.inl hn), rl.put nf (.inl hn) ⟨ws, upd_same, r.mono (tx_upd nf)⟩⟩
def appendR : D → List D → Cp → DQ → Prop := fun d ds C Q => ∃ p xs y, d = .ptr p ∧ ds = [y] ∧ C p = some (.lst xs) ∧ xs.length < sizeLine ∧ Q .non (up C p (.lst (xs ++ [y])))
theorem mt_appendD : MtD X B "list.append" appendR := by
  intro pins s σ H x xs v us Q I rx rs h
  obtain ⟨d, ds, C, Qd, r1, r2, rl, ⟨p, ys, y, e1, e2, hc, hz, h⟩, k⟩ := h
  subst e1 e2
  cases r1
  obtain ⟨w, r3, rfl, hw, hn⟩ := r2
  cases hn
  obtain ⟨vs, hp, hr⟩ := rl.cells hc
  obtain ⟨a1, a2⟩ := rl.setL hc hp (hr.append (.cons hw .nil))
  exact mt_append pins s σ H _ _ v us Q I rx rs ⟨p, vs, w, rfl, rfl, hp, by rw [← hr.length]; exact hz, k _ _ _ _ a1 a2 repN h⟩
end
end KB
/-! KC: sorting tuples some of which may be empty. -/
namespace KB
open PySem PySem.W PySem.Calls PyProof.Rows SeqAt
section
variable {prog : Program} {w : World} {A : Around} {E : Value → Shared → Prop} {s : Shared}
/-- tuple's own __lt__, called as sorting does -/
theorem call_tup_lt {Q : Value → Shared → Prop} {a b : Addr} {xs ys : Array Value} {e r : Nat → Bool} (ha : s.heap.IsTuple a xs) (hb : s.heap.IsTuple b ys)
    (he : ∀ j (h1 : j < xs.size) (h2 : j < ys.size), EqAt A.in1 s xs[j] ys[j] (e j)) (hr : ∀ j (h1 : j < xs.size) (h2 : j < ys.size), e j = false → RcLt A.in1 s xs[j] ys[j] (r j))
    (h : Q (.bool (firstLt e r (decide (xs.size < ys.size)) (List.range (min xs.size ys.size)))) s) : wpAny (model prog w) A (call (.builtin "tuple.__lt__") [.ref a, .ref b]) Q E s := by
  obtain ⟨⟨_, d1, _, s1⟩, o1, c1, n1, e1⟩ := id ha
  obtain ⟨⟨_, d2, _, s2⟩, o2, c2, n2, e2⟩ := id hb
  simp only at c1 e1 c2 e2
  subst c1 e1 c2 e2
  exact call_meets F.slot_tuple_lt ⟨_, o1, rfl⟩ F.entry_tuple_lt (F.args_tuple_lt_2 _ _) (SeqAt.tuple_ltAt a b xs ys n1 n2 d1 d2 s1 s2 e r) ⟨o1, o2, he, hr, h⟩
/-- two tuples, by their own __lt__ -/
theorem one_tup {xs ys : List PyData} {a b : Value} {as bs : List Addr} {Q : Bool → Shared → Prop} (ra : Reads s.heap a (.tuple xs) as) (rb : Reads s.heap b (.tuple ys) bs) (h : alike (.tuple xs) (.tuple ys) = true)
    (hu : A.units + min (PyData.tuple xs).depth (PyData.tuple ys).depth < cLine) (hq : Q (dataLt (.tuple xs) (.tuple ys)) s) : wpAny (model prog w) A (oneLt' true a b) Q E s := by
  have hal : alikeAll xs ys = true := by simpa [alike] using h
  cases ra with
  | @tuple l o vs n _ as₁ h1 h2 h3 h4 =>
    cases rb with
    | @tuple l' o' vs' n' _ bs₁ k1 k2 k3 k4 =>
      have n1 : vs.size = xs.length := by simpa using ReadsAll.length _ _ _ h4
      have n2 : vs'.size = ys.length := by simpa using ReadsAll.length _ _ _ k4
      rw [dataLt_tuple, ← firstLt_toks xs ys hal, ← n1, ← n2] at hq
      rw [oneLt'_eq]
      simp only [if_true]
      refine wpAny_bind (wpAny_cRoomFor (room_here hu) ?_)
      have pe := fun j (j1 : j < vs.size) (j2 : j < vs'.size) => eqAt_alikeAll xs ys A.in1 s vs.toList vs'.toList _ _ h4 k4 hal (room_in hu) j (by simpa using j1) (by simpa using j2)
      have pl := fun j (j1 : j < vs.size) (j2 : j < vs'.size) => rcLt_alikeAll xs ys A.in1 s vs.toList vs'.toList _ _ h4 k4 hal (room_in hu) j (by simpa using j1) (by simpa using j2)
      refine wpAny_bind (wpAny_callSpecialIfBound?_slot (T := "tuple") ⟨_, h1, h2⟩ F.slot_tuple_lt (call_tup_lt (e := pairEq xs ys) (r := fun j => dataLt (xs.getD j .none) (ys.getD j .none)) ⟨_, h1, h2, _, h3⟩ ⟨_, k1, k2, _, k3⟩
        (fun j j1 j2 => by simpa using pe j j1 j2) (fun j j1 j2 hj => by simpa using pl j j1 j2 hj) ?_))
      exact wpAny_truthy_bool hq
end
section
variable {M : Model} {A : Around} {E : Value → Shared → Prop} {s : Shared}
/-- has it an item? -/
def full : PyData → Bool
  | .tuple (_ :: _) => true
  | _ => false
theorem first_tups : ∀ {vs : List Value} {ds : List PyData}, EachIs (fun v d => ∃ as, Reads s.heap v d as) vs ds → (∀ d ∈ ds, ∃ xs, d = .tuple xs) → ∃ os : List (Option Value), os.map Option.isSome = ds.map full ∧ ∀ {Q : List (Option Value) → Shared → Prop}, Q os s → wpAny M A (vs.mapM firstOfTuple') Q E s
  | _, _, .nil, _ => ⟨[], rfl, fun h => by rw [List.mapM_nil]; exact wpAny_pure h⟩
  | v :: vs, _, .cons (b := d) ⟨as, r⟩ t, ht => by
    obtain ⟨os, h1, h2⟩ := first_tups t fun d hd => ht d (List.mem_cons_of_mem _ hd)
    obtain ⟨xs, rfl⟩ := ht d List.mem_cons_self
    cases r with
    | @tuple a o zs n _ _ ho hc hd hr =>
      refine ⟨zs[0]? :: os, ?_, fun {Q} hq => ?_⟩
      · rw [List.map_cons, List.map_cons, h1]
        congr 1
        rw [← Array.getElem?_toList]
        cases q : zs.toList with
        | nil => rw [q] at hr; cases hr; rfl
        | cons f fr => rw [q] at hr; cases hr; rfl
      · rw [List.mapM_cons]
        refine wpAny_bind ?_
        rw [kas_first_eq]
        refine wpAny_bind (Looks.here (show Looks M s.heap (typeOf (.ref a)) o.cls from (Looks.ld ho).andThen .now) ?_)
        rw [hc, if_neg (by first | decide | simp)]
        refine wpAny_bind (listItems_at ho hd (wpAny_pure ?_))
        exact wpAny_bind (h2 (wpAny_pure hq))
theorem kind_mixed {vs : List Value} {ds : List PyData} {Q : SortKind → Shared → Prop} (e : EachIs (fun v d => ∃ as, Reads s.heap v d as) vs ds) (ht : ∀ d ∈ ds, ∃ xs, d = .tuple xs) (h2 : 2 ≤ vs.length) (hm : ds.all full = false)
    (h : Q (if (ds.map full)[0]? = some true then general' else oneType') s) : wpAny M A (keyKind' vs.toArray) Q E s := by
  obtain ⟨os, h1, hf⟩ := first_tups (M := M) (A := A) (E := E) e ht
  rw [keyKind'_eq, List.mapM_toArray, map_eq_pure_bind]
  refine wpAny_bind (wpAny_bind (hf (wpAny_pure ?_)))
  have n1 : (os.toArray.all fun x => x.isSome) = false := by
    rw [List.all_toArray]
    have : os.all Option.isSome = (os.map Option.isSome).all id := by rw [List.all_map]; rfl
    rw [show (os.all fun x => x.isSome) = os.all Option.isSome from rfl, this, h1, List.all_map]
    exact hm
  rw [if_neg (by rw [n1]; exact Bool.false_ne_true)]
  have n2 : (os.toArray[0]?.bind id).isSome = decide ((ds.map full)[0]? = some true) := by
    rw [← h1]
    cases os with
    | nil => rfl
    | cons o os => cases o <;> rfl
  rw [n2]
  by_cases hq : (ds.map full)[0]? = some true
  · rw [if_pos (by simpa using hq)]
    rw [if_pos hq] at h
    exact wpAny_pure h
  · rw [if_neg (by simpa using hq)]
    rw [if_neg hq] at h
    obtain ⟨v₁, rest, rfl⟩ : ∃ v₁ rest, vs = v₁ :: rest := by
      cases vs with
      | nil => simp at h2
      | cons v r => exact ⟨v, r, rfl⟩
    rw [oneTypeOnly'_eq, List.mapM_toArray, map_eq_pure_bind]
    refine wpAny_bind (wpAny_bind (wpAny_bind (kas_mapM (r := Value.type "tuple") _ (fun v hv Q' hq => ?_) (wpAny_pure ?_))))
    · obtain ⟨d, hd, as, r⟩ := e.left v hv
      obtain ⟨xs, rfl⟩ := ht d hd
      exact (looks_reads r).here hq
    · have a1 : ((List.map (fun _ => Value.type "tuple") (v₁ :: rest)).toArray.all fun x => x == Value.type "tuple") = true := by
        simp only [List.all_toArray, List.all_map, List.all_eq_true]
        intro _ _
        exact beq_self_eq_true _
      have a0 : (List.map (fun _ => Value.type "tuple") (v₁ :: rest)).toArray[0]? = some (Value.type "tuple") := by simp
      rw [a0]
      simp only [a1, if_true]
      exact wpAny_pure (wpAny_pure h)
end
/-- all are tuples, or none is a tuple or None -/
def SoE (ds : List PyData) : Prop := (∀ d ∈ ds, ∃ xs, d = .tuple xs) ∨ ∀ d ∈ ds, d ≠ .none ∧ ∀ xs, d ≠ .tuple xs
theorem sortsE {prog : Program} {w : World} {A : Around} {s : Shared} {vs : List Value} {ds : List PyData} (e : EachIs (fun v d => ∃ as, Reads s.heap v d as) vs ds) (hal : AllAlike ds) (hk : SoE ds) (hu : ∀ d, d ∈ ds → A.units + d.depth < cLine) : SortsAt prog w A s (dataKind s.heap ds) vs := by
  rcases hk with ht | hn
  · cases hm : ds.all full with
    | true =>
      refine SortsAt.data e hal (.inl fun d hd => ?_) hu
      obtain ⟨xs, rfl⟩ := ht d hd
      have := List.all_eq_true.mp hm _ hd
      cases xs with
      | nil => cases this
      | cons x r => exact ⟨x, r, rfl⟩
    | false =>
      refine ⟨fun v hv => ?_, if (ds.map full)[0]? = some true then general' else oneType', ?_, fun h2 E Q hq => kind_mixed e ht h2 hm hq⟩
      · obtain ⟨d, hd, as, r⟩ := e.left v hv
        exact ⟨_, dataKind_some hal hd r⟩
      · intro E x y a b Q ha hb hq
        obtain ⟨d, as, hd, ra, rfl⟩ := dataKind_inv ha
        obtain ⟨d', as', hd', rb, rfl⟩ := dataKind_inv hb
        have hdd := hal d hd d' hd'
        have room : A.units + min d.depth d'.depth < cLine := Nat.lt_of_le_of_lt (Nat.add_le_add_left (Nat.min_le_left _ _) _) (hu d hd)
        obtain ⟨xs, rfl⟩ := ht d hd
        obtain ⟨ys, rfl⟩ := ht d' hd'
        by_cases h0 : (ds.map full)[0]? = some true
        · rw [if_pos h0]
          show wpAny _ _ (oneLt' false x y) _ _ _
          exact oneLt_alike (fun z => by cases z) ra rb hdd (fun z => by cases z) room hq
        · rw [if_neg h0, keyLt'_oneType]
          exact one_tup ra rb hdd room hq
  · exact SortsAt.data e hal (.inr hn) hu
/-! ### tuples that can be compared up to where they differ -/
def cmpT : List PyData → List PyData → Bool
  | x :: xs, y :: ys => alike x y && (!PyData.eqv x y || cmpT xs ys)
  | _, _ => true
theorem cmpT_cons {x y : PyData} {xs ys : List PyData} (h : cmpT (x :: xs) (y :: ys) = true) : alike x y = true ∧ (PyData.eqv x y = true → cmpT xs ys = true) := by
  unfold cmpT at h
  rw [Bool.and_eq_true] at h
  refine ⟨h.1, fun e => ?_⟩
  have := h.2
  rw [e] at this
  simpa using this
structure Cmp (ds : List PyData) : Prop where
  full : ∀ d ∈ ds, ∃ x r, d = .tuple (x :: r)
  cmp : ∀ xs ys, .tuple xs ∈ ds → .tuple ys ∈ ds → cmpT xs ys = true
theorem eqv_of_unique {h : Heap} {x : PyData} (a : alike x x = true) (t : (PyData.eqv x x = true → keyToks x = keyToks x) ∧ (PyData.eqv x x = false → ∀ l m, PyProof.Rows.lexLt itemOrd (keyToks x ++ l) (keyToks x ++ m) = PyProof.Rows.lexLt itemOrd (keyToks x) (keyToks x))) : PyData.eqv x x = true := by
  cases e : PyData.eqv x x with
  | true => rfl
  | false =>
    have h1 := t.2 e [] [.inl 0]
    rw [lex_pre, lex_irrefl] at h1
    have h2 : PyProof.Rows.lexLt itemOrd [] [Sum.inl 0] = true := rfl
    rw [h2] at h1
    cases h1
theorem cmp_unique {h : Heap} : ∀ (xs ys : List PyData) (vs : List Value) (as bs : List Addr), cmpT xs ys = true → ReadsAll h vs xs as → ReadsAll h vs ys bs → xs = ys
  | [], _, _, _, _, _, r, r' => by cases r; cases r'; rfl
  | x :: xs, ys, _, _, _, c, r, r' => by
    cases r with
    | cons r1 r2 =>
      cases r' with
      | @cons _ _ y ys _ _ q1 q2 =>
        obtain ⟨c1, c2⟩ := cmpT_cons c
        have e := alike_unique x y _ _ _ c1 r1 q1
        subst e
        rw [cmp_unique xs ys _ _ _ (c2 (eqv_of_unique (h := h) c1 (toks_eqv x x c1))) r2 q2]
theorem keyC {h : Heap} {ds : List PyData} (hc : Cmp ds) {v : Value} {d : PyData} {as : List Addr} (hd : d ∈ ds) (r : Reads h v d as) : (dataKind h ds).keyOf v = some (keyToks d) := by
  have q : ∃ d, d ∈ ds ∧ ∃ as, Reads h v d as := ⟨d, hd, as, r⟩
  have e : (dataKind h ds).keyOf v = some (keyToks q.choose) := by
    show (open Classical in if q : ∃ d, d ∈ ds ∧ ∃ as, Reads h v d as then some (keyToks q.choose) else none) = _
    exact dif_pos q
  obtain ⟨h1, as', h2⟩ := q.choose_spec
  rw [e]
  generalize q.choose = d2 at h1 h2 ⊢
  obtain ⟨x, t, rfl⟩ := hc.full d hd
  obtain ⟨x2, t2, rfl⟩ := hc.full d2 h1
  cases r with
  | tuple a1 a2 a3 a4 =>
    cases h2 with
    | tuple b1 b2 b3 b4 =>
      rw [a1] at b1; cases b1
      rw [a3] at b3; cases b3
      rw [cmp_unique _ _ _ _ _ (hc.cmp _ _ h1 hd) b4 a4]
section
variable {prog : Program} {w : World} {A : Around} {E : Value → Shared → Prop} {s : Shared}
theorem lex_cmp {b fin : Bool} {Q : Bool → Shared → Prop} : ∀ (xs ys : List PyData) (i : Nat) (vs ws : List Value) (as bs : List Addr), ReadsAll s.heap vs xs as → ReadsAll s.heap ws ys bs → cmpT xs ys = true →
    A.units + min (PyData.depthAll xs) (PyData.depthAll ys) < cLine → (b = true → i = 0 → ∀ x r t, xs = x :: r → x ≠ .tuple t) → fin = decide (xs.length < ys.length) → Q (PyProof.Rows.lexLt itemOrd (keyToksAll xs) (keyToksAll ys)) s → KatLex prog w A b fin Q (vs.zip ws) i s
  | [], ys, i, _, _, _, _, ra, rb, h, hu, hb, hf, hq => katLex_alike [] ys i _ _ _ _ ra rb (by cases ys <;> rfl) hu hb hf hq
  | x :: xs, [], i, _, _, _, _, ra, rb, h, hu, hb, hf, hq => katLex_alike (x :: xs) [] i _ _ _ _ ra rb rfl hu hb hf hq
  | x :: xs, y :: ys, i, _, _, _, _, .cons r rs, .cons r' rs', h, hu, hb, hf, hq => by
    obtain ⟨h1, h2⟩ := cmpT_cons h
    have hf' : fin = decide (xs.length < ys.length) := by rw [hf]; simp only [List.length_cons, Nat.add_lt_add_iff_right]
    rw [List.zip_cons_cons]
    refine kat_cons (eqAt_alike x y A s _ _ _ _ r r' h1 (room_head hu) prog w _ _ ?_)
    cases hx : PyData.eqv x y with
    | true =>
      rw [dataLt_all_yes h1 hx] at hq
      exact kat_yes (lex_cmp xs ys (i + 1) _ _ _ _ rs rs' (h2 hx) (room_tail hu) (fun _ hi => absurd hi (Nat.succ_ne_zero i)) hf' hq)
    | false =>
      rw [dataLt_all_no h1 hx] at hq
      refine kat_no (oneLt_alike (fun q t => ?_) r r' h1 (ne_none_of h1 hx) (room_head hu) hq)
      rw [Bool.and_eq_true] at q
      exact hb q.1 (by simpa using q.2) x xs t rfl
theorem sortsC {vs : List Value} {ds : List PyData} (e : EachIs (fun v d => ∃ as, Reads s.heap v d as) vs ds) (hc : Cmp ds) (hu : ∀ d, d ∈ ds → A.units + d.depth < cLine) : SortsAt prog w A s (dataKind s.heap ds) vs := by
  refine ⟨fun v hv => ?_, ?_⟩
  · obtain ⟨d, hd, as, r⟩ := e.left v hv
    exact ⟨_, keyC hc hd r⟩
  · cases ds with
    | nil =>
      cases e
      exact ⟨general', fun E x y a b Q ha _ _ => (by obtain ⟨d, _, hd, _⟩ := dataKind_inv ha; cases hd), fun h2 => absurd h2 (by simp)⟩
    | cons d₀ ds₀ =>
      obtain ⟨x₀, r₀, e₀⟩ := hc.full d₀ List.mem_cons_self
      have first : ∀ x r, PyData.tuple (x :: r) ∈ d₀ :: ds₀ → alike x x₀ = true := fun x r hm => (cmpT_cons (hc.cmp _ _ hm (by rw [← e₀]; exact List.mem_cons_self))).1
      refine ⟨tuples' (dataType x₀ != Value.type "tuple"), ?_, fun h2 E Q hq => ?_⟩
      · intro E x y a b Q ha hb hq
        obtain ⟨d, as, hd, ra, rfl⟩ := dataKind_inv ha
        obtain ⟨d', as', hd', rb, rfl⟩ := dataKind_inv hb
        have room : A.units + min d.depth d'.depth < cLine := Nat.lt_of_le_of_lt (Nat.add_le_add_left (Nat.min_le_left _ _) _) (hu d hd)
        obtain ⟨x1, r1, rfl⟩ := hc.full d hd
        obtain ⟨x2, r2, rfl⟩ := hc.full d' hd'
        have hq' : Q (dataLt (.tuple (x1 :: r1)) (.tuple (x2 :: r2))) s := hq
        rw [dataLt_tuple] at hq'
        cases ra with
        | @tuple l o zs n _ _ h1 h2 h3 h4 =>
          cases rb with
          | @tuple l' o' zs' n' _ _ k1 k2 k3 k4 =>
            have n1 : zs.size = (x1 :: r1).length := by simpa using SeqAt.ReadsAll.length _ _ _ h4
            have n2 : zs'.size = (x2 :: r2).length := by simpa using SeqAt.ReadsAll.length _ _ _ k4
            refine kat_lt h1 h3 k1 k3 (lex_cmp (x1 :: r1) (x2 :: r2) 0 _ _ _ _ h4 k4 (hc.cmp _ _ hd hd') (by have q := SeqAt.room_in room; omega) (fun hb _ x r t ex => ?_) (by rw [n1, n2]) hq')
            obtain ⟨rfl, rfl⟩ := List.cons.inj ex
            have q := dataType_alike (first _ _ hd)
            rw [← q] at hb
            exact dataType_tuple hb t
      · obtain ⟨fs, t1, t2, t3⟩ := each_katTups e hc.full
        refine kat_kind (T := dataType x₀) t1 (by omega) (fun f hf => ?_) (beq_self_eq_true _) hq
        obtain ⟨x, r, as, m1, m2⟩ := t3 f hf
        rw [← dataType_alike (first x r m1)]
        exact looks_reads m2
end
/-- they may be sorted -/
def SrtOk (ds : List PyData) : Prop := (AllAlike ds ∧ SoE ds) ∨ Cmp ds
theorem sortsX {prog : Program} {w : World} {A : Around} {s : Shared} {vs : List Value} {ds : List PyData} (e : EachIs (fun v d => ∃ as, Reads s.heap v d as) vs ds) (o : SrtOk ds) (hu : ∀ d, d ∈ ds → A.units + d.depth < cLine) : SortsAt prog w A s (dataKind s.heap ds) vs :=
  o.elim (fun o => sortsE e o.1 o.2 hu) fun o => sortsC e o hu
theorem valsX {β : Type} {h : Heap} {R : Value → β → Prop} {enc : β → PyData} {vs : List Value} {bs : List β} (rev : Bool) (e : EachIs R vs bs) (er : EachIs (fun v b => ∃ as, Reads h v (enc b) as) vs bs) (o : SrtOk (bs.map enc)) : EachIs R (sortVals (dataKind h (bs.map enc)) rev vs vs) (bs.mergeSort (dataLe rev enc)) :=
  o.elim (fun o => sortVals_data rev e er o.1) fun o => sortVals_each (κ := dataKind h (bs.map enc)) (fun b => keyToks (enc b)) e ((each_mem er).mono fun v b ⟨⟨as, r⟩, m⟩ => keyC o (List.mem_map.mpr ⟨b, m, rfl⟩) r)
end KB
/-! KB7: what is collected of a thing; sorted. -/
namespace KB
open PySem PySem.Spec PyProof.Rows SeqAt
open L2 hiding op_eqD op_neD
mutual
def toP : D → PyData
  | .non => .none
  | .bl b => .bool b
  | .int i => .int i
  | .str l => .str ⟨l.toArray⟩
  | .tup ds => .tuple (toPs ds)
  | .ptr _ => .none
  | .ty _ => .none
  | .fn _ => .none
def toPs : List D → List PyData
  | [] => []
  | d :: ds => toP d :: toPs ds
end
mutual
theorem depth_toP : ∀ d : D, (toP d).depth = dep d
  | .non => by unfold toP PyData.depth dep; rfl
  | .bl _ => by unfold toP PyData.depth dep; rfl
  | .int _ => by unfold toP PyData.depth dep; rfl
  | .str _ => by unfold toP PyData.depth dep; rfl
  | .ptr _ => by unfold toP PyData.depth dep; rfl
  | .ty _ => by unfold toP PyData.depth dep; rfl
  | .fn _ => by unfold toP PyData.depth dep; rfl
  | .tup ds => by
    unfold toP PyData.depth dep
    rw [depths_toP ds]
theorem depths_toP : ∀ ds : List D, PyData.depthAll (toPs ds) = deps ds
  | [] => by unfold toPs PyData.depthAll deps; rfl
  | d :: ds => by
    unfold toPs PyData.depthAll deps
    rw [depth_toP d, depths_toP ds]
end
section
variable {K : PySem.W.Frag} {H : Hp}
mutual
theorem dp_of : ∀ (d : D) (v : V), npt d = true → Rep K H d v → Dp K H v (toP d)
  | .non, _, _, h => by cases h; unfold toP; exact .non
  | .bl _, _, _, h => by cases h; unfold toP; exact .bl _
  | .int _, _, _, h => by cases h; unfold toP; exact .int _
  | .str _, _, _, h => by cases h; unfold toP; exact .str _
  | .ptr _, _, n, _ => by unfold npt at n; cases n
  | .ty _, _, n, _ => by unfold npt at n; cases n
  | .fn _, _, n, _ => by unfold npt at n; cases n
  | .tup ds, _, n, h => by
    obtain ⟨a, vs, rfl, hq, hr⟩ := h
    unfold toP
    exact .tup hq (dps_of ds vs n hr)
theorem dps_of : ∀ (ds : List D) (vs : List V), npts ds = true → Reps K H ds vs → DpAll K H vs (toPs ds)
  | [], _, _, h => by cases h; unfold toPs; exact .nil
  | d :: ds, _, n, h => by
    obtain ⟨v, r, rfl, a, t⟩ := h
    unfold npts at n
    rw [Bool.and_eq_true] at n
    unfold toPs
    exact .cons (dp_of d v n.1 a) (dps_of ds r n.2 t)
end
end
def leP : D → D → Bool := W.dataLe false toP
theorem repK_keys {α β : Type} {f : α → β} {K : PySem.W.Frag} {H : Hp} {kvs : List (α × D)} {ws : List (β × V)} (q : RepK f K H kvs ws) : (kvs.map fun kv => f kv.1) = ws.map (·.1) := by
  unfold RepK at q
  induction q with
  | nil => rfl
  | cons r t ih => rw [List.map_cons, List.map_cons, r.1, ih]
/-- what iterating gives: of a list, a tuple, a dict its keys -/
def collD (C : Cp) : D → List D → Prop
  | .tup ds, xs => xs = ds
  | .str l, xs => l.length ≤ sizeLine ∧ xs = l.map fun c => .str [c]
  | .ptr p, xs => isL C p xs ∨ (∃ kvs, C p = some (.dk kvs) ∧ xs = kvs.map fun kv => keyD kv.1) ∨ ∃ kvs, C p = some (.dg kvs) ∧ xs = kvs.map fun kv => kv.1
  | _, _ => False
theorem paired_at {α β : Type} {F : α → β → Prop} : ∀ {a : List α} {b : List β}, Paired F a b → ∀ {j : Nat} (h1 : j < a.length) (h2 : j < b.length), F a[j] b[j]
  | _, _, .nil, _, h1, _ => by simp at h1
  | _, _, .cons r t, 0, _, _ => r
  | _, _, .cons r t, j + 1, h1, h2 => paired_at t (by simpa using h1) (by simpa using h2)
/-- values stand for data, by a heap that goes on -/
def Stand (X : Cx) (H : Hp) (ds : List D) (its : List Value) : Prop := ∃ vs, Reps X.K H ds vs ∧ Vals vs its
theorem keyD_rep {K : PySem.W.Frag} {H : Hp} (k : DKey) : Rep K H (keyD k) (kV (keyOf k)) := by
  cases k with
  | inl i => rfl
  | inr l => rfl
theorem reps_of_at {K : PySem.W.Frag} {H : Hp} : ∀ {ds : List D} {us : List Value}, us.length = ds.length → (∀ (j : Nat) (u : Value), us[j]? = some u → ∃ d v, ds[j]? = some d ∧ Rep K H d v ∧ RelV v u) → ∃ vs, Reps K H ds vs ∧ Vals vs us
  | [], [], _, _ => ⟨[], rfl, .nil⟩
  | d :: ds, u :: us, hl, h => by
    obtain ⟨d', v, e1, e2, e3⟩ := h 0 u rfl
    have e1 : d = d' := Option.some.inj e1
    subst e1
    obtain ⟨vs, a1, a2⟩ := reps_of_at (ds := ds) (us := us) (by simpa using hl) fun j w e => h (j + 1) w (by simpa using e)
    exact ⟨v :: vs, ⟨v, vs, rfl, e2, a1⟩, .cons e3 a2⟩
  | [], _ :: _, hl, _ => by simp at hl
  | _ :: _, [], hl, _ => by simp at hl
section
variable {X : Cx} {B : Bs} {pins : List (Addr × Obj)} {σ : L2.St} {H : Hp} {s : Shared}
theorem collect_D {A : Around} {E : Value → Shared → Prop} {R : List Value → Shared → Prop} {C : Cp} {d : D} {x : V} {u : Value} {xs : List D} (hB : B.P = X.prog ∧ B.w = X.w) (hA : A.handled = none) (I : Inv X pins σ H s) (rl : Rl X.K B H C) (r : Rep X.K H d x) (rv : RelV x u) (hc : collD C d xs)
    (h : ∀ its h' tk, xs.length ≤ sizeLine → (∀ b o, s.heap.get? b = some o → h'.get? b = some o) → Stand X H xs its → R its { s with heap := h', toks := tk }) : wpAny (model X.prog X.w) A (collect u) R E s := by
  cases d with
  | tup ds =>
    have hc : xs = ds := hc
    subst hc
    obtain ⟨p, vs, rfl, hq, hr⟩ := r
    cases rv
    obtain ⟨its, rv2, ⟨o, ho, hc, n, hd⟩, hz⟩ := I.tuple hq
    exact wpAny_collect_seq p (T := "tuple") (.inr rfl) ho hc hd (fun h' hk => h its h' s.toks (by rw [hr.length]; exact hz) hk ⟨vs, hr, rv2⟩) (by rw [List.size_toArray, ← rv2.length]; exact hz)
  | ptr p =>
    cases r; cases rv
    rcases hc with hl | ⟨kvs, hl, e⟩ | ⟨kvs, hl, e⟩
    · obtain ⟨vs, hq, hr⟩ := isL.sq rl hl
      obtain ⟨its, rv2, pt, hz⟩ := I.list hq
      obtain ⟨o, ho, hc, n, hd⟩ := pt.isList
      exact wpAny_collect_seq p (T := "list") (.inl rfl) ho hc hd (fun h' hk => h its h' s.toks (by rw [hr.length]; exact hz) hk ⟨vs, hr, rv2⟩) (by rw [List.size_toArray, ← rv2.length]; exact hz)
    · subst e
      obtain ⟨ws, e1, q⟩ := rl.ok _ _ hl
      obtain ⟨z, lo, vs, rel, dd⟩ := dk_of I.hok e1
      obtain ⟨ep, hat⟩ := dd.dictAt
      have l1 : kvs.length = vs.length := (Paired.length q).trans (Paired.length rel)
      have z' : kvs.length ≤ sizeLine := by rw [Paired.length q]; exact z
      refine PySem.W.kdu_collect (A := A) (PySem.W.kdl_dict (knd := mixKind X.prog X.w) (kvs := vs) (ep := ep) lo) hA hat (by rw [← l1]; exact z') fun h' tk acc hk hacc => h acc.toList h' tk (by rw [List.length_map]; exact z') hk ?_
      refine reps_of_at (by rw [Array.length_toList, hacc.1, List.length_map, l1]) fun j u e => ?_
      obtain ⟨k, x, e2, e3⟩ := hacc.2 j u (by rw [← Array.getElem?_toList]; exact e)
      have hj : j < kvs.length := by rw [l1]; exact (List.getElem?_eq_some_iff.mp e2).1
      have ek : keyOf kvs[j].1 = k := by
        have hq1 : (kvs.map fun kv => keyOf kv.1) = ws.map (·.1) := repK_keys q
        have hq2 : (kvs.map fun kv => keyOf kv.1) = vs.map (·.1) := hq1.trans rel.keys
        have := congrArg (fun l => l[j]?) hq2
        simp only [List.getElem?_map, List.getElem?_eq_getElem hj, e2, Option.map_some] at this
        exact Option.some.inj this
      refine ⟨keyD kvs[j].1, kV (keyOf kvs[j].1), by simp [hj], keyD_rep _, ?_⟩
      rw [ek]
      rcases keyIs_shape e3 with ⟨i, t, ek, ev⟩ | ⟨z, t, ek, ev⟩
      · subst ek; exact ⟨t, ev⟩
      · subst ek; exact ⟨t, ev⟩
    · subst e
      obtain ⟨xs, e1, q, kg⟩ := rl.ok _ _ hl
      rw [hB.1, hB.2] at e1
      obtain ⟨o, es, ep, h1, h2, h3, h4, h5, h6, lo⟩ : _ := (I.hok p _ e1).1
      have l0 : kvs.length = xs.length := Paired.length q
      have l2 : es.size = xs.length := by rw [← Array.length_toList, h4, List.length_map]
      refine PySem.W.kdu_collect (A := A) (PySem.KdlSrc.rawDict (es := es) (ep := ep) lo) hA ⟨o, h1, h2, h3⟩ (by rw [l2]; exact h6) fun h' tk acc hk hacc => h acc.toList h' tk (by rw [List.length_map, l0]; exact h6) hk ?_
      refine reps_of_at (by rw [Array.length_toList, hacc.1, List.length_map, l2, l0]) fun j u e => ?_
      obtain ⟨hi, e2⟩ := hacc.2 j u (by rw [← Array.getElem?_toList]; exact e)
      have hj : j < kvs.length := by omega
      have hjx : j < xs.length := by omega
      obtain ⟨r1, r2, r3⟩ := paired_at q hj hjx
      have e4 : es[j].key = .ref xs[j].2.1 := by
        have : es.toList[j]? = some (entryOfKey (nestedKind X.prog X.w) xs[j]) := by rw [h4, List.getElem?_map, List.getElem?_eq_getElem hjx]; rfl
        rw [Array.getElem?_toList, Array.getElem?_eq_getElem hi] at this
        rw [Option.some.inj this]
        rfl
      exact ⟨kvs[j].1, .ref xs[j].2.1, by simp [hj], r2, by rw [e2, e4]; rfl⟩
  | str l =>
    cases r
    obtain ⟨t, rfl⟩ := rv
    obtain ⟨hz, e⟩ := hc
    subst e
    refine wpAny_collect_str hA ⟨l.toArray⟩ t (fun s' acc hk hg hd ho hi => ?_) (by simpa using hz)
    obtain ⟨h', g', d', t', o'⟩ := s'
    simp only at hg hd ho hk
    subst hg hd ho
    refine h acc.toList h' t' (by rw [List.length_map]; exact hz) hk (reps_of_at (by rw [Array.length_toList, hi.1]; simp) fun j u e => ?_)
    obtain ⟨c, t2, hc, hu⟩ := hi.2 j u (by rw [← Array.getElem?_toList]; exact e)
    refine ⟨.str [c], .str ⟨#[c]⟩, ?_, rfl, t2, hu⟩
    have hc : l.toArray[j]? = some c := hc
    simp at hc
    simp [hc]
  | _ => exact False.elim hc
end
section
variable {X : Cx} {B : Bs} {pins : List (Addr × Obj)} {σ : L2.St} {H : Hp} {s : Shared}
theorem eachIs_of : ∀ {ds : List D} {vs : List V} {its : List Value} {R : Value → D → Prop}, Reps X.K H ds vs → Vals vs its → (∀ d v u, d ∈ ds → Rep X.K H d v → RelV v u → R u d) → W.EachIs R its ds
  | [], _, _, _, h, r, _ => by
    cases h
    cases r
    exact .nil
  | d :: ds, _, _, _, h, r, k => by
    obtain ⟨v, vr, rfl, a, t⟩ := h
    cases r with
    | cons r1 r2 => exact .cons (k d v _ (by simp) a r1) (eachIs_of t r2 fun d v u m => k d v u (by simp [m]))
theorem stand_of : ∀ {ds : List D} {its : List Value}, W.EachIs (fun u d => ∃ v, Rep X.K H d v ∧ RelV v u) its ds → Stand X H ds its
  | [], _, h => by cases h; exact ⟨[], rfl, .nil⟩
  | d :: ds, _, h => by
    cases h with
    | cons h1 h2 =>
      obtain ⟨v, a, b⟩ := h1
      obtain ⟨vs, c, e⟩ := stand_of h2
      exact ⟨v :: vs, ⟨v, vs, rfl, a, c⟩, .cons b e⟩
/-- the items may be sorted: alike, no places within -/
structure SortOk (xs : List D) : Prop where
  ok : SrtOk (xs.map toP)
  np : ∀ x ∈ xs, npt x = true ∧ dep x ≤ 60
def sortedR : List D → Cp → DQ → Prop := fun ds C Q => ∃ d xs, ds = [d] ∧ collD C d xs ∧ SortOk xs ∧ ∀ p, C p = none → Q (.ptr p) (up C p (.lst (xs.mergeSort leP)))
theorem call_sortedD (hB : B.P = X.prog ∧ B.w = X.w) (hr : X.A.units + 70 < cLine) (hcalm : X.calm = true) : CallD X B (.builtin "sorted") sortedR := by
  intro pins s σ H ys us Q I rx hh
  obtain ⟨ds, C, Qd, r, rl, ⟨d, xs, e, hc, so, hq⟩, k⟩ := hh
  subst e
  obtain ⟨v, r2, rfl, hv, hn⟩ := r
  cases hn
  obtain ⟨u, rfl, ru⟩ := vals1 rx
  refine Calls.call_function_entry PyProof.Rows.kind_sorted PyProof.Rows.plain_sorted PyProof.Rows.entry_sorted (PyProof.Rows.args_sorted1 _) ?_
  unfold Builtin.«sorted»
  refine wpAny_bind (m := checkCount "sorted" 1 1 _) (wpAny_pure ?_)
  refine wpAny_bind (collect_D (A := X.A.in1) hB (I.ok.hd hcalm) I rl hv ru hc fun its h' tk hz hk st => ?_)
  obtain ⟨vs, hr1, hr2⟩ := st
  have hl : its.length ≤ sizeLine := by rw [← hr2.length, ← hr1.length]; exact hz
  refine wpAny_bind (wpAny_newList ?_ hl)
  have hoL : (h'.push (seqObj "list" its.toArray 0)).get? h'.objs.size = some (seqObj "list" its.toArray 0) := Heap.get?_push_size _ rfl
  have I1 : Inv X pins σ H { s with heap := h', toks := tk } := I.kept hk
  have keep : ∀ b o, h'.get? b = some o → (W.sortingHeap (h'.push (seqObj "list" its.toArray 0)) h'.objs.size its).get? b = some o := fun b o e =>
    W.sortingHeap_old (Nat.ne_of_lt (Heap.lt_size e)) (Heap.get?_push_of_some _ e)
  have er : W.EachIs (fun u d => ∃ as, Reads (W.sortingHeap (h'.push (seqObj "list" its.toArray 0)) h'.objs.size its) u (toP d) as) its xs := eachIs_of hr1 hr2 fun d v u m a b => by
    obtain ⟨as, q⟩ := Dp.reads I1 (toP d) v u (dp_of d v (so.np d m).1 a) b
    exact ⟨as, PyProof.Rows.Reads.keeps keep q⟩
  show wpAny _ _ _ _ _ { s with heap := h'.push (seqObj "list" its.toArray 0), toks := tk }
  have S : W.SortsAt X.prog X.w X.A.in1.in1 { s with heap := W.sortingHeap (h'.push (seqObj "list" its.toArray 0)) h'.objs.size its, toks := tk } (W.dataKind (W.sortingHeap (h'.push (seqObj "list" its.toArray 0)) h'.objs.size its) (xs.map toP)) its :=
    sortsX (s := { s with heap := W.sortingHeap (h'.push (seqObj "list" its.toArray 0)) h'.objs.size its, toks := tk }) (W.each_map (R := fun v d => ∃ as, Reads _ v d as) toP er) so.ok fun d hd => by
      obtain ⟨b, hb, rfl⟩ := List.mem_map.mp hd
      rw [depth_toP]
      have := (so.np b hb).2
      show X.A.units + 1 + 1 + _ < cLine
      omega
  refine wpAny_bind (wpAny_holding (wpAny_call_entry PyProof.Rows.slot_list_sort ⟨_, hoL, rfl⟩ PyProof.Rows.entry_list_sort
    (W.list_sort_vals (s := { s with heap := h'.push (seqObj "list" its.toArray 0), toks := tk }) hoL S hl ⟨_, rfl, ?_⟩) (PyProof.Rows.args_list_sort _)))
  have out : W.EachIs (fun u d => ∃ v, Rep X.K H d v ∧ RelV v u) _ (xs.mergeSort leP) := valsX (R := fun u d => ∃ v, Rep X.K H d v ∧ RelV v u) false (eachIs_of hr1 hr2 fun d v u _ a b => ⟨v, a, b⟩) er so.ok
  obtain ⟨ws, g1, g2⟩ := stand_of (X := X) (H := H) out
  obtain ⟨e', he'⟩ := PyProof.Rows.sortedHeap_at (vs := its) (out := (W.sortVals (W.dataKind (W.sortingHeap (h'.push (seqObj "list" its.toArray 0)) h'.objs.size its) (xs.map toP)) false its its).toArray) hoL
  have hlen : ws.length ≤ sizeLine := by
    rw [← g1.length, List.length_mergeSort]
    exact hz
  have hfr : H h'.objs.size = none := I1.hok.fresh (Nat.le_refl _)
  obtain ⟨a1, a2⟩ := rl.newL (p := h'.objs.size) hfr g1
  refine wpAny_pure ⟨_, rfl, .ref h'.objs.size, upd H h'.objs.size (.lst ws), I1.laid (t' := tk) (fun b u e => ?_) (Nat.le_refl _)
    (show ObjOk X.prog X.w _ _ _ (.lst ws) from ⟨hlen, _, e', g2, he'⟩), rfl, k _ _ _ _ a1 a2 (repP _) (hq _ (rl.fresh hfr))⟩
  have hb : b < h'.objs.size := Heap.lt_size e
  rw [PyProof.Rows.sortedHeap_old (Nat.ne_of_lt hb) (by rw [size_push']; exact Nat.lt_succ_of_lt hb)]
  exact Heap.get?_push_of_some _ e
end
end KB
/-! KL: dicts that are walked: read, and written at keys that are there. -/
namespace KB
open PySem PySem.Spec PyProof.Rows
section
variable {K : Type} [DecidableEq K] {prog : Program} {w : World} {knd : PySem.KeyKind prog w K} {A : Around} {E : Value → Shared → Prop} {s : Shared}
theorem wpAny_dictSet_at {d : Addr} {kvs : List (K × Value)} {k : K} {key v : Value} {ep : Nat} {Q : Unit → Shared → Prop} (hkey : knd.is k key = true) (hm : s.heap.DictAt knd d kvs ep) (hin : k ∈ kvs.map (·.1))
    (hQ : ∀ h', h'.DictAt knd d (stored kvs k v) ep → Heap.SameBut d s.heap h' → Q () { s with heap := h', toks := s.toks + 1 })
    (hsz : kvs.length ≤ sizeLine := by size_fits) :
    wpAny (model prog w) A (dictSet d key v) Q E s := by
  obtain ⟨o, es, ho, hc, hd, hk, hp, hn⟩ := hm
  have hes : es.size ≤ sizeLine := by have e1 := hp.length; have e2 : es.toList.length = es.size := by simp
                                      omega
  unfold dictSet
  try with_reducible refine wpAny_holding ?_
  refine wpAny_bind (knd.pyHash hkey ?_)
  unfold dictSetHashed
  try with_reducible refine wpAny_holding ?_
  refine wpAny_bind (wpAny_dictFind_of (s := { s with toks := s.toks + 1 }) hkey ho hd hk ?_)
  have hidx : (es.findIdx? fun e => knd.is k e.key) = kvs.findIdx? fun kv => decide (kv.1 = k) := by
    rw [← hp.findIdx k]; obtain ⟨l⟩ := es; simp
  cases hi : es.findIdx? fun e => knd.is k e.key with
  | some i =>
    refine wpAny_bind (wpAny_rule (wpAny_bind (wpAny_updateDict (s := { s with toks := s.toks + 1 }) ho hd (wpAny_point (hQ _ ⟨_, _, Heap.get?_update_self _ ho (Obj.isFreed_of_dict (Obj.data_mapDict hd _)),
      hc.mapDict _, Obj.data_mapDict hd _, hk.modify _ _, ?_, ?_⟩ (Heap.SameBut.update ..))))))
    · rw [stored, if_pos (any_of_findIdx_some (hidx ▸ hi))]
      have hl : (es.toList.findIdx? fun e => knd.is k e.key) = some i := by rw [← hi]; obtain ⟨l⟩ := es; simp
      have := hp.modify hn hl v
      obtain ⟨l⟩ := es
      simpa using this
    · rw [stored, if_pos (any_of_findIdx_some (hidx ▸ hi)), keys_map_store]; exact hn
  | none => exact absurd hin (not_mem_of_findIdx_none (hidx ▸ hi))
end
end KB
namespace KB
open PySem PySem.Spec PyProof.Rows
open L2 hiding op_eqD op_neD call_listD
section
variable {X : Cx} {B : Bs} {pins : List (Addr × Obj)} {σ : L2.St} {H : Hp} {s : Shared} {C : Cp} {p : Addr}
theorem relabel {o o' : HO} (I : Inv X pins σ H s) (h : H p = some o) (mu : Mut (some o)) (he : ∃ u, s.heap.get? p = some u) (new : ObjOk X.prog X.w (upd H p o') s.heap p o') : Inv X pins σ (upd H p o') s :=
  I.write (x := p) (e := p) (t' := s.toks) (h' := s.heap) (by rw [h]; exact mu) (.inl rfl) (fun _ _ _ e => e) he new
theorem ext_ok {φ : Heap → Prop} {h : Heap} {P : Program} {w : World} (a : φ h) (b : ∃ o, h.get? p = some o) (c : ∀ h1 h2 : Heap, φ h1 → (∀ o, h1.get? p = some o → h2.get? p = some o) → φ h2) : ObjOk P w H h p (.ext φ) := ⟨a, b, c⟩
theorem lk_ok {P : Program} {w : World} {h : Heap} {ws : List (Key × V)} {ep : Nat} (a : ws.length ≤ sizeLine) (b : (p == sysModules) = false) {vs : List (Key × Value)} (c : KV ws vs) (d : h.DictAt (mixKind P w) p vs ep) : ObjOk P w H h p (LkO P w p ws ep) :=
  ext_ok ⟨a, b, vs, c, d⟩ (let ⟨o, _, e, _⟩ := d; ⟨o, e⟩) fun h1 h2 ⟨a, b, vs, c, o, es, e, r⟩ k => ⟨a, b, vs, c, o, es, k o e, r⟩
theorem lk_read {ws : List (Key × V)} {ep : Nat} (I : Inv X pins σ H s) (h : H p = some (LkO X.prog X.w p ws ep)) : ∃ o, Inv X pins σ (upd H p (.frz o (.dK ws))) s ∧ ∀ s', Inv X pins σ (upd H p (.frz o (.dK ws))) s' → Inv X pins σ H s' := by
  obtain ⟨⟨z, hs, vs, kv, o, es, e, r2⟩, _⟩ := I.hok p _ h
  have J1 : Inv X pins σ (upd H p (.dK ws)) s := relabel I h trivial ⟨o, e⟩ ⟨z, hs, vs, kv, o, es, ep, e, r2⟩
  obtain ⟨od, J2⟩ := J1.lock upd_same trivial
  rw [upd_upd] at J2
  have eo : od = o := by
    have := (J2.hok p _ upd_same).1
    rw [e] at this
    exact (Option.some.inj this).symm
  subst eo
  refine ⟨od, J2, fun s' J => ?_⟩
  have e' : s'.heap.get? p = some od := (J.hok p _ upd_same).1
  have J3 := J.unlock upd_same (I.nofrz h trivial)
  rw [upd_upd] at J3
  have J4 := relabel J3 upd_same trivial ⟨od, e'⟩ (lk_ok (P := X.prog) (w := X.w) (ep := ep) z hs kv ⟨od, es, e', r2⟩)
  rw [upd_upd] at J4
  have : upd H p (LkO X.prog X.w p ws ep) = H := by
    funext b
    by_cases z : b = p
    · subst z; rw [upd_same, h]
    · rw [upd_ne z]
  rw [this] at J4
  exact J4
theorem lk_get {ws : List (Key × V)} {o : Obj} (k : Key) : DGet (upd H p (.frz o (.dK ws))) p (kV k) (valV ws k) := .inl ⟨ws, k, .inr ⟨o, upd_same⟩, rfl, rfl⟩
theorem kv_keys {ws : List (Key × V)} {vs : List (Key × Value)} (kv : KV ws vs) : ws.map (·.1) = vs.map (·.1) := by
  unfold KV at kv
  induction kv with
  | nil => rfl
  | cons r t ih => rw [List.map_cons, List.map_cons, ih, r.1]
theorem lk_set {A : Around} {E : Value → Shared → Prop} {Q : Unit → Shared → Prop} {ws : List (Key × V)} {ep : Nat} {k : Key} {v : V} {u z : Value} (I : Inv X pins σ H s) (h : H p = some (LkO X.prog X.w p ws ep)) (hin : k ∈ ws.map (·.1)) (ry : RelV (kV k) u) (rv : RelV v z)
    (q : ∀ s', Inv X pins σ (upd H p (LkO X.prog X.w p (putK ws k v) ep)) s' → Q () s') : wpAny (model X.prog X.w) A (setItem (.ref p) u z) Q E s := by
  obtain ⟨⟨zl, hs, vs, kv, hd⟩, _⟩ := I.hok p _ h
  have hz : vs.length ≤ sizeLine := by rw [← kv.length]; exact zl
  have hm := hd.dictOf
  have hin2 : k ∈ vs.map (·.1) := by rw [← kv_keys kv]; exact hin
  have hl : (putK ws k v).length ≤ sizeLine := by
    have e : (putK ws k v).length = ws.length := by
      unfold putK
      rw [if_pos (by
        obtain ⟨x, hx, e⟩ := List.mem_map.mp hin
        exact List.any_eq_true.mpr ⟨x, hx, by simpa using e⟩), List.length_map]
    omega
  unfold setItem
  try with_reducible refine wpAny_holding ?_
  refine wpAny_bind (wpAny_sequenceKey hm.typeIs (by decide) ?_)
  refine wpAny_bind (wpAny_callSpecial?_slot (name := Str.ofString "__setitem__") hm.typeIs PySem.F.slot_dict_setitem
    (wpAny_call_entry PySem.F.slot_dict_setitem hm.typeIs PySem.F.entry_dict_setitem ?_ (PySem.args_dict_setitem _ _ _)))
  show wpAny _ _ (Builtin.Dict.notOrdered "__setitem__" ⟨[.ref p, u, z], []⟩ >>= _) _ _ s
  refine wpAny_bind (wpAny_notOrdered_dict hm.typeIs ?_)
  show wpAny _ _ (dictSet p u z >>= _) _ _ s
  refine wpAny_bind (wpAny_dictSet_at (hsz := hz) (kV_is ry) hd hin2 fun h' hm' hs' => wpAny_pure ⟨.none, rfl, wpAny_pure (q _ ?_)⟩)
  have he : ∃ q, h'.get? p = some q := let ⟨q, _, hq, _⟩ := hm'; ⟨q, hq⟩
  exact d_write I (by rw [h]; exact True.intro) hs' he (lk_ok hl hs (kv.put k rv) hm')
end
end KB
/-! KB8: dicts over data. -/
namespace KB
open PySem PySem.Spec PyProof.Rows SeqAt
open L2 hiding op_eqD op_neD
section
variable {κ α : Type} [DecidableEq κ]
def lookA (kvs : List (κ × α)) (k : κ) : Option α := (kvs.find? fun kv => decide (kv.1 = k)).map (·.2)
def putA (kvs : List (κ × α)) (k : κ) (v : α) : List (κ × α) := if (kvs.any fun kv => decide (kv.1 = k)) = true then kvs.map (fun kv => if kv.1 = k then (kv.1, v) else kv) else kvs ++ [(k, v)]
theorem lookA_nil {k : κ} : lookA ([] : List (κ × α)) k = none := rfl
theorem lookA_cons {p : κ × α} {r : List (κ × α)} {k : κ} : lookA (p :: r) k = if p.1 = k then some p.2 else lookA r k := by
  unfold lookA
  rw [List.find?_cons]
  by_cases h : p.1 = k
  · simp [h]
  · simp [h]
theorem lookA_any (k : κ) : ∀ kvs : List (κ × α), (kvs.any fun kv => decide (kv.1 = k)) = (lookA kvs k).isSome
  | [] => rfl
  | p :: r => by
    rw [List.any_cons, lookA_any k r, lookA_cons]
    by_cases h : p.1 = k
    · simp [h]
    · simp [h]
theorem lookA_map (k j : κ) (y : α) : ∀ kvs : List (κ × α), lookA (kvs.map fun kv => if kv.1 = k then (kv.1, y) else kv) j = (lookA kvs j).map fun x => if j = k then y else x
  | [] => rfl
  | p :: r => by
    rw [List.map_cons, lookA_cons, lookA_cons, lookA_map k j y r]
    by_cases h : p.1 = k
    · subst h
      by_cases h2 : p.1 = j
      · subst h2
        simp
      · simp [h2]
    · by_cases h2 : p.1 = j
      · subst h2
        simp [h]
      · simp [h, h2]
theorem lookA_snoc (k j : κ) (y : α) : ∀ kvs : List (κ × α), lookA (kvs ++ [(k, y)]) j = match lookA kvs j with | some x => some x | none => if k = j then some y else none
  | [] => by rw [List.nil_append, lookA_cons]; rfl
  | p :: r => by
    rw [List.cons_append, lookA_cons, lookA_cons, lookA_snoc k j y r]
    by_cases h : p.1 = j
    · simp [h]
    · simp [h]
theorem lookA_put (kvs : List (κ × α)) (k j : κ) (y : α) : lookA (putA kvs k y) j = if j = k then some y else lookA kvs j := by
  unfold putA
  rw [lookA_any]
  cases e : lookA kvs k with
  | some x =>
    simp only [Option.isSome_some, if_true]
    rw [lookA_map]
    by_cases h : j = k
    · subst h
      rw [e]
      simp
    · cases lookA kvs j <;> simp [h]
  | none =>
    simp only [Option.isSome_none, Bool.false_eq_true, if_false]
    rw [lookA_snoc]
    by_cases h : j = k
    · subst h
      rw [e]
    · have h2 : ¬ k = j := fun z => h z.symm
      simp only [h, h2, if_false]
      cases lookA kvs j <;> rfl
end
/-! dicts whose keys are tuples -/
def lookG (kvs : List (D × D)) (k : D) : Option D := (kvs.find? fun kv => decide (nk kv.1 = nk k)).map (·.2)
def putG (kvs : List (D × D)) (k v : D) : List (D × D) := if (lookG kvs k).isSome then kvs.map (fun kv => if nk kv.1 = nk k then (kv.1, v) else kv) else kvs ++ [(k, v)]
mutual
theorem nk_inj : ∀ (a b : D), flatG a = true → flatG b = true → nk a = nk b → a = b
  | a, .ptr _, _, h, _ => by unfold flatG at h; cases h
  | a, .ty _, _, h, _ => by unfold flatG at h; cases h
  | a, .fn _, _, h, _ => by unfold flatG at h; cases h
  | a, .bl _, _, h, _ => by unfold flatG at h; cases h
  | .ptr _, b, h, _, _ => by unfold flatG at h; cases h
  | .ty _, b, h, _, _ => by unfold flatG at h; cases h
  | .fn _, b, h, _, _ => by unfold flatG at h; cases h
  | .bl _, b, h, _, _ => by unfold flatG at h; cases h
  | .non, .non, _, _, _ => rfl
  | .int i, .int j, _, _, h => by unfold nk at h; injection h with h; rw [h]
  | .str l, .str m, _, _, h => by
    unfold nk at h
    injection h with h
    rw [sOf_inj h]
  | .tup ds, .tup es, h1, h2, h => by
    unfold nk at h
    injection h with h
    rw [nks_inj ds es h1 h2 h]
  | .non, .int _, _, _, h => by unfold nk at h; cases h
  | .non, .str _, _, _, h => by unfold nk at h; cases h
  | .non, .tup _, _, _, h => by unfold nk at h; cases h
  | .int _, .non, _, _, h => by unfold nk at h; cases h
  | .int _, .str _, _, _, h => by unfold nk at h; cases h
  | .int _, .tup _, _, _, h => by unfold nk at h; cases h
  | .str _, .non, _, _, h => by unfold nk at h; cases h
  | .str _, .int _, _, _, h => by unfold nk at h; cases h
  | .str _, .tup _, _, _, h => by unfold nk at h; cases h
  | .tup _, .non, _, _, h => by unfold nk at h; cases h
  | .tup _, .int _, _, _, h => by unfold nk at h; cases h
  | .tup _, .str _, _, _, h => by unfold nk at h; cases h
theorem nks_inj : ∀ (a b : List D), flatGs a = true → flatGs b = true → nks a = nks b → a = b
  | [], [], _, _, _ => rfl
  | [], _ :: _, _, _, h => by unfold nks at h; cases h
  | _ :: _, [], _, _, h => by unfold nks at h; cases h
  | x :: xs, y :: ys, h1, h2, h => by
    unfold flatGs at h1 h2
    rw [Bool.and_eq_true] at h1 h2
    unfold nks at h
    injection h with h3 h4
    rw [nk_inj x y h1.1 h2.1 h3, nks_inj xs ys h1.2 h2.2 h4]
end
mutual
theorem npt_of_flatG : ∀ d : D, flatG d = true → npt d = true
  | .non, _ => rfl
  | .bl _, _ => rfl
  | .int _, _ => rfl
  | .str _, _ => rfl
  | .ptr _, h => by unfold flatG at h; cases h
  | .ty _, h => by unfold flatG at h; cases h
  | .fn _, h => by unfold flatG at h; cases h
  | .tup ds, h => by
    unfold flatG at h
    unfold npt
    exact npts_of_flatGs ds h
theorem npts_of_flatGs : ∀ ds : List D, flatGs ds = true → npts ds = true
  | [], _ => rfl
  | d :: ds, h => by
    unfold flatGs at h
    rw [Bool.and_eq_true] at h
    unfold npts
    rw [npt_of_flatG d h.1, npts_of_flatGs ds h.2]
    rfl
end
section
variable {X : Cx} {B : Bs} {pins : List (Addr × Obj)} {σ : L2.St} {H : Hp} {s : Shared} {C : Cp}
mutual
theorem nested_of (I : Inv X pins σ H s) : ∀ (d : D) (v : V) (u : Value), npt d = true → Rep X.K H d v → RelV v u → NestedIs s.heap (nk d) u
  | .non, _, _, _, h, r => by cases h; cases r; unfold nk; exact .none
  | .bl b, _, _, _, h, r => by cases h; cases r; unfold nk; exact .bool rfl
  | .int i, _, _, _, h, r => by cases h; obtain ⟨t, rfl⟩ := r; unfold nk; exact .int _ _
  | .str l, _, _, _, h, r => by cases h; obtain ⟨t, rfl⟩ := r; unfold nk; exact .text _ _
  | .ptr _, _, _, n, _, _ => by unfold npt at n; cases n
  | .ty _, _, _, n, _, _ => by unfold npt at n; cases n
  | .fn _, _, _, n, _, _ => by unfold npt at n; cases n
  | .tup ds, _, _, n, h, r => by
    obtain ⟨a, vs, rfl, hq, hr⟩ := h
    cases r
    obtain ⟨its, rv, ⟨o, ho, hc, k, hd⟩, _⟩ := I.tuple hq
    unfold nk
    exact .tup ho hc hd (by rw [List.toList_toArray]; exact nesteds_of I ds vs its n hr rv)
theorem nesteds_of (I : Inv X pins σ H s) : ∀ (ds : List D) (vs : List V) (us : List Value), npts ds = true → Reps X.K H ds vs → Vals vs us → NestedAll s.heap (nks ds) us
  | [], _, _, _, h, r => by cases h; cases r; unfold nks; exact .nil
  | d :: ds, _, _, n, h, r => by
    obtain ⟨v, vr, rfl, a, t⟩ := h
    unfold npts at n
    rw [Bool.and_eq_true] at n
    cases r with
    | cons r1 r2 =>
      unfold nks
      exact .cons (nested_of I d v _ n.1 a r1) (nesteds_of I ds vr _ n.2 t r2)
end
theorem key_is (I : Inv X pins σ H s) {d : D} {a : Addr} (hk : keyG d) (r : Rep X.K H d (.ref a)) : (nestedKind X.prog X.w).is s.heap (nk d) a := ⟨nested_of I d (.ref a) (.ref a) (npt_of_flatG d hk.2.2) r rfl, hk.2.1⟩
theorem dg_of (hB : B.P = X.prog ∧ B.w = X.w) (I : Inv X pins σ H s) (rl : Rl X.K B H C) {p : Addr} {kvs : List (D × D)} (h : C p = some (.dg kvs)) :
    ∃ xs, H p = some (DgObj X.prog X.w p xs) ∧ s.heap.DictOfH (nestedKind X.prog X.w) p xs ∧ RepG X.K H kvs xs ∧ (∀ q ∈ kvs, keyG q.1) ∧ xs.length ≤ sizeLine ∧ (p == sysModules) = false := by
  obtain ⟨xs, e1, q, kg⟩ := rl.ok _ _ h
  rw [hB.1, hB.2] at e1
  obtain ⟨o, es, ep, h1, h2, h3, h4, h5, h6, lo⟩ : _ := (I.hok p _ e1).1
  refine ⟨xs, e1, ⟨o, es, ep, h1, h2, h3, h4, fun x hx => ?_, h5⟩, q, kg, h6, lo⟩
  obtain ⟨j, hj, ej⟩ := List.mem_iff_getElem.mp hx
  have hjk : j < kvs.length := by rw [Paired.length q]; exact hj
  obtain ⟨r1, r2, r3⟩ := paired_at q hjk hj
  rw [ej] at r1 r2
  rw [← r1]
  exact key_is I (kg _ (List.getElem_mem hjk)) r2
theorem repG_look {kvs : List (D × D)} {xs : List (NestedKey × Addr × Value)} (q : RepG X.K H kvs xs) (k : D) : match lookG kvs k with
    | some d => ∃ a u v, atKey xs (nk k) = some (a, u) ∧ Rep X.K H d v ∧ RelV v u
    | none => atKey xs (nk k) = none := by
  unfold RepG at q
  induction q with
  | nil => rfl
  | @cons p x ps xs r t ih =>
    unfold lookG atKey at ih ⊢
    rw [List.find?_cons, List.find?_cons]
    by_cases h : nk p.1 = nk k
    · have h2 : x.1 = nk k := by rw [← r.1]; exact h
      simp only [h, h2, decide_true, Option.map_some]
      obtain ⟨v, a, b⟩ := r.2.2
      exact ⟨_, _, v, rfl, a, b⟩
    · have h2 : ¬ x.1 = nk k := by rw [← r.1]; exact h
      simp only [h, h2, decide_false]
      exact ih
theorem repG_put {kvs : List (D × D)} {xs : List (NestedKey × Addr × Value)} (q : RepG X.K H kvs xs) {k d : D} {a : Addr} {v : V} {u : Value} (hk : Rep X.K H k (.ref a)) (r : Rep X.K H d v) (rv : RelV v u) : RepG X.K H (putG kvs k d) (storedH xs (nk k) a u) := by
  have hl := repG_look q k
  have hmap : RepG X.K H (kvs.map fun kv => if nk kv.1 = nk k then (kv.1, d) else kv) (xs.map (putAt (nk k) u)) := by
    unfold RepG at q ⊢
    clear hl
    induction q with
    | nil => exact .nil
    | @cons p x ps xs r1 t ih =>
      refine .cons ?_ ih
      unfold putAt
      by_cases h : nk p.1 = nk k
      · have h2 : x.1 = nk k := by rw [← r1.1]; exact h
        dsimp only
        rw [if_pos h, if_pos h2]
        exact ⟨r1.1, r1.2.1, v, r, rv⟩
      · have h2 : ¬ x.1 = nk k := by rw [← r1.1]; exact h
        dsimp only
        rw [if_neg h, if_neg h2]
        exact r1
  unfold putG storedH
  cases e : lookG kvs k with
  | some d' =>
    rw [e] at hl
    obtain ⟨a', u', v', e2, _⟩ := hl
    rw [e2]
    exact hmap
  | none =>
    rw [e] at hl
    rw [hl]
    exact paired_append q (.cons ⟨rfl, hk, v, r, rv⟩ .nil)
theorem repK_look {kvs : List (DKey × D)} {ws : List (Key × V)} (q : RepK keyOf X.K H kvs ws) (k : DKey) : match lookA kvs k with
    | some d => ∃ v, valV ws (keyOf k) = some v ∧ Rep X.K H d v
    | none => valV ws (keyOf k) = none := by
  unfold RepK at q
  induction q with
  | nil => rfl
  | @cons p x ps xs r t ih =>
    rw [lookA_cons]
    by_cases h : p.1 = k
    · rw [if_pos h, valV_pos (by rw [← r.1, h])]
      exact ⟨_, rfl, r.2⟩
    · rw [if_neg h, valV_neg (by rw [← r.1]; exact fun z => h (keyOf_inj z))]
      exact ih
theorem repK_put {kvs : List (DKey × D)} {ws : List (Key × V)} (q : RepK keyOf X.K H kvs ws) (k : DKey) {d : D} {v : V} (r : Rep X.K H d v) : RepK keyOf X.K H (putA kvs k d) (putK ws (keyOf k) v) := by
  have hl := repK_look q k
  have hmap : RepK keyOf X.K H (kvs.map fun kv => if kv.1 = k then (kv.1, d) else kv) (ws.map fun kv => if kv.1 = keyOf k then (kv.1, v) else kv) := by
    unfold RepK at q ⊢
    clear hl
    induction q with
    | nil => exact .nil
    | @cons p x ps xs r1 t ih =>
      refine .cons ?_ ih
      by_cases h : p.1 = k
      · have h2 : x.1 = keyOf k := by rw [← r1.1, h]
        dsimp only
        rw [if_pos h, if_pos h2]
        exact ⟨r1.1, r⟩
      · have h2 : ¬ x.1 = keyOf k := by rw [← r1.1]; exact fun z => h (keyOf_inj z)
        dsimp only
        rw [if_neg h, if_neg h2]
        exact r1
  unfold putA putK
  rw [lookA_any, valV_any]
  cases e : lookA kvs k with
  | some d' =>
    rw [e] at hl
    obtain ⟨v', e2, _⟩ := hl
    rw [e2]
    exact hmap
  | none =>
    rw [e] at hl
    rw [hl]
    exact paired_append q (.cons ⟨rfl, r⟩ .nil)
/-- what the dict at p holds at y -/
def gotD (C : Cp) (p : Addr) (y : D) (r : Option D) : Prop := (∃ kvs k, C p = some (.dk kvs) ∧ y = keyD k ∧ r = lookA kvs k) ∨ (∃ kvs, C p = some (.dg kvs) ∧ keyG y ∧ r = lookG kvs y) ∨ ∃ kvs ep k, C p = some (.lk kvs ep) ∧ y = keyD k ∧ r = lookA kvs k
/-- the dict at p behind p[y] = v -/
def putsD (C : Cp) (p : Addr) (y v : D) (C' : Cp) : Prop := (∃ kvs k, C p = some (.dk kvs) ∧ y = keyD k ∧ kvs.length < sizeLine ∧ C' = up C p (.dk (putA kvs k v))) ∨ (∃ kvs, C p = some (.dg kvs) ∧ keyG y ∧ kvs.length < sizeLine ∧ C' = up C p (.dg (putG kvs y v))) ∨ ∃ kvs ep k, C p = some (.lk kvs ep) ∧ y = keyD k ∧ k ∈ kvs.map (·.1) ∧ C' = up C p (.lk (putA kvs k v) ep)
theorem keyD_val {k : DKey} {x : V} (r : Rep X.K H (keyD k) x) : x = kV (keyOf k) := by
  cases k with
  | inl i => exact r
  | inr l => exact r
theorem getItem_D {A : Around} {E : Value → Shared → Prop} {Q : Value → Shared → Prop} (hB : B.P = X.prog ∧ B.w = X.w) (hu : A.units + 20 < cLine) (I : Inv X pins σ H s) (rl : Rl X.K B H C) {p : Addr} {y d : D} {x : V} {u : Value} (g : gotD C p y (some d)) (r : Rep X.K H y x) (rv : RelV x u)
    (h : ∀ w' v s', Inv X pins σ H s' → Rep X.K H d v → RelV v w' → Q w' s') : wpAny (model X.prog X.w) A (getItem (.ref p) u) Q E s := by
  rcases g with ⟨kvs, k, e, ey, er⟩ | ⟨kvs, e, hk, er⟩ | ⟨kvs, ep, k, e, ey, er⟩
  · subst ey
    obtain ⟨ws, e1, q⟩ := rl.ok _ _ e
    have hl := repK_look q k
    rw [← er] at hl
    obtain ⟨v, e2, hv⟩ := hl
    have hx := keyD_val r
    subst hx
    exact d_getItem (by omega) I (by have := DGet.k (k := keyOf k) e1; rw [e2] at this; exact this) rv fun w' s' I' rw' => h w' v s' I' hv rw'
  · obtain ⟨xs, e1, hm, q, kg, hz, lo⟩ := dg_of hB I rl e
    have hl := repG_look q y
    rw [← er] at hl
    obtain ⟨a, u', v, e2, hv, hr⟩ := hl
    obtain ⟨ds, hds⟩ := hk.1
    have hr' := r
    rw [hds] at r
    obtain ⟨b, vs, rfl, _, _⟩ := r
    cases rv
    exact wpAny_getItem_heap (show A.units + 1 + 8 < cLine by omega) (key_is I hk hr') hm e2 (h u' v _ (I.tok _) hv hr)
  · subst ey
    obtain ⟨ws, e1, q⟩ := rl.ok _ _ e
    rw [hB.1, hB.2] at e1
    have hl := repK_look q k
    rw [← er] at hl
    obtain ⟨v, e2, hv⟩ := hl
    have hx := keyD_val r
    subst hx
    obtain ⟨o, J, back⟩ := lk_read I e1
    exact d_getItem (by omega) J (by have := lk_get (H := H) (p := p) (ws := ws) (o := o) (keyOf k); rw [e2] at this; exact this) rv fun w' s' I' rw' => h w' v s' (back s' I') hv rw'
theorem setItem_D {A : Around} {E : Value → Shared → Prop} {Q : Unit → Shared → Prop} {C' : Cp} (hB : B.P = X.prog ∧ B.w = X.w) (hu : A.units + 20 < cLine) (I : Inv X pins σ H s) (rl : Rl X.K B H C) {p : Addr} {y d : D} {x v : V} {u z : Value} (g : putsD C p y d C') (r : Rep X.K H y x) (rv : RelV x u) (r2 : Rep X.K H d v) (rv2 : RelV v z)
    (h : ∀ H' s', Inv X pins σ H' s' → Stp H C H' C' → Rl X.K B H' C' → Q () s') : wpAny (model X.prog X.w) A (setItem (.ref p) u z) Q E s := by
  rcases g with ⟨kvs, k, e, ey, hl, eC⟩ | ⟨kvs, e, hk, hl, eC⟩ | ⟨kvs, ep, k, e, ey, hi, eC⟩
  · subst ey eC
    obtain ⟨ws, e1, q⟩ := rl.ok _ _ e
    have hx := keyD_val r
    subst hx
    have nf : ¬ Frz (H p) := by rw [e1]; exact id
    have hn : C p ≠ none := by rw [e]; exact fun z => nomatch z
    exact d_setItem (by omega) I (DPut.k (k := keyOf k) e1 (by rw [← Paired.length q]; exact hl)) rv rv2 fun s' I' => h _ s' I' (stp_put nf (.inl hn)) (rl.put nf (.inl hn) ⟨_, upd_same, (repK_put q k r2).mono (tx_upd nf)⟩)
  · subst eC
    obtain ⟨xs, e1, hm, q, kg, hz, lo⟩ := dg_of hB I rl e
    have nf : ¬ Frz (H p) := by rw [e1]; exact id
    have hn : C p ≠ none := by rw [e]; exact fun z => nomatch z
    obtain ⟨ds, hds⟩ := hk.1
    have hr' := r
    rw [hds] at r
    obtain ⟨b, vs, rfl, _, _⟩ := r
    cases rv
    have q2 := repG_put q hr' r2 rv2
    have hz2 : (storedH xs (nk y) b z).length ≤ sizeLine := by
      rw [← Paired.length q2]
      unfold putG
      split
      · rw [List.length_map]; omega
      · rw [List.length_append]; show kvs.length + 1 ≤ _; omega
    refine wpAny_setItem_heap (hsz := hz) (show A.units + 1 + 8 < cLine by omega) (key_is I hk hr') hm fun h' hm' hs => h (upd H p (DgObj X.prog X.w p (storedH xs (nk y) b z))) _ ?_ (stp_put nf (.inl hn)) (rl.put nf (.inl hn) ?_)
    · obtain ⟨o, es, ep, h1, h2, h3, h4, h5, h6⟩ := hm'
      refine d_write I (by rw [e1]; exact True.intro) hs ⟨o, h1⟩ ⟨⟨o, es, ep, h1, h2, h3, h4, h6, hz2, lo⟩, ⟨o, h1⟩, fun ha hb ⟨o, es, ep, a1, a2⟩ k => ⟨o, es, ep, k o a1, a2⟩⟩
    · rw [hB.1, hB.2]
      refine ⟨_, upd_same, q2.mono (tx_upd nf), fun x hx => ?_⟩
      unfold putG at hx
      split at hx
      · obtain ⟨x0, hx0, rfl⟩ := List.mem_map.mp hx
        have : (if nk x0.1 = nk y then (x0.1, d) else x0).1 = x0.1 := by split <;> rfl
        rw [this]
        exact kg _ hx0
      · rcases List.mem_append.mp hx with hx | hx
        · exact kg _ hx
        · have : x = (y, d) := by simpa using hx
          rw [this]
          exact hk
  · subst ey eC
    obtain ⟨ws, e1, q⟩ := rl.ok _ _ e
    rw [hB.1, hB.2] at e1
    have hx := keyD_val r
    subst hx
    have nf : ¬ Frz (H p) := by rw [e1]; exact id
    have hn : C p ≠ none := by rw [e]; exact fun z => nomatch z
    have hin : keyOf k ∈ ws.map (·.1) := by
      rw [← repK_keys q]
      obtain ⟨x, hx, ex⟩ := List.mem_map.mp hi
      exact List.mem_map.mpr ⟨x, hx, by rw [ex]⟩
    refine lk_set I e1 hin rv rv2 fun s' I' => h _ s' I' (stp_put nf (.inl hn)) (rl.put nf (.inl hn) ⟨_, ?_, (repK_put q k r2).mono (tx_upd nf)⟩)
    rw [hB.1, hB.2]; exact upd_same
end
end KB
/-! KB9: in, dict expressions, stores, texts, isinstance. -/
namespace KB
open PySem PySem.Spec PyProof.Rows SeqAt
open L2 hiding op_eqD op_neD
def memD (ds : List D) (x : D) : Bool := ds.any fun d => eqD d x
section
variable {X : Cx} {pins : List (Addr × Obj)} {σ : L2.St} {H : Hp} {s : Shared}
open Classical in
noncomputable def eqBy (K : PySem.W.Frag) (H : Hp) (x : D) (y : Value) : Bool := if h : ∃ d, npt d = true ∧ ∃ v, Rep K H d v ∧ RelV v y then eqD h.choose x else false
theorem eqBy_is (I : Inv X pins σ H s) {d x : D} {v : V} {y : Value} (n : npt d = true) (r : Rep X.K H d v) (rv : RelV v y) : eqBy X.K H x y = eqD d x := by
  have h : ∃ d, npt d = true ∧ ∃ v, Rep X.K H d v ∧ RelV v y := ⟨d, n, v, r, rv⟩
  unfold eqBy
  rw [dif_pos h]
  obtain ⟨n2, v2, r2, rv2⟩ := h.choose_spec
  have : v2 = v := RelV.inj rv2 rv
  subst this
  rw [rep_inj I _ _ _ n2 n r2 r]
theorem any_eqBy (I : Inv X pins σ H s) {x : D} : ∀ {ds : List D} {vs : List V} {us : List Value}, npts ds = true → Reps X.K H ds vs → Vals vs us → us.any (eqBy X.K H x) = memD ds x
  | [], _, _, _, h, r => by cases h; cases r; rfl
  | d :: ds, _, _, n, h, r => by
    obtain ⟨v, vr, rfl, a, t⟩ := h
    unfold npts at n
    rw [Bool.and_eq_true] at n
    cases r with
    | cons r1 r2 =>
      show (_ || _) = (_ || _)
      rw [eqBy_is I n.1 a r1, any_eqBy I n.2 t r2]
      rfl
end
section
variable {X : Cx} {B : Bs}
/-- x in a tuple, a list -/
def inR (neg : Bool) : D → D → Cp → DQ → Prop
  | x, .tup ds, C, Q => npt x = true ∧ okEqs ds ∧ Q (.bl (if neg then !memD ds x else memD ds x)) C
  | x, .ptr p, C, Q => ∃ ds, isL C p ds ∧ npt x = true ∧ okEqs ds ∧ Q (.bl (if neg then !memD ds x else memD ds x)) C
  | _, _, _, _ => False
theorem in_items {pins : List (Addr × Obj)} {s : Shared} {σ : L2.St} {H : Hp} (I : Inv X pins σ H s) {A : Around} {ds : List D} {vs : List V} {its : List Value} {dx : D} {x : V} {v : Value} (hA : A.units + 70 < cLine) (ok : okEqs ds) (nx : npt dx = true) (hr : Reps X.K H ds vs) (rv : Vals vs its) (r1 : Rep X.K H dx x) (rx : RelV x v) :
    ∀ y, y ∈ its.toArray → EqAt A s y v (eqBy X.K H dx y) := by
  intro y hy
  have hy : y ∈ its := by simpa using hy
  obtain ⟨j, hj, e⟩ := List.mem_iff_getElem.mp hy
  obtain ⟨w, a1, a2, a3⟩ := getV_of hr rv hj
  rw [e] at a2
  have n := npts_mem ok.1 a3
  rw [eqBy_is I n a1 a2]
  have := deps_mem a3
  have h6 := ok.2
  exact eqAt_D I 60 _ _ A w x _ _ (by omega) n nx (by omega) a1 r1 a2 rx
theorem op_inD (hu : X.A.units + 80 < cLine) : OpD X B (compareOp .In) (inR false) := by
  intro pins s σ H x y v u Q I rx ry h
  obtain ⟨dx, dy, C, Qd, r1, r2, rl, h, k⟩ := h
  cases dy with
  | tup ds =>
    obtain ⟨h1, h2, h3⟩ := h
    obtain ⟨a, vs, rfl, hq, hr⟩ := r2
    cases ry
    obtain ⟨its, rv, p, _⟩ := I.tuple hq
    refine in_tupleAt (eqBy X.K H dx) p (in_items I (show X.A.units + 1 + 70 < cLine by omega) h2 h1 hr rv r1 rx) ⟨.bl _, H, I, rfl, k _ (.bl _) H C (Stp.refl _ _) rl (repB _) ?_⟩
    have := any_eqBy (x := dx) I h2.1 hr rv
    rw [List.any_toArray, this]
    exact h3
  | ptr q =>
    obtain ⟨ds, hl, h1, h2, h3⟩ := h
    cases r2; cases ry
    obtain ⟨vs, hq, hr⟩ := hl.sq rl
    obtain ⟨its, rv, p, _⟩ := I.list hq
    refine in_listAt (eqBy X.K H dx) p.isList (in_items I (show X.A.units + 1 + 70 < cLine by omega) h2 h1 hr rv r1 rx) ⟨.bl _, H, I, rfl, k _ (.bl _) H C (Stp.refl _ _) rl (repB _) ?_⟩
    have := any_eqBy (x := dx) I h2.1 hr rv
    rw [List.any_toArray, this]
    exact h3
  | _ => exact False.elim h
theorem op_niD (hu : X.A.units + 80 < cLine) : OpD X B (compareOp .NotIn) (inR true) := by
  intro pins s σ H x y v u Q I rx ry h
  obtain ⟨dx, dy, C, Qd, r1, r2, rl, h, k⟩ := h
  cases dy with
  | tup ds =>
    obtain ⟨h1, h2, h3⟩ := h
    obtain ⟨a, vs, rfl, hq, hr⟩ := r2
    cases ry
    obtain ⟨its, rv, p, _⟩ := I.tuple hq
    refine notIn_tupleAt (eqBy X.K H dx) p (in_items I (show X.A.units + 1 + 70 < cLine by omega) h2 h1 hr rv r1 rx) ⟨.bl _, H, I, rfl, k _ (.bl _) H C (Stp.refl _ _) rl (repB _) ?_⟩
    have := any_eqBy (x := dx) I h2.1 hr rv
    rw [List.any_toArray, this]
    exact h3
  | ptr q =>
    obtain ⟨ds, hl, h1, h2, h3⟩ := h
    cases r2; cases ry
    obtain ⟨vs, hq, hr⟩ := hl.sq rl
    obtain ⟨its, rv, p, _⟩ := I.list hq
    refine notIn_listAt (eqBy X.K H dx) p.isList (in_items I (show X.A.units + 1 + 70 < cLine by omega) h2 h1 hr rv r1 rx) ⟨.bl _, H, I, rfl, k _ (.bl _) H C (Stp.refl _ _) rl (repB _) ?_⟩
    have := any_eqBy (x := dx) I h2.1 hr rv
    rw [List.any_toArray, this]
    exact h3
  | _ => exact False.elim h
/-- a sign in a text -/
def inSR (neg : Bool) : D → D → Cp → DQ → Prop := fun x y C Q => ∃ c l, x = .str [c] ∧ y = .str l ∧ Q (.bl (if neg then !decide (c ∈ l) else decide (c ∈ l))) C
theorem op_inSD : OpD X B (compareOp .In) (inSR false) := by
  intro pins s σ H x y v u Q I rx ry h
  obtain ⟨dx, dy, C, Qd, r1, r2, rl, ⟨c, l, e1, e2, h⟩, k⟩ := h
  subst e1 e2
  cases r1; cases r2
  exact op_in_sign pins s σ H _ _ v u Q I rx ry ⟨c, _, rfl, rfl, k _ (.bl (decide (c ∈ l))) H C (Stp.refl _ _) rl rfl h⟩
variable {pos apos : Pos} {o i e f value : Expr} {to ti te tf tv : DE}
/-! ### dicts -/
def dGetI (to ti : DE) : DE := fun s C Q => to s C fun x C1 => ti s C1 fun y C2 => ∃ p d, x = .ptr p ∧ gotD C2 p y (some d) ∧ Q d C2
def isDk (C : Cp) (p : Addr) : Prop := (∃ kvs, C p = some (.dk kvs)) ∨ (∃ kvs, C p = some (.dg kvs)) ∨ ∃ kvs ep, C p = some (.lk kvs ep)
theorem gotD.there {C : Cp} {p : Addr} {y : D} {r : Option D} (h : gotD C p y r) : isDk C p := by
  rcases h with ⟨kvs, k, e, _⟩ | ⟨kvs, e, _⟩ | ⟨kvs, ep, k, e, _⟩
  · exact .inl ⟨kvs, e⟩
  · exact .inr (.inl ⟨kvs, e⟩)
  · exact .inr (.inr ⟨kvs, ep, e⟩)
theorem dict_is {pins : List (Addr × Obj)} {σ : L2.St} {H : Hp} {s : Shared} {C : Cp} (hB : B.P = X.prog ∧ B.w = X.w) (I : Inv X pins σ H s) (rl : Rl X.K B H C) {p : Addr} (h : isDk C p) : s.TypeIs (.ref p) "dict" ∧ ∃ ob, s.heap.get? p = some ob ∧ ob.dict = none := by
  rcases h with ⟨kvs, h⟩ | ⟨kvs, h⟩ | ⟨kvs, ep, h⟩
  · obtain ⟨ws, e1, _⟩ := rl.ok _ _ h
    obtain ⟨_, _, vs, _, o, es, ep, ho, ex, _⟩ := dk_of I.hok e1
    exact ⟨⟨o, ho, ex.1⟩, o, ho, ex.2.1⟩
  · obtain ⟨xs, e1, ⟨o, es, ep, ho, ex, _⟩, _⟩ := dg_of hB I rl h
    exact ⟨⟨o, ho, ex.1⟩, o, ho, ex.2.1⟩
  · obtain ⟨ws, e1, _⟩ := rl.ok _ _ h
    rw [hB.1, hB.2] at e1
    obtain ⟨⟨_, _, _, _, o, es, ho, ex, _⟩, _⟩ := I.hok p _ e1
    exact ⟨⟨o, ho, ex.1⟩, o, ho, ex.2.1⟩
theorem j_dget (hB : B.P = X.prog ∧ B.w = X.w) (hu : X.A.units + 20 < cLine) (ho : JE X B o to) (hi : JE X B i ti) (hs : NoSl i := by exact fun _ _ => rfl) : JE X B (.Subscript o i pos) (dGetI to ti) := ⟨fun pins s σ H Q I h => by
  obtain ⟨sl, C, Qd, rs, rl, h, k⟩ := h
  refine subD_of PySem.F.slot_dict_getitem.lookup hs (thn (ho.run pins s σ H (fun x H1 => ∃ dx C1, Stp H C H1 C1 ∧ Rl X.K B H1 C1 ∧ Rep X.K H1 dx x ∧ ti sl C1 fun y C2 => ∃ p d, dx = .ptr p ∧ gotD C2 p y (some d) ∧ Qd d C2) I ⟨sl, C, _, rs, rl, h, fun v d H' C' st rl' r q => ⟨d, C', st, rl', r, q⟩⟩) fun u s1 ⟨x, H1, I1, rx, dx, C1, st1, rl1, r1, q1⟩ => ?_)
  refine thn (hi.run pins s1 σ H1 (fun y H2 => ∃ dy C2, Stp H1 C1 H2 C2 ∧ Rl X.K B H2 C2 ∧ Rep X.K H2 dy y ∧ ∃ p d, dx = .ptr p ∧ gotD C2 p dy (some d) ∧ Qd d C2) I1 ⟨sl, C1, _, rs.mono st1.tx, rl1, q1, fun v d H' C' st rl' r q => ⟨d, C', st, rl', r, q⟩⟩) fun iv s2 ⟨y, H2, I2, ry, dy, C2, st2, rl2, r2, p, d, e, g, q2⟩ => ?_
  subst e
  cases r1
  obtain rfl : u = Value.ref p := rx
  exact ⟨(dict_is hB I2 rl2 g.there).1, getItem_D hB hu I2 rl2 g r2 ry fun w' v s3 I3 rw' rv => ⟨v, H2, I3, rv, k v d H2 C2 (st1.trans st2) rl2 rw' q2⟩⟩⟩
end
end KB
/-! KB10: dict methods, join, isinstance, pop. -/
namespace KB
open PySem PySem.Spec PyProof.Rows SeqAt
open L2 hiding op_eqD op_neD
section
variable {X : Cx} {B : Bs} {pos apos : Pos} {o i e f value : Expr} {es : List Expr} {to ti te tf tv : DE} {tr : DA}
def inDR (neg : Bool) : D → D → Cp → DQ → Prop := fun y x C Q => ∃ p r, x = .ptr p ∧ gotD C p y r ∧ Q (.bl (if neg then !r.isSome else r.isSome)) C
theorem op_inKD (hB : B.P = X.prog ∧ B.w = X.w) (hu : X.A.units + 20 < cLine) : OpD X B (compareOp .In) (inDR false) := by
  intro pins s σ H x y v u Q I rx ry h
  obtain ⟨dx, dy, C, Qd, r1, r2, rl, ⟨p, r, e, g, h⟩, k⟩ := h
  subst e
  cases r2; cases ry
  rcases g with ⟨kvs, kk, e, ey, er⟩ | ⟨kvs, e, hk, er⟩ | ⟨kvs, ep, kk, e, ey, er⟩
  · subst ey
    obtain ⟨ws, e1, q⟩ := rl.ok _ _ e
    have hl := repK_look q kk
    have hx := keyD_val r1
    subst hx
    have hs : (valV ws (keyOf kk)).isSome = r.isSome := by
      rw [er]
      cases e2 : lookA kvs kk with
      | none => rw [e2] at hl; rw [hl]; rfl
      | some d => rw [e2] at hl; obtain ⟨v, e3, _⟩ := hl; rw [e3]; rfl
    exact d_in (by omega) I (DGet.k (k := keyOf kk) e1) rx fun s' I' => ⟨.bl _, H, I', rfl, k _ (.bl _) H C (Stp.refl _ _) rl (repB _) (by rw [hs]; exact h)⟩
  · obtain ⟨xs, e1, hm, q, kg, hz, lo⟩ := dg_of hB I rl e
    have hl := repG_look q dx
    obtain ⟨ds, hds⟩ := hk.1
    have hr' := r1
    rw [hds] at r1
    obtain ⟨b, vs, rfl, _, _⟩ := r1
    cases rx
    have hs : (atKey xs (nk dx)).isSome = r.isSome := by
      rw [er]
      cases e2 : lookG kvs dx with
      | none => rw [e2] at hl; rw [hl]; rfl
      | some d => rw [e2] at hl; obtain ⟨a, u, v, e3, _⟩ := hl; rw [e3]; rfl
    exact wpAny_in_heap (show X.A.units + 1 + 8 < cLine by omega) (key_is I hk hr') lo hm ⟨.bl _, H, I.tok _, rfl, k _ (.bl _) H C (Stp.refl _ _) rl (repB _) (by rw [hs]; exact h)⟩
  · subst ey
    obtain ⟨ws, e1, q⟩ := rl.ok _ _ e
    rw [hB.1, hB.2] at e1
    have hl := repK_look q kk
    have hx := keyD_val r1
    subst hx
    have hs : (valV ws (keyOf kk)).isSome = r.isSome := by
      rw [er]
      cases e2 : lookA kvs kk with
      | none => rw [e2] at hl; rw [hl]; rfl
      | some d => rw [e2] at hl; obtain ⟨v, e3, _⟩ := hl; rw [e3]; rfl
    obtain ⟨o, J, back⟩ := lk_read I e1
    exact d_in (by omega) J (lk_get (keyOf kk)) rx fun s' I' => ⟨.bl _, H, back s' I', rfl, k _ (.bl _) H C (Stp.refl _ _) rl (repB _) (by rw [hs]; exact h)⟩
theorem op_niKD (hB : B.P = X.prog ∧ B.w = X.w) (hu : X.A.units + 20 < cLine) : OpD X B (compareOp .NotIn) (inDR true) := by
  intro pins s σ H x y v u Q I rx ry h
  obtain ⟨dx, dy, C, Qd, r1, r2, rl, ⟨p, r, e, g, h⟩, k⟩ := h
  subst e
  cases r2; cases ry
  rcases g with ⟨kvs, kk, e, ey, er⟩ | ⟨kvs, e, hk, er⟩ | ⟨kvs, ep, kk, e, ey, er⟩
  · subst ey
    obtain ⟨ws, e1, q⟩ := rl.ok _ _ e
    have hl := repK_look q kk
    have hx := keyD_val r1
    subst hx
    have hs : (valV ws (keyOf kk)).isSome = r.isSome := by
      rw [er]
      cases e2 : lookA kvs kk with
      | none => rw [e2] at hl; rw [hl]; rfl
      | some d => rw [e2] at hl; obtain ⟨v, e3, _⟩ := hl; rw [e3]; rfl
    exact d_notIn (by omega) I (DGet.k (k := keyOf kk) e1) rx fun s' I' => ⟨.bl _, H, I', rfl, k _ (.bl _) H C (Stp.refl _ _) rl (repB _) (by rw [hs]; exact h)⟩
  · obtain ⟨xs, e1, hm, q, kg, hz, lo⟩ := dg_of hB I rl e
    have hl := repG_look q dx
    obtain ⟨ds, hds⟩ := hk.1
    have hr' := r1
    rw [hds] at r1
    obtain ⟨b, vs, rfl, _, _⟩ := r1
    cases rx
    have hs : (atKey xs (nk dx)).isSome = r.isSome := by
      rw [er]
      cases e2 : lookG kvs dx with
      | none => rw [e2] at hl; rw [hl]; rfl
      | some d => rw [e2] at hl; obtain ⟨a, u, v, e3, _⟩ := hl; rw [e3]; rfl
    show wpAny _ _ (do return Value.bool (!(← contains (.ref p) (.ref b)))) _ _ s
    exact wpAny_bind (wpAny_contains_heap (show X.A.units + 1 + 8 < cLine by omega) (key_is I hk hr') lo hm (wpAny_pure ⟨.bl _, H, I.tok _, rfl, k _ (.bl _) H C (Stp.refl _ _) rl (repB _) (by rw [hs]; exact h)⟩))
  · subst ey
    obtain ⟨ws, e1, q⟩ := rl.ok _ _ e
    rw [hB.1, hB.2] at e1
    have hl := repK_look q kk
    have hx := keyD_val r1
    subst hx
    have hs : (valV ws (keyOf kk)).isSome = r.isSome := by
      rw [er]
      cases e2 : lookA kvs kk with
      | none => rw [e2] at hl; rw [hl]; rfl
      | some d => rw [e2] at hl; obtain ⟨v, e3, _⟩ := hl; rw [e3]; rfl
    obtain ⟨o, J, back⟩ := lk_read I e1
    exact d_notIn (by omega) J (lk_get (keyOf kk)) rx fun s' I' => ⟨.bl _, H, back s' I', rfl, k _ (.bl _) H C (Stp.refl _ _) rl (repB _) (by rw [hs]; exact h)⟩
/-- a new dict for keys that are tuples -/
def dEmpG : DE := fun _ C Q => ∀ p, C p = none → Q (.ptr p) (up C p (.dg []))
theorem j_empG (hB : B.P = X.prog ∧ B.w = X.w) : JE X B (.Dict [] [] pos) dEmpG := ⟨fun pins s σ H Q I h => by
  obtain ⟨sl, C, Qd, rs, rl, h, k⟩ := h
  have hn := I.hok.fresh (Nat.le_refl s.heap.objs.size)
  have cn : C s.heap.objs.size = none := rl.fresh hn
  refine wpAny_Dict_empty ⟨.ref s.heap.objs.size, _, I.laid (a := s.heap.objs.size) (o := DgObj X.prog X.w s.heap.objs.size []) (t' := s.toks) (fun _ _ q => Heap.get?_push_of_some _ q) (Nat.le_refl _) ?_, rfl, ?_⟩
  · exact ⟨⟨_, #[], 0, Heap.get?_push_size _ rfl, ⟨rfl, rfl, rfl⟩, rfl, rfl, List.nodup_nil, Nat.zero_le _, beq_eq_false_iff_ne.mpr (Ne.symm (Nat.ne_of_lt I.big))⟩, ⟨_, Heap.get?_push_size _ rfl⟩, fun ha hb ⟨o, es, ep, a1, a2⟩ k => ⟨o, es, ep, k o a1, a2⟩⟩
  · refine k _ (.ptr s.heap.objs.size) _ (up C s.heap.objs.size (.dg [])) (stp_put (by rw [hn]; exact id) (.inr hn)) (rl.putNew hn ?_) rfl (h _ cn)
    rw [hB.1, hB.2]
    exact ⟨[], upd_same, .nil, fun q hq => nomatch hq⟩⟩
/-! ### join -/
def joinD (sep : List Nat) : List (List Nat) → List Nat := TL.joinL sep
def joinR : D → List D → Cp → DQ → Prop := fun d ds C Q => ∃ (a : List Nat) (x : D) (ys : List (List Nat)), d = .str a ∧ ds = [x] ∧ itemsD C x (ys.map D.str) ∧ (ys.map List.length).sum + ys.length * a.length ≤ 16777216 ∧ Q (.str (joinD a ys)) C
theorem mt_joinD : MtD X B "str.join" joinR := by
  intro pins s σ H x xs v us Q I rx rs h
  obtain ⟨d, ds, C, Qd, r1, r2, rl, ⟨a, x1, ys, ed, eds, hi, hz, h⟩, k⟩ := h
  subst ed eds
  cases r1
  obtain ⟨w, r3, rfl, hw, hn⟩ := r2
  cases hn
  have fin : Q (.str (Txt.join ⟨a.toArray⟩ (ys.map sOf))) H := by
    refine k _ (.str (joinD a ys)) H C (Stp.refl _ _) rl ?_ h
    show V.str _ = V.str _
    congr 1
    rw [TL.join_eq]
    refine TL.ext_tl ?_
    rw [TL.tl_join]
    show TL.joinL a ((ys.map sOf).map TL.tl) = joinD a ys
    rw [List.map_map]
    have : (TL.tl ∘ sOf) = id := by funext l; rfl
    rw [this, List.map_id]
    rfl
  have hz2 : ((ys.map sOf).map (·.length)).sum + (ys.map sOf).length * (⟨a.toArray⟩ : Str).length ≤ 16777216 := by
    rw [List.map_map, List.length_map]
    have : ((fun x : Str => x.length) ∘ sOf) = List.length := by funext l; simp [Str.length]
    rw [this]
    simpa [Str.length] using hz
  cases x1 with
  | tup es =>
    have hi : ys.map D.str = es := hi
    subst hi
    obtain ⟨p, vs, rfl, hq, hr⟩ := hw
    rw [hr.strs] at hq
    exact mt_join pins s σ H _ _ v us Q I rx rs ⟨_, p, ys.map sOf, rfl, rfl, .inr hq, hz2, fin⟩
  | ptr p =>
    cases hw
    obtain ⟨vs, hq, hr⟩ := isL.sq rl hi
    rw [hr.strs] at hq
    exact mt_join pins s σ H _ _ v us Q I rx rs ⟨_, p, ys.map sOf, rfl, rfl, .inl hq, hz2, fin⟩
  | _ => exact False.elim hi
/-! ### pop -/
/-- pop() -/
def popR : D → List D → Cp → DQ → Prop := fun d ds C Q => ∃ p xs y, d = .ptr p ∧ ds = [] ∧ C p = some (.lst xs) ∧ xs[xs.length - 1]? = some y ∧ Q y (up C p (.lst xs.dropLast))
theorem reps_dropLast {K : PySem.W.Frag} {H : Hp} {ds : List D} {vs : List V} (h : Reps K H ds vs) : Reps K H ds.dropLast vs.dropLast := by
  rw [List.dropLast_eq_take, List.dropLast_eq_take, h.length]
  exact h.take _
theorem mt_popD : MtD X B "list.pop" popR := by
  intro pins s σ H x xs v us Q I rx rs h
  obtain ⟨d, ds, C, Qd, r1, r2, rl, ⟨p, ys, y, e1, e2, hc, h4, h⟩, k⟩ := h
  subst e1 e2
  cases r1; cases r2
  obtain ⟨vs, hp, hr⟩ := rl.cells hc
  obtain ⟨a1, a2⟩ := rl.setL hc hp (reps_dropLast hr)
  obtain ⟨yv, b1, b2⟩ := hr.get h4
  exact mt_pop pins s σ H _ _ v us Q I rx rs ⟨p, vs, yv, rfl, rfl, hp, by rw [← hr.length]; exact b1, k _ _ _ _ a1 a2 (b2.mono a1.tx) h⟩
/-! ### isinstance of built-in classes -/
def nameD (C : Cp) : D → String → Prop
  | .non, n => n = "NoneType"
  | .bl _, n => n = "bool"
  | .int _, n => n = "int"
  | .str _, n => n = "str"
  | .tup _, n => n = "tuple"
  | .ptr p, n => (n = "list" ∧ ∃ ds, isL C p ds) ∨ (n = "dict" ∧ ∃ kvs, C p = some (.dk kvs))
  | .ty _, _ => False
  | .fn _, _ => False
theorem nameD_ok {H : Hp} {C : Cp} (rl : Rl X.K B H C) {d : D} {x : V} {n : String} (r : Rep X.K H d x) (h : nameD C d n) : TyX X.K H x (.type n) := by
  cases d with
  | non => cases r; cases (show n = "NoneType" from h); exact .base .non
  | bl b => cases r; cases (show n = "bool" from h); exact .base (.bl _)
  | int b => cases r; cases (show n = "int" from h); exact .base (.int _)
  | str b => cases r; cases (show n = "str" from h); exact .base (.str _)
  | tup ds =>
    cases (show n = "tuple" from h)
    obtain ⟨a, vs, rfl, hq, _⟩ := r
    rcases hq with (hq | ⟨o, hq⟩) | ⟨o, its, k, hq, hc, _⟩
    · exact .base (.tup hq)
    · exact .fTuple hq
    · exact .kTuple hq hc
  | ptr p =>
    cases r
    rcases h with ⟨e, ds, h | h⟩ | ⟨e, kvs, h⟩
    · subst e
      obtain ⟨vs, q, _⟩ := rl.ok _ _ h
      exact .base (.lst q)
    · subst e
      obtain ⟨o, vs, q, _⟩ := rl.ok _ _ h
      exact .base (.frz q)
    · subst e
      obtain ⟨vs, q, _⟩ := rl.ok _ _ h
      exact .base (.dK q)
  | ty _ => exact h.elim
  | fn _ => exact h.elim
def isiR : List D → Cp → DQ → Prop := fun ds C Q => ∃ d tb n b, ds = [d, .ty tb] ∧ nameD C d n ∧ kitB n tb = some b ∧ Q (.bl b) C
theorem call_isiD : CallD X B (.builtin "isinstance") isiR := by
  intro pins s σ H xs us Q I rx h
  obtain ⟨ds, C, Qd, r, rl, ⟨d, tb, n, b, e, hn, hk, h⟩, k⟩ := h
  subst e
  obtain ⟨x, r2, rfl, hx, y, r3, rfl, hy, hnil⟩ := r
  cases hnil; cases hy
  exact call_isi pins s σ H _ us Q I rx ⟨x, .ty tb, .type n, .type tb, b, rfl, .ty tb, nameD_ok rl hx hn, kit_ty hk, k _ (.bl b) H C (Stp.refl _ _) rl rfl h⟩
theorem j_tyName {x : Str} (n : String) (hm : X.mg x = none) (hv : bootBuiltins x = some (.type n)) (hg : Gl X x := by rfl) (hn : x ≠ "__name__" := by decide) (hdb : (x == ("__debug__" : Str)) = false := by decide) : JE X B (.Name x pos) (dC (.ty n)) := j_const (.ty n) (pe_bltn (v := .ty n) hg hm hv rfl hn hdb) fun _ _ => rfl
end
end KB
/-! KB11: stores into lists and dicts, parallel assignments, displays of dicts, op=. -/
namespace KB
open PySem PySem.Spec PyProof.Rows SeqAt
open L2 hiding op_eqD op_neD
section
variable {X : Cx} {B : Bs} {pos apos tpos : Pos} {o i e f value a b c : Expr} {es : List Expr} {to ti te tf tv ta tb : DE} {tr : DA}
/-! ### o[i] = v -/
def setsD (C : Cp) (p : Addr) (y v : D) (C' : Cp) : Prop := (∃ xs k j, C p = some (.lst xs) ∧ y = .int k ∧ ixN xs.length k = some j ∧ C' = up C p (.lst (xs.set j v))) ∨ putsD C p y v C'
def setR : D → D → D → Cp → (Cp → Prop) → Prop := fun x y v C Q => ∃ p C', x = .ptr p ∧ setsD C p y v C' ∧ Q C'
def lSet (K : PySem.W.Frag) (B : Bs) (r : D → D → D → Cp → (Cp → Prop) → Prop) : TSet := fun x y v H Q => ∃ dx dy dv C Qd, Rep K H dx x ∧ Rep K H dy y ∧ Rep K H dv v ∧ Rl K B H C ∧ r dx dy dv C Qd ∧ ∀ H' C', Stp H C H' C' → Rl K B H' C' → Qd C' → Q H'
theorem set_D (hB : B.P = X.prog ∧ B.w = X.w) (hu : X.A.units + 20 < cLine) : PSet X (lSet X.K B setR) := by
  intro pins s σ H x y v xv yv u Q I rx ry rv h
  obtain ⟨dx, dy, dv, C, Qd, r1, r2, r3, rl, ⟨p, C', ex, g, q⟩, k⟩ := h
  subst ex
  cases r1
  rcases g with ⟨xs, kk, j, hc, ey, hj, eC⟩ | g
  · subst ey eC
    cases r2
    obtain ⟨vs, hp, hr⟩ := rl.cells hc
    obtain ⟨a1, a2⟩ := rl.setL hc hp (hr.set r3 j)
    exact set_list pins s σ H _ _ v _ _ u Q I rx ry rv ⟨p, vs, kk, j, rfl, rfl, hp, by rw [← hr.length]; exact hj, k _ _ a1 a2 q⟩
  · obtain rfl : xv = Value.ref p := rx
    exact setItem_D hB hu I rl g r2 ry r3 rv fun H4 s4 I4 st4 rl4 => ⟨H4, I4, k H4 C' st4 rl4 q⟩
def dSetI (to ti tv : DE) : DS := fun D s C => tv s C fun v C1 => to s C1 fun x C2 => ti s C2 fun y C3 => setR x y v C3 fun C4 => D.nx s C4
theorem js_sset {pos' : Pos} (hB : B.P = X.prog ∧ B.w = X.w) (hu : X.A.units + 20 < cLine) (ho : JE X B o to) (hi : JE X B i ti) (hv : JE X B value tv) (hs : swapsWith value (some (.Subscript o i pos')) pos.line X.env = pure false := by rfl) :
    JS X B (.Assign [.Subscript o i pos'] value pos) (dSetI to ti tv) := ⟨fun pins s σ H D I h => by
  obtain ⟨sl, C, Dd, rs, rl, h, k⟩ := h
  refine wpAny_Assign_Subscript (thn (hv.run pins s σ H (fun x H1 => ∃ dv C1, Stp H C H1 C1 ∧ Rl X.K B H1 C1 ∧ Rep X.K H1 dv x ∧ to sl C1 fun x C2 => ti sl C2 fun y C3 => setR x y dv C3 fun C4 => Dd.nx sl C4) I ⟨sl, C, _, rs, rl, h, fun v d H' C' st rl' r q => ⟨d, C', st, rl', r, q⟩⟩) fun z s1 ⟨v, H1, I1, rv, dv, C1, st1, rl1, r1, q1⟩ => ?_) hs
  refine thn (ho.run pins s1 σ H1 (fun x H2 => ∃ dx C2, Stp H1 C1 H2 C2 ∧ Rl X.K B H2 C2 ∧ Rep X.K H2 dx x ∧ ti sl C2 fun y C3 => setR dx y dv C3 fun C4 => Dd.nx sl C4) I1 ⟨sl, C1, _, rs.mono st1.tx, rl1, q1, fun v d H' C' st rl' r q => ⟨d, C', st, rl', r, q⟩⟩) fun u s2 ⟨x, H2, I2, rx, dx, C2, st2, rl2, r2, q2⟩ => ?_
  refine thn (hi.run pins s2 σ H2 (fun y H3 => ∃ dy C3, Stp H2 C2 H3 C3 ∧ Rl X.K B H3 C3 ∧ Rep X.K H3 dy y ∧ setR dx dy dv C3 fun C4 => Dd.nx sl C4) I2 ⟨sl, C2, _, rs.mono (st1.trans st2).tx, rl2, q2, fun v d H' C' st rl' r q => ⟨d, C', st, rl', r, q⟩⟩) fun iv s3 ⟨y, H3, I3, ry, dy, C3, st3, rl3, r3, q3⟩ => ?_
  refine thn (set_D hB hu pins s3 σ H3 x y v u iv z (fun H4 => ∃ C4, Stp H3 C3 H4 C4 ∧ Rl X.K B H4 C4 ∧ Dd.nx sl C4) I3 rx ry rv ⟨dx, dy, dv, C3, _, r2.mono st3.tx, r3, r1.mono (st2.trans st3).tx, rl3, q3, fun H' C' st rl' q => ⟨C', st, rl', q⟩⟩) fun _ s4 ⟨H4, I4, C4, st4, rl4, q4⟩ => ?_
  exact ⟨σ, H4, I4, k.nx _ _ H4 C4 (((st1.trans st2).trans st3).trans st4) rl4 (rs.mono (((st1.trans st2).trans st3).trans st4).tx) q4⟩⟩
/-! ### a, b = x, y -/
theorem js_par {i j : Nat} {x y : Str} {px py pt : Pos} {kt k2 pt2} (hc : X.calm = true) (hN : X.N.Nodup) (ha : JA X B [a, b] tr) (hi : X.N[i]? = some x := by rfl) (hj : X.N[j]? = some y := by rfl) (hij : i ≠ j := by decide)
    (hx : X.env.scope.names.lookup x = some .local := by rfl) (hy : X.env.scope.names.lookup y = some .local := by rfl)
    (hw : swappedStores [.Tuple [.Name x px, .Name y py] kt pt] (.Tuple [a, b] k2 pt2) X.env = pure (some [x, y]) := by rfl)
    (hs : swapsWithSole [.Tuple [.Name x px, .Name y py] kt pt] (.Tuple [a, b] k2 pt2) pos.line X.env = pure false := by rfl) :
    JS X B (.Assign [.Tuple [.Name x px, .Name y py] kt pt] (.Tuple [a, b] k2 pt2) pos) (dPar i j tr) := PS.imp (ps_par hc hN hi hj hij hx hy ha hw hs) fun D σ H h => by
  obtain ⟨sl, C, Dd, rs, rl, h, k⟩ := h
  refine ⟨sl, C, _, rs, rl, h, fun vs ds H1 C1 st1 rl1 r ⟨d1, d2, e, q⟩ => ?_⟩
  subst e
  obtain ⟨v, r', rfl, h1, w, r'', rfl, h2, hn⟩ := r
  cases hn
  exact ⟨v, w, rfl, k.nx _ _ H1 C1 st1 rl1 (((rs.mono st1.tx).setD h1 i).setD h2 j) q⟩
/-! ### name += e -/
/-! ### {k: v, ..} -/
def dPairs : List (DE × DE) → Sl → Cp → (List (D × D) → Cp → Prop) → Prop
  | [], _, C, Q => Q [] C
  | (tk, tv) :: r, s, C, Q => tk s C fun x C1 => tv s C1 fun y C2 => dPairs r s C2 fun ps C3 => Q ((x, y) :: ps) C3
def RepP (K : PySem.W.Frag) (H : Hp) : List (D × D) → List (V × V) → Prop := Paired fun p q => Rep K H p.1 q.1 ∧ Rep K H p.2 q.2
structure JPs (X : Cx) (B : Bs) (pos : Pos) (keys : List (Option Expr)) (values : List Expr) (trs : List (DE × DE)) : Prop where
  run : ∀ (pins : List (Addr × Obj)) (s : Shared) (σ : L2.St) (H : Hp) (sl : Sl) (C : Cp) (Qd : List (D × D) → Cp → Prop), L2.Inv X pins σ H s → RepS X.K H sl σ → Rl X.K B H C → dPairs trs sl C Qd →
    wpAny (model X.prog X.w) X.A (evalPairs (pairTrees keys values X.env pos)) (fun vs s' => ∃ ps ds H' C', L2.Inv X pins σ H' s' ∧ VV ps vs ∧ RepP X.K H' ds ps ∧ Stp H C H' C' ∧ Rl X.K B H' C' ∧ Qd ds C') X.xe s
theorem jps_nil : JPs X B pos [] [] [] := ⟨fun pins s σ H sl C Qd I rs rl h => pairTrees_nil_walk ⟨[], [], H, C, I, .nil, .nil, Stp.refl _ _, rl, h⟩⟩
theorem jps_cons {k v : Expr} {ks : List (Option Expr)} {vs : List Expr} {tk tv : DE} {trs : List (DE × DE)} (hk : JE X B k tk) (hv : JE X B v tv) (hr : JPs X B pos ks vs trs) : JPs X B pos (some k :: ks) (v :: vs) ((tk, tv) :: trs) := ⟨fun pins s σ H sl C Qd I rs rl h =>
  pairTrees_cons_walk (thn (hk.run pins s σ H (fun x H1 => ∃ d C1, Stp H C H1 C1 ∧ Rl X.K B H1 C1 ∧ Rep X.K H1 d x ∧ tv sl C1 fun y C2 => dPairs trs sl C2 fun ps C3 => Qd ((d, y) :: ps) C3) I ⟨sl, C, _, rs, rl, h, fun v d H' C' st rl' r q => ⟨d, C', st, rl', r, q⟩⟩) fun u s1 ⟨x, H1, I1, rx, dx, C1, st1, rl1, r1, q1⟩ =>
    thn (hv.run pins s1 σ H1 (fun y H2 => ∃ d C2, Stp H1 C1 H2 C2 ∧ Rl X.K B H2 C2 ∧ Rep X.K H2 d y ∧ dPairs trs sl C2 fun ps C3 => Qd ((dx, d) :: ps) C3) I1 ⟨sl, C1, _, rs.mono st1.tx, rl1, q1, fun v d H' C' st rl' r q => ⟨d, C', st, rl', r, q⟩⟩) fun w s2 ⟨y, H2, I2, ry, dy, C2, st2, rl2, r2, q2⟩ =>
      thn (hr.run pins s2 σ H2 sl C2 _ I2 (rs.mono (st1.trans st2).tx) rl2 q2) fun ws s3 ⟨ps, ds, H3, C3, I3, rel, rp, st3, rl3, q3⟩ =>
        ⟨(x, y) :: ps, (dx, dy) :: ds, H3, C3, I3, .cons ⟨rx, ry⟩ rel, .cons ⟨r1.mono (st2.trans st3).tx, r2.mono st3.tx⟩ rp, (st1.trans st2).trans st3, rl3, q3⟩)⟩
def mergeA (acc more : List (DKey × D)) : List (DKey × D) := more.foldl (fun acc kv => putA acc kv.1 kv.2) acc
theorem repK_merge {H : Hp} : ∀ {more : List (DKey × D)} {ws : List (Key × V)} {acc : List (DKey × D)} {aw : List (Key × V)}, RepK keyOf X.K H more ws → RepK keyOf X.K H acc aw → RepK keyOf X.K H (mergeA acc more) (mergeK aw ws) := by
  intro more ws acc aw q
  unfold RepK at q
  induction q generalizing acc aw with
  | nil => intro r; exact r
  | @cons p x ps xs r t ih =>
    intro r0
    have e := repK_put r0 p.1 r.2
    rw [r.1] at e
    exact ih e
theorem repP_keys {H : Hp} : ∀ {kvs : List (DKey × D)} {ps : List (V × V)}, RepP X.K H (kvs.map fun kv => (keyD kv.1, kv.2)) ps → ∃ ws : List (Key × V), ps = ws.map (fun kv => (kV kv.1, kv.2)) ∧ RepK keyOf X.K H kvs ws
  | [], _, h => by cases h; exact ⟨[], rfl, .nil⟩
  | (k, d) :: kvs, _, h => by
    cases h with
    | @cons _ q _ qs h t =>
      obtain ⟨ws, e, r⟩ := repP_keys t
      obtain ⟨q1, q2⟩ := q
      obtain ⟨h1, h2⟩ := h
      have := keyD_val h1
      dsimp only at this
      subst this
      exact ⟨(keyOf k, q2) :: ws, by rw [e]; rfl, .cons ⟨rfl, h2⟩ r⟩
def dDisp (trs : List (DE × DE)) : DE := fun s C Q => dPairs trs s C fun ps C2 => ∃ kvs : List (DKey × D), ps = kvs.map (fun kv => (keyD kv.1, kv.2)) ∧ kvs.length ≤ 15 ∧ ∀ p, C2 p = none → Q (.ptr p) (up C2 p (.dk (mergeA [] kvs)))
theorem j_disp {keys : List (Option Expr)} {values : List Expr} {trs : List (DE × DE)} (h : JPs X B pos keys values trs) (hall : keys.all (·.isSome) = true := by rfl) (hl : keys.length = values.length := by rfl) (h0 : keys ≠ [] := by exact List.cons_ne_nil _ _)
    (h15 : keys.length ≤ 15 := by decide) : JE X B (.Dict keys values pos) (dDisp trs) := by
  refine ⟨fun pins s σ H Q I q => ?_⟩
  obtain ⟨sl, C, Qd, rs, rl, q, k⟩ := q
  have hn := I.hok.fresh (Nat.le_refl s.heap.objs.size)
  have cn : C s.heap.objs.size = none := rl.fresh hn
  have I1 := I.laid (a := s.heap.objs.size) (o := .dK []) (h' := s.heap.push { cls := .type "dict", data := .dict #[] }) (t' := s.toks) (fun _ _ q => Heap.get?_push_of_some _ q) (Nat.le_refl _) (dk_empty s.heap I.big)
  have s0 : Stp H C (upd H s.heap.objs.size (.dK [])) C := stp_more hn
  refine wpAny_Dict_walk (knd := mixKind X.prog X.w) hall hl h0 h15 (thn (h.run pins _ σ _ sl C _ I1 (rs.mono s0.tx) (rl.more hn) q) fun ws s2 ⟨ps, ds, H2, C2, I2, rel, rp, st2, rl2, kvs, ed, hk15, q2⟩ => ?_)
  subst ed
  obtain ⟨e, n2⟩ := st2.hid _ _ upd_same cn
  obtain ⟨kws, ep, rk0⟩ := repP_keys rp
  subst ep
  obtain ⟨rs2, c, rk⟩ := carries_of (P := X.prog) (w := X.w) rel
  obtain ⟨z, hd, vs0, r0, dd⟩ := dk_of I2.hok e
  cases r0
  refine ⟨rs2, c, dd, fun h' dd' hs => ?_⟩
  have hz : (mergeK [] kws).length ≤ sizeLine := by
    have h1 := length_mergeK kws []
    have h2 := Paired.length rk0
    rw [List.length_nil] at h1
    rw [sizeLine_eq]; omega
  have he : ∃ q, h'.get? s.heap.objs.size = some q := let ⟨q, _, _, hq, _⟩ := dd'; ⟨q, hq⟩
  have nf : ¬ Frz (H2 s.heap.objs.size) := by rw [e]; exact id
  have s1 : Stp H C (upd H2 s.heap.objs.size (.dK (mergeK [] kws))) (up C2 s.heap.objs.size (.dk (mergeA [] kvs))) := by
    have a := stp_hid (o := .dK (mergeK [] kws)) (Stp.refl H C) hn (s0.trans st2) nf
    refine ⟨a.tx, fun p u e n => ?_⟩
    obtain ⟨a1, a2⟩ := a.hid p u e n
    exact ⟨a1, by rw [up_ne (ne_of_none e hn)]; exact a2⟩
  refine ⟨.ref s.heap.objs.size, _, d_write I2 (by rw [e]; exact True.intro) hs he (dk_new hz hd (rk.merge .nil) dd'), rfl, k _ (.ptr s.heap.objs.size) _ (up C2 s.heap.objs.size (.dk (mergeA [] kvs))) s1 ⟨rl.st.trans s1, fun p c e2 => ?_, ti_upd rl2.ti⟩ rfl (q2 _ n2)⟩
  by_cases hp : p = s.heap.objs.size
  · subst hp
    rw [up_same] at e2
    cases e2
    exact ⟨_, upd_same, (repK_merge rk0 (.nil)).mono (tx_upd nf)⟩
  · rw [up_ne hp] at e2
    exact (rl2.ok p c e2).keep (tx_upd nf) (upd_ne hp)
end
end KB
/-! KB12: choices of readings; list(..) of texts and dicts. -/
namespace KB
open PySem PySem.Spec PyProof.Rows SeqAt
open L2 hiding op_eqD op_neD
section
variable {X : Cx} {B : Bs} {pos apos tpos : Pos} {tg o i e f value a b c : Expr} {es : List Expr} {to ti te tf tv ta tb : DE} {tr : DA} {sa sb : DI} {st : Stmt} {tS uS : DS}
/-- one of two readings -/
def dAlt (t u : DE) : DE := fun s C Q => t s C Q ∨ u s C Q
theorem j_alt (h1 : JE X B e ta) (h2 : JE X B e tb) : JE X B e (dAlt ta tb) := ⟨fun pins s σ H Q I h => by
  obtain ⟨sl, C, Qd, rs, rl, h | h, k⟩ := h
  · exact h1.run pins s σ H Q I ⟨sl, C, Qd, rs, rl, h, k⟩
  · exact h2.run pins s σ H Q I ⟨sl, C, Qd, rs, rl, h, k⟩⟩
def dAltI (t u : DI) : DI := fun s C Q => t s C Q ∨ u s C Q
theorem ji_alt (h1 : JI X B tg e sa) (h2 : JI X B tg e sb) : JI X B tg e (dAltI sa sb) := ⟨fun pins s σ H Q I h => by
  obtain ⟨sl, C, Qd, rs, rl, h | h, k⟩ := h
  · exact h1.run pins s σ H Q I ⟨sl, C, Qd, rs, rl, h, k⟩
  · exact h2.run pins s σ H Q I ⟨sl, C, Qd, rs, rl, h, k⟩⟩
def altR (r r' : List D → Cp → DQ → Prop) : List D → Cp → DQ → Prop := fun ds C Q => r ds C Q ∨ r' ds C Q
theorem call_alt {f : Value} {r r' : List D → Cp → DQ → Prop} (h1 : CallD X B f r) (h2 : CallD X B f r') : CallD X B f (altR r r') := by
  intro pins s σ H xs us Q I rx h
  obtain ⟨ds, C, Qd, rr, rl, h | h, k⟩ := h
  · exact h1 pins s σ H xs us Q I rx ⟨ds, C, Qd, rr, rl, h, k⟩
  · exact h2 pins s σ H xs us Q I rx ⟨ds, C, Qd, rr, rl, h, k⟩
end
end KB
/-! KB13: room, the law's start, len of a dict. -/
namespace KB
open PySem PySem.Spec PyProof.Rows SeqAt
open L2 hiding op_eqD op_neD
theorem room20 {k : Nat} {A : Around} (r : RoomG k A) : A.units + 20 < cLine := by have := r.un; omega
theorem room70 {k : Nat} {A : Around} (r : RoomG k A) : A.units + 70 < cLine := by have := r.un; omega
theorem room80 {k : Nat} {A : Around} (r : RoomG k A) : A.units + 80 < cLine := by have := r.un; omega
def noLists (K : PySem.W.Frag) : Bool := K.all fun p => match p.2.cls with | .type n => n != "list" | _ => true
theorem lookup_mem {K : List (Addr × Obj)} {a : Addr} {o : Obj} (h : K.lookup a = some o) : (a, o) ∈ K := by
  induction K with
  | nil => cases h
  | cons p r ih =>
    obtain ⟨b, q⟩ := p
    rw [List.lookup_cons] at h
    split at h
    · rename_i e
      have e1 : a = b := by simpa using e
      cases h
      rw [e1]
      exact List.mem_cons_self
    · exact List.mem_cons_of_mem _ (ih h)
theorem reps_ints {K : PySem.W.Frag} {H : Hp} : ∀ ns : List Int, Reps K H (ns.map D.int) (ns.map V.int)
  | [] => rfl
  | _ :: r => .cons rfl (reps_ints r)
theorem bt_list : bootBuiltins "list" = some (.type "list") := by decide +kernel
theorem bt_tuple : bootBuiltins "tuple" = some (.type "tuple") := by decide +kernel
theorem bt_int : bootBuiltins "int" = some (.type "int") := by decide +kernel
theorem bt_dict : bootBuiltins "dict" = some (.type "dict") := by decide +kernel
theorem bt_str : bootBuiltins "str" = some (.type "str") := by decide +kernel
theorem bt_abs : bootBuiltins "abs" = some (.builtin "abs") := by decide +kernel
theorem bt_sorted : bootBuiltins "sorted" = some (.builtin "sorted") := by decide +kernel
theorem bt_isinstance : bootBuiltins "isinstance" = some (.builtin "isinstance") := by decide +kernel
theorem bt_max : bootBuiltins "max" = some (.builtin "max") := by decide +kernel
theorem bt_min : bootBuiltins "min" = some (.builtin "min") := by decide +kernel
theorem bt_any : bootBuiltins "any" = some (.builtin "any") := by decide +kernel
theorem bt_all : bootBuiltins "all" = some (.builtin "all") := by decide +kernel
theorem bt_len : bootBuiltins "len" = some (.builtin "len") := by decide +kernel
end KB
/-! KB14: readings run by hand: one step a lemma. -/
namespace KB
open PySem PySem.Spec PyProof.Rows
open L2 hiding op_eqD op_neD call_listD
section
variable {C : Cp} {Q : DQ} {p q : Addr} {i : Int} {d v y : D} {xs ys : List D}
theorem eqR_ii {n : Bool} {a b : Int} : eqR n (.int a) (.int b) C Q = Q (.bl (if n then !(a == b) else a == b)) C := by
  unfold eqR okEq npt dep eqD
  simp
theorem eqR_ss {n : Bool} {a b : List Nat} : eqR n (.str a) (.str b) C Q = Q (.bl (if n then !(a == b) else a == b)) C := by
  unfold eqR okEq npt dep eqD
  simp
theorem eqR_tt {n : Bool} {a b : List D} : eqR n (.tup a) (.tup b) C Q = (okEq (.tup a) ∧ npt (.tup b) = true ∧ Q (.bl (if n then !(eqD (.tup a) (.tup b)) else eqD (.tup a) (.tup b))) C) := rfl
theorem eqR_pp {n : Bool} (h1 : isL C p xs) (h2 : isL C q ys) (ok : okEqs xs) (ok2 : npts ys = true) (k : Q (.bl (if n then !eqDs xs ys else eqDs xs ys)) C) : eqR n (.ptr p) (.ptr q) C Q := ⟨xs, ys, h1, h2, ok, ok2, k⟩
theorem ix_l (h : isL C p xs) (e : atI xs i = some d) (k : Q d C) : ixD (.ptr p) (.int i) C Q := ⟨xs, d, h, e, k⟩
theorem set_l {j : Nat} {R : Cp → Prop} (h : C p = some (.lst xs)) (e : ixN xs.length i = some j) (k : R (up C p (.lst (xs.set j v)))) : setR (.ptr p) (.int i) v C R := ⟨p, _, rfl, .inl ⟨xs, i, j, h, rfl, e, rfl⟩, k⟩
theorem len_l (h : isL C p xs) (k : Q (.int (xs.length : Int)) C) : lenR [.ptr p] C Q := ⟨.ptr p, xs.length, rfl, ⟨xs, h, rfl⟩, k⟩
theorem len_t (k : Q (.int (xs.length : Int)) C) : lenR [.tup xs] C Q := ⟨.tup xs, xs.length, rfl, rfl, k⟩
theorem len_s {l : List Nat} (z : l.length ≤ sizeLine) (k : Q (.int (l.length : Int)) C) : lenR [.str l] C Q := ⟨.str l, l.length, rfl, ⟨z, rfl⟩, k⟩
theorem abs_ii {a : Int} : absR [.int a] C Q = Q (.int (if a < 0 then -a else a)) C := by
  unfold absR
  simp
theorem max_ii {a b : Int} : max2R [.int a, .int b] C Q = Q (.int (if b > a then b else a)) C := by
  unfold max2R
  refine propext ⟨?_, fun h => ⟨a, b, rfl, h⟩⟩
  rintro ⟨i, j, e, h⟩
  cases e
  exact h
theorem min_ii {a b : Int} : min2R [.int a, .int b] C Q = Q (.int (if b < a then b else a)) C := by
  unfold min2R
  refine propext ⟨?_, fun h => ⟨a, b, rfl, h⟩⟩
  rintro ⟨i, j, e, h⟩
  cases e
  exact h
theorem app_l (h : C p = some (.lst xs)) (z : xs.length < sizeLine) (k : Q .non (up C p (.lst (xs ++ [y])))) : appendR (.ptr p) [y] C Q := ⟨p, xs, y, rfl, rfl, h, z, k⟩
theorem tyL (h : isL C p xs) : tyD C "list" (.ptr p) := .inl ⟨rfl, xs, h⟩
theorem list_l (h : itemsD C d xs) (k : ∀ p, C p = none → Q (.ptr p) (up C p (.lst xs))) : listR [d] C Q := ⟨d, xs, rfl, h, k⟩
theorem tuple_l (h : itemsD C d xs) (k : Q (.tup xs) C) : tupleR [d] C Q := ⟨d, xs, rfl, h, k⟩
theorem sorted_l (h : collD C d xs) (o : SortOk xs) (k : ∀ p, C p = none → Q (.ptr p) (up C p (.lst (xs.mergeSort leP)))) : sortedR [d] C Q := ⟨d, xs, rfl, h, o, k⟩
theorem ex2 {α β : Type} {a : α} {b : β} {R : α → β → Prop} : (∃ v w, (a = v ∧ b = w) ∧ R v w) = R a b := propext ⟨fun ⟨_, _, ⟨e, f⟩, h⟩ => by subst e f; exact h, fun h => ⟨a, b, ⟨rfl, rfl⟩, h⟩⟩
theorem sl_l {lo hi : Option Int} (h : isL C p xs) (k : ∀ q, C q = none → Q (.ptr q) (up C q (.lst (cutL xs lo hi)))) : slD (.ptr p) lo hi C Q := ⟨xs, h, k⟩
theorem pop_l (h : C p = some (.lst xs)) (e : xs[xs.length - 1]? = some d) (k : Q d (up C p (.lst xs.dropLast))) : popR (.ptr p) [] C Q := ⟨p, xs, d, rfl, rfl, h, e, k⟩
theorem inR_l {n : Bool} (h : isL C p xs) (a : npt d = true) (b : okEqs xs) (k : Q (.bl (if n then !memD xs d else memD xs d)) C) : inR n d (.ptr p) C Q := ⟨xs, h, a, b, k⟩
theorem inR_t {n : Bool} : inR n d (.tup xs) C Q = (npt d = true ∧ okEqs xs ∧ Q (.bl (if n then !memD xs d else memD xs d)) C) := by
  cases d <;> rfl
/-- all but some places as it was -/
def Fr (S : Addr → Prop) (C C' : Cp) : Prop := ∀ r, ¬ S r → C' r = C r
theorem Fr.refl {S : Addr → Prop} (C : Cp) : Fr S C C := fun _ _ => rfl
theorem Fr.trans {S : Addr → Prop} {C C1 C2 : Cp} (a : Fr S C C1) (b : Fr S C1 C2) : Fr S C C2 := fun r h => (b r h).trans (a r h)
theorem Fr.up {S : Addr → Prop} {C C1 : Cp} {c : Cell} (a : Fr S C C1) (h : S p) : Fr S C (up C1 p c) := fun r hr => by
  rw [up_ne (fun e : r = p => hr (by rw [e]; exact h))]
  exact a r hr
theorem Fr.mono {S T : Addr → Prop} {C C1 : Cp} (a : Fr S C C1) (h : ∀ r, S r → T r) : Fr T C C1 := fun r hr => a r fun s => hr (h r s)
end
end KB
namespace KB
open PySem PySem.Spec PyProof.Rows
open L2 hiding op_eqD op_neD call_listD
section
variable {C C1 C2 : Cp} {Q : DQ} {p q r : Addr} {i : Int} {d v y : D} {xs ys : List D} {S T : Addr → Prop} {c : Cell}
/-- x[y] of a dict -/
def getX (x y : D) (C : Cp) (Q : DQ) : Prop := ∃ p d, x = .ptr p ∧ gotD C p y (some d) ∧ Q d C
theorem got_k {kvs : List (DKey × D)} {a : Addr} {k : DKey} {d : D} (h : C a = some (.dk kvs)) (e : lookA kvs k = some d) (z : Q d C) : getX (.ptr a) (keyD k) C Q := ⟨a, d, rfl, .inl ⟨kvs, k, h, rfl, e.symm⟩, z⟩
/-- all there is stays, but for some places; new things may stand beside -/
def Kp (S : Addr → Prop) (C C' : Cp) : Prop := ∀ r c, ¬ S r → C r = some c → C' r = some c
theorem Kp.refl (C : Cp) : Kp S C C := fun _ _ _ h => h
theorem Kp.trans (a : Kp S C C1) (b : Kp S C1 C2) : Kp S C C2 := fun r c h e => b r c h (a r c h e)
theorem Kp.new (a : Kp S C C1) (h : C1 p = none) : Kp S C (up C1 p c) := fun r c' hr e => by
  have e1 := a r c' hr e
  rw [up_ne (fun z : r = p => by subst z; rw [h] at e1; cases e1)]
  exact e1
theorem Kp.put (a : Kp S C C1) (h : S p) : Kp S C (up C1 p c) := fun r c' hr e => by
  rw [up_ne (fun z : r = p => hr (by rw [z]; exact h))]
  exact a r c' hr e
theorem Kp.mono (a : Kp S C C1) (h : ∀ r, S r → T r) : Kp T C C1 := fun r c hr e => a r c (fun s => hr (h r s)) e
theorem Kp.isL (a : Kp S C C1) (h : ¬ S p) (e : isL C p xs) : isL C1 p xs := e.elim (fun e => .inl (a _ _ h e)) fun e => .inr (a _ _ h e)
theorem ne_fresh (h : C p = some c) (z : C q = none) : q ≠ p := fun e => by
  subst e
  rw [h] at z
  cases z
theorem Fr.kp (a : Fr S C C1) : Kp S C C1 := fun r c h e => (a r h).trans e
theorem at_ne (h : C p = some c) {c' : Cell} (n : p ≠ r) : up C r c' p = some c := by rw [up_ne n]; exact h
theorem inKD {n : Bool} {kvs : List (DKey × D)} (h : C p = some (.dk kvs)) {k : DKey} (e : Q (.bl (if n then !(lookA kvs k).isSome else (lookA kvs k).isSome)) C) : inDR n (keyD k) (.ptr p) C Q := ⟨p, lookA kvs k, rfl, .inl ⟨kvs, k, h, rfl, rfl⟩, e⟩
theorem put_k {kvs : List (DKey × D)} {R : Cp → Prop} (h : C p = some (.dk kvs)) (k : DKey) (z : kvs.length < sizeLine) (e : R (up C p (.dk (putA kvs k v)))) : setR (.ptr p) (keyD k) v C R := ⟨p, _, rfl, .inr (.inl ⟨kvs, k, h, rfl, z, rfl⟩), e⟩
theorem put_g {kvs : List (D × D)} {R : Cp → Prop} (h : C p = some (.dg kvs)) (k : keyG y) (z : kvs.length < sizeLine) (e : R (up C p (.dg (putG kvs y v)))) : setR (.ptr p) y v C R := ⟨p, _, rfl, .inr (.inr (.inl ⟨kvs, h, k, z, rfl⟩)), e⟩
theorem rng_at {n i : Nat} {x : D} (e : (rngD 0 n)[i]? = some x) : i < n ∧ x = .int (i : Int) := by
  have hl : i < n := by
    have := (List.getElem?_eq_some_iff.mp e).1
    rw [rngD_len] at this
    exact this
  rw [rngD_get hl] at e
  have e := Option.some.inj e
  rw [Int.zero_add] at e
  exact ⟨hl, e.symm⟩
end
end KB
/-! KB15: facts of sorting; lists of texts. -/
namespace KB
open PySem PySem.Spec PyProof.Rows
open L2 hiding op_eqD op_neD call_listD
theorem leP_total : W.TotalLe leP := W.sortLe_total _ false _
theorem leP_anti {a b : D} (h1 : leP a b = true) (h2 : leP b a = true) : W.keyToks (toP a) = W.keyToks (toP b) := by
  have h1 : (!(PyProof.Rows.listOrd PyProof.Rows.itemOrd).blt (W.keyToks (toP b)) (W.keyToks (toP a))) = true := h1
  have h2 : (!(PyProof.Rows.listOrd PyProof.Rows.itemOrd).blt (W.keyToks (toP a)) (W.keyToks (toP b))) = true := h2
  rw [Bool.not_eq_true'] at h1 h2
  exact (PyProof.Rows.listOrd PyProof.Rows.itemOrd).total _ _ h2 h1
theorem sort_eq {xs ys : List D} (hp : xs.Perm ys) (inj : ∀ a ∈ xs, ∀ b ∈ xs, W.keyToks (toP a) = W.keyToks (toP b) → a = b) : xs.mergeSort leP = ys.mergeSort leP := by
  have tr : ∀ a b c, leP a b = true → leP b c = true → leP a c = true := leP_total.trans
  have to : ∀ a b, (leP a b || leP b a) = true := fun a b => by
    rcases leP_total.total a b with h | h <;> simp [h]
  refine List.Perm.eq_of_pairwise (le := fun a b => leP a b = true) (fun a b ha hb h1 h2 => ?_) (List.pairwise_mergeSort tr to xs) (List.pairwise_mergeSort tr to ys) ((List.mergeSort_perm xs leP).trans (hp.trans (List.mergeSort_perm ys leP).symm))
  exact inj a ((List.mergeSort_perm xs leP).mem_iff.mp ha) b (hp.mem_iff.mpr ((List.mergeSort_perm ys leP).mem_iff.mp hb)) (leP_anti h1 h2)
theorem perm_of {α : Type} : ∀ {xs ys : List α}, xs.Nodup → ys.Nodup → (∀ a, a ∈ xs ↔ a ∈ ys) → xs.Perm ys := by
  intro xs
  induction xs with
  | nil =>
    intro ys _ _ h
    cases ys with
    | nil => exact .nil
    | cons y r => exact absurd ((h y).mpr List.mem_cons_self) (by simp)
  | cons x r ih =>
    intro ys h1 h2 h
    obtain ⟨s, t, rfl⟩ := List.append_of_mem ((h x).mp List.mem_cons_self)
    have hn := List.nodup_cons.mp h1
    have h3 : (s ++ t).Nodup ∧ x ∉ s ++ t := by
      have := (List.perm_middle (a := x) (l₁ := s) (l₂ := t)).nodup_iff.mp h2
      exact ⟨(List.nodup_cons.mp this).2, (List.nodup_cons.mp this).1⟩
    refine .trans (.cons x (ih hn.2 h3.1 fun a => ?_)) List.perm_middle.symm
    constructor
    · intro ha
      have := (h a).mp (List.mem_cons_of_mem _ ha)
      rcases List.mem_append.mp this with q | q
      · exact List.mem_append_left _ q
      · rcases List.mem_cons.mp q with q | q
        · subst q; exact absurd ha hn.1
        · exact List.mem_append_right _ q
    · intro ha
      have : a ∈ x :: r := (h a).mpr (by
        rcases List.mem_append.mp ha with q | q
        · exact List.mem_append_left _ q
        · exact List.mem_append_right _ (List.mem_cons_of_mem _ q))
      rcases List.mem_cons.mp this with q | q
      · subst q; exact absurd ha h3.2
      · exact q
theorem strs_inj {xs : List (List Nat)} : ∀ a ∈ xs.map D.str, ∀ b ∈ xs.map D.str, W.keyToks (toP a) = W.keyToks (toP b) → a = b := by
  intro a ha b hb h
  obtain ⟨x, _, rfl⟩ := List.mem_map.mp ha
  obtain ⟨y, _, rfl⟩ := List.mem_map.mp hb
  simp only [toP, W.keyToks, List.cons.injEq, Sum.inr.injEq, and_true] at h
  rw [show x = y from h]
theorem nodup_len {α : Type} [DecidableEq α] : ∀ {xs ys : List α}, xs.Nodup → (∀ a ∈ xs, a ∈ ys) → xs.length ≤ ys.length := by
  intro xs
  induction xs with
  | nil => intro ys _ _; exact Nat.zero_le _
  | cons x r ih =>
    intro ys h1 h
    have hn := List.nodup_cons.mp h1
    have := ih (ys := ys.erase x) hn.2 fun a ha => (List.mem_erase_of_ne (fun e => hn.1 (by subst e; exact ha))).mpr (h a (List.mem_cons_of_mem _ ha))
    have h2 := List.length_erase_of_mem (h x List.mem_cons_self)
    have h3 : 0 < ys.length := List.length_pos_of_mem (h x List.mem_cons_self)
    rw [List.length_cons]
    omega
theorem sortOk_strs (xs : List (List Nat)) : SortOk (xs.map D.str) := by
  refine ⟨.inl ⟨fun a ha b hb => ?_, .inr fun d hd => ?_⟩, fun x hx => ?_⟩
  · obtain ⟨c, hc, rfl⟩ := List.mem_map.mp ha
    obtain ⟨e, he, rfl⟩ := List.mem_map.mp hb
    obtain ⟨x, _, rfl⟩ := List.mem_map.mp hc
    obtain ⟨y, _, rfl⟩ := List.mem_map.mp he
    rfl
  · obtain ⟨c, hc, rfl⟩ := List.mem_map.mp hd
    obtain ⟨x, _, rfl⟩ := List.mem_map.mp hc
    exact ⟨by simp [toP], fun xs => by simp [toP]⟩
  · obtain ⟨c, hc, rfl⟩ := List.mem_map.mp hx
    exact ⟨rfl, by unfold dep; omega⟩
theorem npts_strs (xs : List (List Nat)) : okEqs (xs.map D.str) := by
  induction xs with
  | nil => exact ⟨rfl, by decide⟩
  | cons x r ih =>
    obtain ⟨a, b⟩ := ih
    refine ⟨by rw [List.map_cons]; unfold npts npt; rw [a]; rfl, ?_⟩
    rw [List.map_cons]
    unfold deps dep
    omega
theorem memD_strs (xs : List (List Nat)) (x : List Nat) : memD (xs.map D.str) (.str x) = decide (x ∈ xs) := by
  unfold memD
  induction xs with
  | nil => simp
  | cons y r ih =>
    rw [List.map_cons, List.any_cons, ih]
    unfold eqD
    by_cases h : x = y
    · subst h; simp
    · have : (y == x) = false := by simpa using fun e : y = x => h e.symm
      rw [this]
      simp [h]
theorem any_map {α β : Type} (f : α → β) {xs : List β} {P : β → Prop} (hx : ∀ b ∈ xs, ∃ a, b = f a) : ∃ as : List α, xs = as.map f := by
  induction xs with
  | nil => exact ⟨[], rfl⟩
  | cons x r ih =>
    obtain ⟨a, rfl⟩ := hx x List.mem_cons_self
    obtain ⟨as, rfl⟩ := ih fun b hb => hx b (List.mem_cons_of_mem _ hb)
    exact ⟨a :: as, rfl⟩
/-! ### pairs of texts -/
abbrev Ed := List Nat × List Nat
def edD (e : Ed) : D := .tup [.str e.1, .str e.2]
theorem sortOk_eds (xs : List Ed) : SortOk (xs.map edD) := by
  refine ⟨.inl ⟨fun a ha b hb => ?_, .inl fun d hd => ?_⟩, fun x hx => ?_⟩
  · obtain ⟨c, hc, rfl⟩ := List.mem_map.mp ha
    obtain ⟨e, he, rfl⟩ := List.mem_map.mp hb
    obtain ⟨x, _, rfl⟩ := List.mem_map.mp hc
    obtain ⟨y, _, rfl⟩ := List.mem_map.mp he
    rfl
  · obtain ⟨c, hc, rfl⟩ := List.mem_map.mp hd
    obtain ⟨x, _, rfl⟩ := List.mem_map.mp hc
    exact ⟨_, rfl⟩
  · obtain ⟨c, hc, rfl⟩ := List.mem_map.mp hx
    exact ⟨rfl, by simp [edD, dep, deps]⟩
theorem keyG_ed (e : Ed) : keyG (edD e) := ⟨⟨_, rfl⟩, by simp [edD, nk, nks, NestedKey.depth, NestedKey.depthAll], rfl⟩
end KB
/-! KB16: from the def of the law to the head. -/
namespace KB
open PySem PySem.Spec PyProof.Rows
open L2 hiding op_eqD op_neD call_listD
end KB
/-! KB17: texts many times; strip; ranges as values. -/
namespace KB
open PySem PySem.Spec PyProof.Rows
open L2 hiding op_eqD op_neD call_listD
section
variable {X : Cx} {B : Bs} {pos : Pos}
def mulSD : D → D → Cp → DQ → Prop := fun x y C Q => ∃ (l : List Nat) (k : Int), x = .str l ∧ y = .int k ∧ -(2 ^ 62) ≤ k ∧ k < 2 ^ 62 ∧ l.length * k.toNat ≤ sizeLine ∧ Q (.str (List.replicate k.toNat l).flatten) C
theorem foldl_tl (x : Array Nat) : ∀ (n : Nat) (a : Array Nat), (List.foldl (· ++ ·) a (List.replicate n x)).toList = a.toList ++ (List.replicate n x.toList).flatten
  | 0, a => by simp
  | n + 1, a => by
    rw [List.replicate_succ, List.foldl_cons, foldl_tl x n, List.replicate_succ, List.flatten_cons, Array.toList_append, List.append_assoc]
theorem op_mulSD : OpD X B (binaryOp .Mult) mulSD := by
  intro pins s σ H x y v u Q I rx ry h
  obtain ⟨dx, dy, C, Qd, r1, r2, rl, ⟨l, k, ex, ey, h1, h2, h3, h⟩, kk⟩ := h
  subst ex ey
  cases r1; cases r2
  obtain ⟨t, rfl⟩ := rx
  obtain ⟨t', rfl⟩ := ry
  have fin : ∀ (z : Str) (tk : Tok) (n : Nat), z.cps.toList = (List.replicate k.toNat l).flatten → EP X pins σ Q (.str z tk) { s with toks := n } := fun z tk n e => by
    refine ⟨.str z, H, I.tok _, ⟨_, rfl⟩, kk _ (.str (List.replicate k.toNat l).flatten) H C (Stp.refl _ _) rl ?_ h⟩
    show V.str z = V.str _
    rw [← e]
  have hlen : (⟨l.toArray⟩ : Str).length = l.length := by simp [Str.length]
  refine P.mul_str (by rw [decide_eq_false (by omega), decide_eq_false (by omega)]; rfl) (fun a b => ?_) (fun a b => ?_) ?_
  · rw [hlen]
    have h4 : (l.length : Int) * k ≤ 2 ^ 63 - 1 := by
      have e1 : (k.toNat : Int) = k := Int.toNat_of_nonneg (by omega)
      have e2 : ((l.length * k.toNat : Nat) : Int) = (l.length : Int) * k := by rw [Int.natCast_mul, e1]
      rw [← e2]
      have := line63
      omega
    have := (Int.le_ediv_iff_mul_le (a := (l.length : Int)) (b := 2 ^ 63 - 1) (c := k) (by omega)).mpr h4
    omega
  · rw [hlen]
    unfold Builtin.Str.tooLong
    exact decide_eq_false (by omega)
  · by_cases a : k < 1
    · rw [if_pos a]
      refine ⟨by decide, fin _ _ _ ?_⟩
      have : k.toNat = 0 := by omega
      rw [this]; rfl
    · rw [if_neg a]
      by_cases b : (k == 1 || (⟨l.toArray⟩ : Str).length == 0) = true
      · rw [if_pos b]
        refine fin _ _ s.toks ?_
        rw [Bool.or_eq_true, beq_iff_eq, beq_iff_eq, hlen] at b
        rcases b with b | b
        · subst b
          simp
        · have : l = [] := List.length_eq_zero_iff.mp b
          subst this
          simp
      · rw [if_neg b]
        refine ⟨?_, fin _ _ _ (by rw [foldl_tl]; simp)⟩
        show (List.foldl (· ++ ·) #[] (List.replicate k.toNat l.toArray)).size ≤ sizeLine
        rw [← Array.length_toList, foldl_tl]
        simp
        rw [Nat.mul_comm]
        exact h3
/-! ### strip(z) -/
/-! ### range(a, b), k in it -/
end
end KB
/-! KB18: dict(list of pairs), dict(dict), len of a dict. -/
namespace KB
open PySem PySem.Spec PyProof.Rows
open L2 hiding op_eqD op_neD call_listD
section
variable {X : Cx} {B : Bs} {pos : Pos}
def prD (kv : DKey × D) : D := .tup [keyD kv.1, kv.2]
theorem prs_of {K : PySem.W.Frag} {H : Hp} : ∀ {kvs : List (DKey × D)} {vs : List V}, Reps K H (kvs.map prD) vs → ∃ (ps : List Addr) (ws : List (Key × V)), vs = ps.map V.ref ∧ Paired (fun p kv => SqT K H p [kV kv.1, kv.2]) ps ws ∧ RepK keyOf K H kvs ws
  | [], _, h => by cases h; exact ⟨[], [], rfl, .nil, .nil⟩
  | (k, d) :: r, _, h => by
    obtain ⟨v, vr, rfl, h1, t⟩ := h
    obtain ⟨a, us, rfl, hq, hr⟩ := h1
    obtain ⟨x, r2, rfl, hx, y, r3, rfl, hy, hn⟩ := hr
    cases hn
    obtain ⟨ps, ws, rfl, hp, hk⟩ := prs_of t
    have hx : x = kV (keyOf k) := by
      cases k with
      | inl i => exact hx
      | inr l => exact hx
    subst hx
    exact ⟨a :: ps, (keyOf k, y) :: ws, rfl, .cons hq hp, .cons ⟨rfl, hy⟩ hk⟩
def dictPR : List D → Cp → DQ → Prop := fun ds C Q => ∃ p kvs, ds = [.ptr p] ∧ isL C p (kvs.map prD) ∧ ∀ q, C q = none → Q (.ptr q) (up C q (.dk (mergeA [] kvs)))
theorem call_dictPD (hc : X.calm = true) : CallD X B (.type "dict") dictPR := by
  intro pins s σ H xs us Q I rx h
  obtain ⟨ds, C, Qd, r, rl, ⟨p, kvs, e, hl, h⟩, k⟩ := h
  subst e
  obtain ⟨v, r2, rfl, hv, hn⟩ := r
  cases hn; cases hv
  obtain ⟨vs, hq, hr⟩ := isL.sq rl hl
  obtain ⟨ps, ws, rfl, hp, hk⟩ := prs_of hr
  refine call_dictP hc pins s σ H _ us Q I rx ⟨p, ps, ws, rfl, hq, hp, fun l hn => ?_⟩
  have nf : ¬ Frz (H l) := by rw [hn]; exact id
  exact k _ _ _ (up C l (.dk (mergeA [] kvs))) (stp_put nf (.inr hn)) (rl.putNew hn ⟨_, upd_same, (repK_merge hk .nil).mono (tx_upd nf)⟩) (repP l) (h l (rl.fresh hn))
/-! len of a dict with int or text keys -/
end
end KB
namespace KB
open PySem PySem.Spec PyProof.Rows
open L2 hiding op_eqD op_neD call_listD
end KB
/-! KB19: list(d.items()). -/
namespace KB
open PySem PySem.Spec PyProof.Rows
open L2 hiding op_eqD op_neD call_listD
end KB
/-! KB20: more methods of texts. -/
namespace KB
open PySem PySem.Spec PyProof.Rows
open L2 hiding op_eqD op_neD call_listD
section
variable {X : Cx} {B : Bs} {pos : Pos}
def lowerL (l : List Nat) : List Nat := TL.tl (Txt.lower ⟨l.toArray⟩)
def upperL (l : List Nat) : List Nat := TL.tl (Txt.upper ⟨l.toArray⟩)
def startsL (l z : List Nat) : Bool := Txt.startswith ⟨l.toArray⟩ ⟨z.toArray⟩
def splitL (l z : List Nat) : List (List Nat) := (Txt.split ⟨l.toArray⟩ ⟨z.toArray⟩).map TL.tl
theorem tl_back (y : Str) : (⟨(TL.tl y).toArray⟩ : Str) = y := by
  show (⟨y.cps.toList.toArray⟩ : Str) = y
  rw [Array.toArray_toList]
def lowerR : D → List D → Cp → DQ → Prop := fun d ds C Q => ∃ l, d = .str l ∧ ds = [] ∧ l.length ≤ 5592405 ∧ Q (.str (lowerL l)) C
theorem mt_lowerD : MtD X B "str.lower" lowerR := by
  intro pins s σ H x xs v us Q I rx rs h
  obtain ⟨d, ds, C, Qd, r1, r2, rl, ⟨l, ed, eds, hz, h⟩, k⟩ := h
  subst ed eds
  cases r1; cases r2
  exact mt_lower pins s σ H _ _ v us Q I rx rs ⟨_, rfl, rfl, by simpa [Str.length] using hz, k _ (.str (lowerL l)) H C (Stp.refl _ _) rl (by show V.str _ = V.str _; unfold lowerL; rw [tl_back]) h⟩
def upperR : D → List D → Cp → DQ → Prop := fun d ds C Q => ∃ l, d = .str l ∧ ds = [] ∧ l.length ≤ 5592405 ∧ Q (.str (upperL l)) C
theorem mt_upperD : MtD X B "str.upper" upperR := by
  intro pins s σ H x xs v us Q I rx rs h
  obtain ⟨d, ds, C, Qd, r1, r2, rl, ⟨l, ed, eds, hz, h⟩, k⟩ := h
  subst ed eds
  cases r1; cases r2
  exact mt_upper pins s σ H _ _ v us Q I rx rs ⟨_, rfl, rfl, by simpa [Str.length] using hz, k _ (.str (upperL l)) H C (Stp.refl _ _) rl (by show V.str _ = V.str _; unfold upperL; rw [tl_back]) h⟩
def startsR : D → List D → Cp → DQ → Prop := fun d ds C Q => ∃ l z, d = .str l ∧ ds = [.str z] ∧ Q (.bl (startsL l z)) C
theorem mt_startsD : MtD X B "str.startswith" startsR := by
  intro pins s σ H x xs v us Q I rx rs h
  obtain ⟨d, ds, C, Qd, r1, r2, rl, ⟨l, z, ed, eds, h⟩, k⟩ := h
  subst ed eds
  cases r1
  obtain ⟨w, r3, rfl, hw, hn⟩ := r2
  cases hn; cases hw
  exact mt_startswith pins s σ H _ _ v us Q I rx rs ⟨_, _, rfl, rfl, k _ (.bl (startsL l z)) H C (Stp.refl _ _) rl rfl h⟩
theorem reps_strs {K : PySem.W.Frag} {H : Hp} : ∀ ys : List Str, Reps K H ((ys.map TL.tl).map D.str) (ys.map V.str)
  | [] => rfl
  | y :: r => .cons (by show V.str y = V.str _; rw [tl_back]) (reps_strs r)
def splitR : D → List D → Cp → DQ → Prop := fun d ds C Q => ∃ l z, d = .str l ∧ ds = [.str z] ∧ z ≠ [] ∧ l.length + 2 ≤ sizeLine ∧ ∀ p, C p = none → Q (.ptr p) (up C p (.lst ((splitL l z).map D.str)))
theorem mt_splitD : MtD X B "str.split" splitR := by
  intro pins s σ H x xs v us Q I rx rs h
  obtain ⟨d, ds, C, Qd, r1, r2, rl, ⟨l, z, ed, eds, hz, hl, h⟩, k⟩ := h
  subst ed eds
  cases r1
  obtain ⟨w, r3, rfl, hw, hn⟩ := r2
  cases hn; cases hw
  refine mt_split pins s σ H _ _ v us Q I rx rs ⟨_, _, rfl, rfl, ?_, by simpa [Str.length] using hl, ?_⟩
  · simp [Str.length]; exact hz
  · intro p hp
    obtain ⟨a1, a2⟩ := rl.newL hp (reps_strs (K := X.K) (H := H) (Txt.split ⟨l.toArray⟩ ⟨z.toArray⟩))
    exact k _ _ _ _ a1 a2 (repP p) (h p (rl.fresh hp))
theorem reps_rev {K : PySem.W.Frag} {H : Hp} : ∀ {ds : List D} {vs : List V}, Reps K H ds vs → Reps K H ds.reverse vs.reverse
  | [], _, h => by cases h; rfl
  | d :: ds, _, h => by
    obtain ⟨v, r, rfl, a, t⟩ := h
    rw [List.reverse_cons, List.reverse_cons]
    exact (reps_rev t).append (.cons a .nil)
def revR : D → List D → Cp → DQ → Prop := fun d ds C Q => ∃ p xs, d = .ptr p ∧ ds = [] ∧ C p = some (.lst xs) ∧ Q .non (up C p (.lst xs.reverse))
theorem mt_revD : MtD X B "list.reverse" revR := by
  intro pins s σ H x xs v us Q I rx rs h
  obtain ⟨d, ds, C, Qd, r1, r2, rl, ⟨p, ys, e1, e2, hc, h⟩, k⟩ := h
  subst e1 e2
  cases r1; cases r2
  obtain ⟨vs, hp, hr⟩ := rl.cells hc
  obtain ⟨a1, a2⟩ := rl.setL hc hp (reps_rev hr)
  exact mt_reverse pins s σ H _ _ v us Q I rx rs ⟨p, vs, rfl, rfl, hp, k _ _ _ _ a1 a2 repN h⟩
end
end KB
/-! KB21: set(xs) of texts, of ints, of tuples of any depth: what is gathered. -/
namespace KB
open PySem PySem.Spec PyProof.Rows
open L2 hiding op_eqD op_neD call_listD
/-- what is so of the set behind some of the keys -/
structure GotX (ks : List NestedKey) (i : Nat) (L : List Rw) (src : List Rw) : Prop where
  sub : ∀ p ∈ L, p ∈ src.take i
  all : ∀ p ∈ src.take i, p.2 ∈ L.map (·.2)
  len : L.length ≤ i
theorem takeS {α : Type} {l : List α} {i : Nat} {x : α} (h : l[i]? = some x) : l.take (i + 1) = l.take i ++ [x] := by
  rw [List.take_add_one, h]; rfl
theorem GotX.same {ks : List NestedKey} {src L : List Rw} {i : Nat} {x : Rw} (g : GotX ks i L src) (h : src[i]? = some x) (hm : x.2 ∈ L.map (·.2)) : GotX ks (i + 1) L src := by
  refine ⟨fun p hp => ?_, fun p hp => ?_, Nat.le_succ_of_le g.len⟩
  · rw [takeS h]; exact List.mem_append_left _ (g.sub p hp)
  · rw [takeS h] at hp
    rcases List.mem_append.mp hp with z | z
    · exact g.all p z
    · rw [List.mem_singleton.mp z]; exact hm
theorem GotX.more {ks : List NestedKey} {src L L' : List Rw} {i : Nat} {x : Rw} (g : GotX ks i L src) (h : src[i]? = some x) (pm : L'.Perm (x :: L)) : GotX ks (i + 1) L' src := by
  refine ⟨fun p hp => ?_, fun p hp => ?_, ?_⟩
  · rw [takeS h]
    rcases List.mem_cons.mp (pm.mem_iff.mp hp) with e | z
    · rw [e]; exact List.mem_append_right _ (List.mem_singleton.mpr rfl)
    · exact List.mem_append_left _ (g.sub p z)
  · rw [(pm.map (·.2)).mem_iff, List.map_cons]
    rw [takeS h] at hp
    rcases List.mem_append.mp hp with z | z
    · exact List.mem_cons_of_mem _ (g.all p z)
    · rw [List.mem_singleton.mp z]; exact List.mem_cons_self
  · rw [pm.length_eq, List.length_cons]
    exact Nat.succ_le_succ g.len
end KB
/-! KB22: set(xs) called. -/
namespace KB
open PySem PySem.Spec PyProof.Rows
open L2 hiding op_eqD op_neD call_listD
end KB
/-! KB23: adding an int or a text to a set, by the scan. -/
namespace KB
open PySem PySem.Spec PyProof.Rows
open L2 hiding op_eqD op_neD call_listD
end KB
/-! KB24: adding a tuple to a set, by the table. -/
namespace KB
open PySem PySem.Spec PyProof.Rows
open L2 hiding op_eqD op_neD call_listD
section
variable {P : Program} {w : World} {A : Around} {E : Value → Shared → Prop} {s : Shared}
/-! ### small questions asked of keys -/
/-- a row: a tuple, its key -/
structure IsTp (h : Heap) (p : Rw) : Prop where
  ref : ∃ x, p.1 = .ref x
  is : NestedIs h p.2 p.1
  dep : p.2.depth ≤ 8
end
end KB
/-! KB25: the table's search and adding, over tuples of any depth. -/
namespace KB
open PySem PySem.Spec PyProof.Rows
open L2 hiding op_eqD op_neD call_listD
end KB
/-! KB26: adding by the table. -/
namespace KB
open PySem PySem.Spec PyProof.Rows
open L2 hiding op_eqD op_neD call_listD
section
variable {P : Program} {w : World} {A : Around} {E : Value → Shared → Prop} {s : Shared} {a : Addr} {L : List Rw} {es : Array (Int × Value)} {ep : Nat} {t : SetTable}
theorem IsTp.keep {h h' : Heap} {p : Rw} (x : IsTp h p) (k : ∀ b o, h.get? b = some o → h'.get? b = some o) : IsTp h' p := ⟨x.ref, NestedIs.at (fun b ob vs n hb _ => k b ob hb) _ _ x.is, x.dep⟩
end
end KB
/-! KB27: set(xs), sorted(set) over data. -/
namespace KB
open PySem PySem.Spec PyProof.Rows
open L2 hiding op_eqD op_neD call_listD
section
variable {X : Cx} {B : Bs} {pins : List (Addr × Obj)} {σ : L2.St} {H : Hp} {s : Shared}
theorem RepR.len {K : PySem.W.Frag} {H : Hp} {ys : List D} {L : List Rw} (h : RepR K H ys L) : ys.length = L.length := Paired.length h
end
end KB
/-! KB28: sorted(set) over data. -/
namespace KB
open PySem PySem.Spec PyProof.Rows
open L2 hiding op_eqD op_neD call_listD
end KB
/-! KB29: instances of own classes over data. -/
namespace KB
open PySem PySem.Spec PyProof.Rows
open L2 hiding op_eqD op_neD call_listD
/-- the class of that name -/
structure ClsN (K : PySem.W.Frag) (n : Str) (C : Addr) : Prop where
  at_ : PySem.W.nsIn K mainGlobals n = some (some (.ref C))
  cls : Cls K C
def putFd (f : Str) (v : D) : Fs → Fs
  | [] => [(f, v)]
  | (g, x) :: r => if g = f then (g, v) :: r else (g, x) :: putFd f v r
def lookF (fs : Fs) (f : Str) : Option D := (fs.find? fun p => decide (p.1 = f)).map (·.2)
theorem repF_put {K : PySem.W.Frag} {H : Hp} {f : Str} {d : D} {v : V} (r : Rep K H d v) : ∀ {fs : Fs} {ws : List (Str × V)}, RepK id K H fs ws → RepK id K H (putFd f d fs) (putF f v ws) := by
  intro fs ws h
  unfold RepK at h ⊢
  induction h with
  | nil => exact .cons ⟨rfl, r⟩ .nil
  | @cons p q _ _ a t ih =>
    obtain ⟨g, x⟩ := p
    obtain ⟨g', y⟩ := q
    obtain ⟨e, a⟩ := a
    have e : g = g' := e
    subst e
    unfold putFd putF
    by_cases h : g = f
    · rw [if_pos h, if_pos h]
      exact .cons ⟨rfl, r⟩ t
    · rw [if_neg h, if_neg h]
      exact .cons ⟨rfl, a⟩ ih
theorem repF_look {K : PySem.W.Frag} {H : Hp} {f : Str} {d : D} : ∀ {fs : Fs} {ws : List (Str × V)}, RepK id K H fs ws → lookF fs f = some d → ∃ v, ws.lookup f = some v ∧ Rep K H d v := by
  intro fs ws h e
  unfold RepK at h
  induction h with
  | nil => cases e
  | @cons p q _ _ a t ih =>
    obtain ⟨g, x⟩ := p
    obtain ⟨g', y⟩ := q
    obtain ⟨e1, a⟩ := a
    have e1 : g = g' := e1
    subst e1
    unfold lookF at e ih
    by_cases h : g = f
    · rw [List.find?_cons_of_pos (by simpa using h)] at e
      cases e
      refine ⟨y, ?_, a⟩
      rw [h]
      simp [List.lookup]
    · rw [List.find?_cons_of_neg (by simpa using h)] at e
      obtain ⟨v, h1, h2⟩ := ih e
      refine ⟨v, ?_, h2⟩
      have : (f == g) = false := by simpa using fun z : f = g => h z.symm
      simp [List.lookup, this, h1]
theorem repF_none {K : PySem.W.Frag} {H : Hp} {f : Str} : ∀ {fs : Fs} {ws : List (Str × V)}, RepK id K H fs ws → lookF fs f = none → ws.lookup f = none := by
  intro fs ws h e
  unfold RepK at h
  induction h with
  | nil => rfl
  | @cons p q _ _ a t ih =>
    obtain ⟨g, x⟩ := p
    obtain ⟨g', y⟩ := q
    obtain ⟨e1, a⟩ := a
    have e1 : g = g' := e1
    subst e1
    unfold lookF at e ih
    by_cases h : g = f
    · rw [List.find?_cons_of_pos (by simpa using h)] at e
      cases e
    · rw [List.find?_cons_of_neg (by simpa using h)] at e
      have : (f == g) = false := by simpa using fun z : f = g => h z.symm
      simp [List.lookup, this, ih e]
section
variable {X : Cx} {B : Bs} {pos : Pos} {a b c tg e o : Expr} {ta tb tc to ty tv : DE} {rest es : List Expr} {tr : DA} {n : Str} {C : Addr}
/-- an instance there -/
theorem ins_at {K : PySem.W.Frag} {H : Hp} {Cs : Cp} (c : ClsN K n C) (rl : Rl K B H Cs) {p : Addr} {fs : Fs} (h : Cs p = some (.ins n fs)) : ∃ dx ws, H p = some (.ins C dx ws) ∧ RepK id K H fs ws := by
  obtain ⟨C', dx, ws, e1, e2, e3⟩ := rl.ok _ _ h
  rw [c.at_] at e1
  cases e1
  exact ⟨dx, ws, e2, e3⟩
def dFld (n f : Str) (to : DE) : DE := fun s C Q => to s C fun x C1 => ∃ p fs v, x = .ptr p ∧ C1 p = some (.ins n fs) ∧ lookF fs f = some v ∧ Q v C1
theorem j_fld {f : Str} (c : ClsN X.K n C) (na : NoAttr X.K C f) (he : JE X B e to) (hb : attributeBase e f X.env (eval e X.env) = eval e X.env := by rfl) : JE X B (.Attribute e f pos) (dFld n f to) := PE.imp (pe_fld he hb) fun σ H Q h => by
  obtain ⟨sl, Cs, Qd, rs, rl, h, k⟩ := h
  refine ⟨sl, Cs, _, rs, rl, h, fun v d H1 C1 st1 rl1 r q => ?_⟩
  obtain ⟨p, fs, w, e, hp, hl, q⟩ := q
  subst e
  cases r
  obtain ⟨dx, ws, e2, e3⟩ := ins_at c rl1 hp
  obtain ⟨v, h1, h2⟩ := repF_look e3 hl
  exact ⟨p, C, dx, ws, v, rfl, e2, c.cls, na, h1, k v w H1 C1 st1 rl1 h2 q⟩
def dSetF (n f : Str) (to tv : DE) : DS := fun D s C => tv s C fun y C1 => to s C1 fun x C2 => ∃ p fs, x = .ptr p ∧ C2 p = some (.ins n fs) ∧ fs.length < 1000 ∧ D.nx s (up C2 p (.ins n (putFd f y fs)))
theorem repF_len {α β : Type} {f : α → β} {K : PySem.W.Frag} {H : Hp} {l : List (α × D)} {m : List (β × V)} (h : RepK f K H l m) : l.length = m.length := Paired.length h
theorem js_fset {f : Str} {pos' : Pos} {value : Expr} (c : ClsN X.K n C) (na : NoAttr X.K C f) (ho : JE X B o to) (hv : JE X B value tv) (hs : swapsWith value (some (.Attribute o f pos')) pos.line X.env = pure false := by rfl) : JS X B (.Assign [.Attribute o f pos'] value pos) (dSetF n f to tv) := PS.imp (ps_fld ho hv hs) fun D σ H h => by
  obtain ⟨sl, Cs, Dd, rs, rl, h, k⟩ := h
  refine ⟨sl, Cs, _, rs, rl, h, fun y dy H1 C1 st1 rl1 ry q => ⟨sl, C1, _, rs.mono st1.tx, rl1, q, fun x dx0 H2 C2 st2 rl2 rx q => ?_⟩⟩
  obtain ⟨p, fs, e, hp, hl, q⟩ := q
  subst e
  cases rx
  obtain ⟨dx, ws, e2, e3⟩ := ins_at c rl2 hp
  have nf : ¬ Frz (H2 p) := by rw [e2]; exact id
  have hn : C2 p ≠ none := by rw [hp]; exact fun z => nomatch z
  have tx := tx_upd (o := .ins C dx (putF f y ws)) nf
  refine ⟨p, C, dx, ws, rfl, e2, c.cls, na, by rw [← repF_len e3]; exact hl, ?_⟩
  have st3 := stp_put (o := .ins C dx (putF f y ws)) (c := .ins n (putFd f dy fs)) nf (.inl hn)
  exact k.nx σ sl _ _ ((st1.trans st2).trans st3) (rl2.put nf (.inl hn) ⟨C, dx, _, c.at_, upd_same, (repF_put (ry.mono st2.tx) e3).mono tx⟩) (rs.mono ((st1.trans st2).trans st3).tx) q
/-- C(..): a new instance, then __init__ -/
def dMake (n : Str) (F : DSp) (dd : List D) (t : DA) : DE := fun s C Q => t s C fun ds C1 => ∀ p, C1 p = none → F (.ptr p :: (ds ++ dd)) (up C1 p (.ins n [])) (fun v C2 => v = .non ∧ Q (.ptr p) C2) fun _ _ => False
theorem make_lift {m : Nat} {F : DSp} {dd : List D} {dvs : List V} {σ : L2.St} {H : Hp} {Q : VK} (c : ClsN X.K n C) (hd : ∀ H, Reps X.K H dd dvs) (hl : ∀ ds C Q E, F ds C Q E → ds.length = m) (h : lE X.K B (dMake n F dd tr) σ H Q) : tMake C (lSp B.P B.w X.K m F) dvs E0 (lA X.K B tr) σ H Q := by
  obtain ⟨sl, Cs, Qd, rs, rl, h, k⟩ := h
  refine ⟨sl, Cs, _, rs, rl, h, fun vs ds H1 C1 st1 rl1 r q x dx hx hdx ne => ?_⟩
  have q := q x (rl1.fresh hx)
  have h1 : upd H1 dx (.own x) x = none := by rw [upd_ne (Ne.symm ne)]; exact hx
  have rlm := rl1.more (o := .own x) hdx
  have rl2 : Rl X.K B (upd (upd H1 dx (.own x)) x (.ins C dx [])) (up C1 x (.ins n [])) := rlm.putNew h1 ⟨C, dx, [], c.at_, upd_same, .nil⟩
  have st2 : Stp H1 C1 (upd (upd H1 dx (.own x)) x (.ins C dx [])) (up C1 x (.ins n [])) := (stp_more hdx).trans (stp_put (by rw [h1]; exact id) (.inr h1))
  have r2 := (r.append (hd H1)).mono st2.tx
  have r3 : Reps X.K (upd (upd H1 dx (.own x)) x (.ins C dx [])) (.ptr x :: (ds ++ dd)) (.ref x :: (vs ++ dvs)) := ⟨_, _, rfl, rfl, r2⟩
  refine ⟨by rw [← r3.length]; exact hl _ _ _ _ q, _, _, _, r3, ⟨rl2.ok, rl2.ti⟩, q, fun v d H' C' st ok rv q => ?_⟩
  obtain ⟨e, q⟩ := q
  subst e
  cases rv
  exact ⟨rfl, k _ (.ptr x) H' C' ((st1.trans st2).trans st) ⟨(rl2.st).trans st, ok.1, ok.2⟩ rfl q⟩
theorem j_make {k m : Nat} {f : Addr} {fd : FuncData} {ps : List Str} {F : DSp} {ds : List Value} {x : Str} {p : Pos} (dd : List D) {dvs : List V} (c : ClsN X.K n C) (M : Mk X.K C f) (G : FnG X.prog X.w X.K X.mg X.base CX0 k f fd ps (lSp B.P B.w X.K m F)) (hr : RoomG (k + 1) X.A) (hm : X.mg x = some (.ref C)) (hb : Binds X.K fd ps ds)
    (hl : ∀ ds C Q E, F ds C Q E → ds.length = m) (hd : Vals dvs ds) (hdd : ∀ H, Reps X.K H dd dvs) (ha : JA X B (e :: es) tr) (hg : Gl X x := by rfl) (hdb : (x == ("__debug__" : Str)) = false := by decide)
    (he : starEach (e :: es) X.env = (false, eval e X.env) :: starEach es X.env := by rfl) (hpl : (backTo pos (starEach es X.env)).any (·.1) = false := by rfl) : JE X B (.Call (.Name x p) (e :: es) [] pos) (dMake n F dd tr) :=
  PE.imp (makeG M G hr.gd hr.toRoom hg hm hb hd pass0 ha hdb he hpl) fun _ _ _ h => make_lift c hdd hl h
/-- o.m(..) of an instance -/
def dMeth (n m : Str) (F : DSp) (dd : List D) (to : DE) (t : DA) : DE := fun s C Q => to s C fun x C1 => ∃ p fs, x = .ptr p ∧ C1 p = some (.ins n fs) ∧ lookF fs m = none ∧ t s C1 fun ds C2 => F (x :: (ds ++ dd)) C2 Q fun _ _ => False
theorem meth_lift {m : Str} {nn : Nat} {F : DSp} {dd : List D} {dvs : List V} {σ : L2.St} {H : Hp} {Q : VK} (c : ClsN X.K n C) (hd : ∀ H, Reps X.K H dd dvs) (hl : ∀ ds C Q E, F ds C Q E → ds.length = nn) (h : lE X.K B (dMeth n m F dd to tr) σ H Q) : tMeth C m (lSp B.P B.w X.K nn F) dvs E0 (lE X.K B to) (lA X.K B tr) σ H Q := by
  obtain ⟨sl, Cs, Qd, rs, rl, h, k⟩ := h
  refine ⟨sl, Cs, _, rs, rl, h, fun x d H1 C1 st1 rl1 r q => ?_⟩
  obtain ⟨p, fs, e, hp, hl0, q⟩ := q
  subst e
  cases r
  obtain ⟨dx, ws, e2, e3⟩ := ins_at c rl1 hp
  refine ⟨p, dx, ws, rfl, e2, repF_none e3 hl0, sl, C1, _, rs.mono st1.tx, rl1, q, fun vs ds H2 C2 st2 rl2 r2 q => ?_⟩
  have r3 : Reps X.K H2 (.ptr p :: (ds ++ dd)) (.ref p :: (vs ++ dvs)) := ⟨_, _, rfl, rfl, r2.append (hd H2)⟩
  exact ⟨by rw [← r3.length]; exact hl _ _ _ _ q, _, C2, Qd, r3, ⟨rl2.ok, rl2.ti⟩, q, fun v d H' C' st ok r q => k v d H' C' ((st1.trans st2).trans st) ⟨rl2.st.trans st, ok.1, ok.2⟩ r q⟩
theorem j_meth {k nn : Nat} {f : Addr} {fd : FuncData} {ps : List Str} {F : DSp} {ds : List Value} {m : Str} {apos : Pos} {pl : Sem Bool} (dd : List D) {dvs : List V} (c : ClsN X.K n C) (hm : Meth X.K C m f) (G : FnG X.prog X.w X.K X.mg X.base CX0 k f fd ps (lSp B.P B.w X.K nn F)) (hr : RoomG k X.A) (hb : Binds X.K fd ps ds)
    (hl : ∀ ds C Q E, F ds C Q E → ds.length = nn) (hd : Vals dvs ds) (hdd : ∀ H, Reps X.K H dd dvs) (ho : JE X B o to) (ha : JA X B (e :: es) tr)
    (hst : starEach (e :: es) X.env = (false, eval e X.env) :: starEach es X.env := by rfl) (hpl : (backTo pos (starEach es X.env)).any (·.1) = false := by rfl)
    (ht : eval (.Call (.Attribute o m apos) (e :: es) [] pos) X.env = (do
      let ov ← eval o X.env
      standAt apos.atName
      let (f, first) ← holding [ov] (getMethod ov m pl)
      callWith pos f first (backTo pos (starEach (e :: es) X.env)) (backToKw pos (keywordEach [] X.env))) := by rfl) : JE X B (.Call (.Attribute o m apos) (e :: es) [] pos) (dMeth n m F dd to tr) :=
  PE.imp (methG ho c.cls hm G hr.gd hr.toRoom hb hd pass0 ha hst hpl ht) fun _ _ _ h => meth_lift c hdd hl h
end
end KB
/-! KB30: list(zip(xs, ys)). -/
namespace KB
open PySem PySem.Spec PyProof.Rows
open L2 hiding op_eqD op_neD call_listD
end KB
/-! KB31: list(zip(xs, ys)) over data. -/
namespace KB
open PySem PySem.Spec PyProof.Rows
open L2 hiding op_eqD op_neD call_listD
end KB
/-! KB32: powers of any base. -/
namespace KB
open PySem PySem.Spec PyProof.Rows
open L2 hiding op_eqD op_neD call_listD
def PowOk (a b : Int) : Prop := 0 ≤ b ∧ (Builtin.Int.intBits a : Int) * b ≤ 2 ^ 27
instance (a b : Int) : Decidable (PowOk a b) := inferInstanceAs (Decidable (_ ∧ _))
def powE : D → D → Cp → DQ → Prop
  | .int a, .int b, C, Q => PowOk a b ∧ Q (.int (a ^ b.toNat)) C
  | _, _, _, _ => False
section
variable {X : Cx} {B : Bs}
theorem op_powW : OpR X (binaryOp .Pow) (rI PowOk fun i j => .int (i ^ j.toNat)) := opI fun _ _ _ _ _ _ _ hc q => pow_int hc.1 hc.2 q
theorem op_powE : OpD X B (binaryOp .Pow) powE := by
  intro pins s σ H x y v u Q I rx ry h
  obtain ⟨dx, dy, C, Qd, r1, r2, rl, h, k⟩ := h
  cases dx with
  | int a =>
    cases dy with
    | int b =>
      cases r1; cases r2
      exact opI_D (g' := fun i j => .int (i ^ j.toNat)) op_powW (fun _ _ _ _ => rfl) I rx ry rl h.1 h.2 k
    | _ => exact False.elim h
  | _ => exact False.elim h
end
end KB
/-! KR: repr of a tuple of plain things. -/
namespace KB
open PySem PySem.Spec PyProof.Rows SeqAt
open L2 hiding op_eqD op_neD
end KB
/-! KF: f-strings over data. -/
namespace KB
open PySem PySem.Spec PyProof.Rows
open L2 hiding op_eqD op_neD
variable {X : Cx} {B : Bs} {e : Expr} {es : List Expr} {te : DE} {ts : List DE} {pos : Pos}
/-- an int's digits -/
def itoD (i : Int) : List Nat := (Str.ofString (toString i)).cps.toList
end KB
/-! KO: str of ints, texts, instances with their own __str__; == of instances with their own __eq__. -/
namespace PySem.W
open PySem PySem.Spec PySem.Calls PyProof.Rows
end PySem.W
namespace KB
open PySem PySem.Spec PyProof.Rows
open L2 hiding op_eqD op_neD call_listD
section
variable {X : Cx} {B : Bs} {n m : Str} {C f : Addr} {fd : FuncData} {ps : List Str} {k : Nat} {F : DSp}
/-- str of a text, of an int -/
def strR : List D → Cp → DQ → Prop := fun ds C Q => (∃ l, ds = [.str l] ∧ Q (.str l) C) ∨ ∃ i : Int, ds = [.int i] ∧ i.natAbs.log2 < 1920 ∧ Q (.str (itoD i)) C
theorem call_strD : CallD X B (.type "str") strR := by
  intro pins s σ H xs us Q I rx h
  obtain ⟨ds, C, Qd, r, rl, h, k⟩ := h
  rcases h with ⟨l, e, h⟩ | ⟨i, e, hz, h⟩
  · subst e
    obtain ⟨v, r2, rfl, hv, hn⟩ := r
    cases hn; cases hv
    exact SkE.call_str_str pins s σ H _ us Q I rx ⟨_, rfl, k _ (.str l) H C (Stp.refl _ _) rl rfl h⟩
  · subst e
    obtain ⟨v, r2, rfl, hv, hn⟩ := r
    cases hn; cases hv
    exact call_str_int pins s σ H _ us Q I rx ⟨i, rfl, hz, k _ (.str (itoD i)) H C (Stp.refl _ _) rl (by unfold itoD; rfl) h⟩
/-- the def is called from a builtin -/
theorem FnG.at {X : Cx} {X0 : CXT} {k : Nat} {f : Addr} {fd : FuncData} {ps : List Str} {sp : Sp} {A : Around} {pins : List (Addr × Obj)} {σ : L2.St} {H : Hp} {s : Shared} {E : XK} {Q : VK} {us : List Value} {vs : List V} (F : FnG X.prog X.w X.K X.mg X.base X0 k f fd ps sp) (g : A.guards = some []) (hr : Room k A) (e0 : Env0 X.prog X.w X.K X.mg X.base A X.stack s H) (hb : Binds X.K fd ps []) (hx : Passes X0 X E)
    (I : Inv X pins σ H s) (r : Vals vs us) (h : sp vs H Q E) : wpAny (model X.prog X.w) A (call (.ref f) us) (EP X pins σ Q) X.xe s := by
  have n1 : us.length = ps.length := r.length.symm.trans (F.len _ _ _ _ h)
  have b := hb s us I.kIn (by simpa using n1)
  rw [List.append_nil] at b
  refine wpAny_call (codeAny_mono (F.go A X.stack s H ⟨us, []⟩ us vs Q E g hr e0 b r h) fun res s' hq => ?_)
  match res, hq with
  | .error e, hq => exact hx pins σ H s e s' I hq
  | .ok (.ret u), hq => exact I.after hq
  | .ok .next, hq => exact False.elim hq
  | .ok .brk, hq => exact False.elim hq
  | .ok .cont, hq => exact False.elim hq
end
end KB
/-! KSm: sum(lists, []). -/
namespace KB
open PySem PySem.Spec PyProof.Rows PySem.Calls
end KB
/-! KX: xs.extend(a tuple). -/
namespace KB
open PySem
open PySem.Spec PyProof.Rows
open L2 hiding op_eqD op_neD call_listD
end KB
/-! KD: walking over a dict's keys; the dict is marked while it is walked. -/
namespace KB
open PySem PySem.Spec PyProof.Rows
open L2 hiding op_eqD op_neD call_listD
section
variable {X : Cx} {B : Bs} {pins : List (Addr × Obj)} {σ : L2.St} {H : Hp} {s : Shared} {C : Cp} {p : Addr}
theorem dg_ok {P : Program} {w : World} {h : Heap} {xs : List (NestedKey × Addr × Value)} (a : ∃ o es ep, h.get? p = some o ∧ o.ExactDict ∧ o.data = .dict es ep ∧ es.toList = xs.map (entryOfKey (nestedKind P w)) ∧ (xs.map (·.1)).Nodup ∧ xs.length ≤ sizeLine ∧ (p == sysModules) = false) : ObjOk P w H h p (DgObj P w p xs) :=
  ext_ok a (let ⟨o, _, _, e, _⟩ := a; ⟨o, e⟩) fun h1 h2 ⟨o, es, ep, e, r⟩ k => ⟨o, es, ep, k o e, r⟩
/-- it is taken off -/
theorem unlock_g {kvs : List (D × D)} {as : List Addr} {ep : Nat} (hP : B.P = X.prog ∧ B.w = X.w) (I : Inv X pins σ H s) (rl : Rl X.K B H C) (h : C p = some (.lg kvs as ep)) : ∃ H', Inv X pins σ H' s ∧ Stp H C H' (up C p (.dg kvs)) ∧ Rl X.K B H' (up C p (.dg kvs)) := by
  obtain ⟨xs, q, _, r, g⟩ := rl.ok _ _ h
  rw [hP.1, hP.2] at q
  obtain ⟨⟨o, es, e, r2⟩, _⟩ := I.hok p _ q
  have nf : ¬ Frz (H p) := by rw [q]; exact id
  have hn : C p ≠ none := by rw [h]; exact fun z => nomatch z
  refine ⟨upd H p (DgObj X.prog X.w p xs), relabel I q trivial ⟨o, e⟩ (dg_ok ⟨o, es, ep, e, r2⟩), stp_put nf (.inl hn), rl.put nf (.inl hn) ⟨xs, ?_, r.mono (tx_upd nf), g⟩⟩
  rw [hP.1, hP.2]; exact upd_same
theorem unlock_k {kvs : List (DKey × D)} {ep : Nat} (hP : B.P = X.prog ∧ B.w = X.w) (I : Inv X pins σ H s) (rl : Rl X.K B H C) (h : C p = some (.lk kvs ep)) : ∃ H', Inv X pins σ H' s ∧ Stp H C H' (up C p (.dk kvs)) ∧ Rl X.K B H' (up C p (.dk kvs)) := by
  obtain ⟨ws, q, r⟩ := rl.ok _ _ h
  rw [hP.1, hP.2] at q
  obtain ⟨⟨z, hs, vs, kv, o, es, e, r2⟩, _⟩ := I.hok p _ q
  have nf : ¬ Frz (H p) := by rw [q]; exact id
  have hn : C p ≠ none := by rw [h]; exact fun z => nomatch z
  exact ⟨upd H p (.dK ws), relabel I q trivial ⟨o, e⟩ ⟨z, hs, vs, kv, o, es, ep, e, r2⟩, stp_put nf (.inl hn), rl.put nf (.inl hn) ⟨ws, upd_same, r.mono (tx_upd nf)⟩⟩
inductive UnlR : Cp → Cp → Prop
  | refl {C : Cp} : UnlR C C
  | k {C C2 : Cp} {p : Addr} {kvs : List (DKey × D)} {ep : Nat} : C p = some (.lk kvs ep) → UnlR (up C p (.dk kvs)) C2 → UnlR C C2
  | g {C C2 : Cp} {p : Addr} {kvs : List (D × D)} {as : List Addr} {ep : Nat} : C p = some (.lg kvs as ep) → UnlR (up C p (.dg kvs)) C2 → UnlR C C2
theorem UnlR.go {C2 : Cp} (hP : B.P = X.prog ∧ B.w = X.w) (u : UnlR C C2) : ∀ {H : Hp}, Inv X pins σ H s → Rl X.K B H C → ∃ H2, Inv X pins σ H2 s ∧ Stp H C H2 C2 ∧ Rl X.K B H2 C2 := by
  induction u with
  | refl => exact fun {H} I rl => ⟨H, I, Stp.refl _ _, rl⟩
  | k h _ ih =>
    intro H I rl
    obtain ⟨H1, I1, s1, r1⟩ := unlock_k hP I rl h
    obtain ⟨H2, I2, s2, r2⟩ := ih I1 r1
    exact ⟨H2, I2, s1.trans s2, r2⟩
  | g h _ ih =>
    intro H I rl
    obtain ⟨H1, I1, s1, r1⟩ := unlock_g hP I rl h
    obtain ⟨H2, I2, s2, r2⟩ := ih I1 r1
    exact ⟨H2, I2, s1.trans s2, r2⟩
end
/-! ### the walk -/
end KB
namespace KB
open PySem PySem.Spec PyProof.Rows
open L2 hiding op_eqD op_neD call_listD
end KB
/-! KK: the module's own tuples and dicts with text keys. -/
namespace KB
open PySem PySem.Spec PyProof.Rows
open L2 hiding op_eqD op_neD call_listD
/-- a tuple of the written part -/
def KTu (K : PySem.W.Frag) (a : Addr) (vs : List V) : Prop := ∃ (o : Obj) (its : Array Value) (n : Nat), K.lookup a = some o ∧ o.cls = .type "tuple" ∧ o.data = .seq its n ∧ its.size ≤ sizeLine ∧ Vals vs its.toList
mutual
def RepC (K : PySem.W.Frag) : D → V → Prop
  | .non, v => v = .non
  | .bl b, v => v = .bl b
  | .int i, v => v = .int i
  | .str l, v => v = .str ⟨l.toArray⟩
  | .ptr _, _ => False
  | .ty _, _ => False
  | .fn n, v => ∃ a, v = .ref a ∧ PySem.W.nsIn K mainGlobals n = some (some (.ref a))
  | .tup ds, v => ∃ a vs, v = .ref a ∧ KTu K a vs ∧ RepCs K ds vs
def RepCs (K : PySem.W.Frag) : List D → List V → Prop
  | [], vs => vs = []
  | d :: ds, vs => ∃ v r, vs = v :: r ∧ RepC K d v ∧ RepCs K ds r
end
mutual
theorem RepC.rep {K : PySem.W.Frag} {H : Hp} : ∀ {d : D} {v : V}, RepC K d v → Rep K H d v
  | .non, _, h => h
  | .bl _, _, h => h
  | .int _, _, h => h
  | .str _, _, h => h
  | .ptr _, _, h => h.elim
  | .ty _, _, h => h.elim
  | .fn _, _, h => h
  | .tup _, _, h => by
    obtain ⟨a, vs, e, k, r⟩ := h
    exact ⟨a, vs, e, .inr k, RepCs.reps r⟩
theorem RepCs.reps {K : PySem.W.Frag} {H : Hp} : ∀ {ds : List D} {vs : List V}, RepCs K ds vs → Reps K H ds vs
  | [], _, h => h
  | _ :: _, _, h => by
    obtain ⟨v, r, e, a, t⟩ := h
    exact ⟨v, r, e, RepC.rep a, RepCs.reps t⟩
end
/-- a value of the written part -/
def ValC (K : PySem.W.Frag) (d : D) (u : Value) : Prop := ∃ v, RepC K d v ∧ RelV v u
inductive ValCs (K : PySem.W.Frag) : List D → List Value → Prop
  | nil : ValCs K [] []
  | cons {d : D} {u : Value} {ds : List D} {us : List Value} : ValC K d u → ValCs K ds us → ValCs K (d :: ds) (u :: us)
theorem ValCs.out {K : PySem.W.Frag} {ds : List D} {us : List Value} (h : ValCs K ds us) : ∃ vs, RepCs K ds vs ∧ Vals vs us := by
  induction h with
  | nil => exact ⟨[], rfl, .nil⟩
  | cons a _ ih =>
    obtain ⟨v, r1, r2⟩ := a
    obtain ⟨vs, q1, q2⟩ := ih
    exact ⟨v :: vs, ⟨v, vs, rfl, r1, q1⟩, .cons r2 q2⟩
theorem keyc_is {x : Str} {t : Tok} {l : List Nat} (h : x = ⟨l.toArray⟩ := by decide +kernel) : ∃ t', Value.str x t = .str ⟨l.toArray⟩ t' := ⟨t, by rw [h]⟩
theorem vc_fn {K : PySem.W.Frag} {n : Str} {a : Addr} (h : PySem.W.nsIn K mainGlobals n = some (some (.ref a))) : ValC K (.fn n) (.ref a) := ⟨.ref a, ⟨a, rfl, h⟩, rfl⟩
/-- a dict of the written part -/
structure KTab (K : PySem.W.Frag) (w : World) (d : Addr) (tbl : List (List Nat × D)) : Prop where
  ex : ∃ es n, KDict K w d es n ∧ Paired (fun (e : DictEntry) (kv : List Nat × D) => (∃ t, e.key = .str ⟨kv.1.toArray⟩ t) ∧ ValC K kv.2 e.val) es.toList tbl
def lookK (tbl : List (List Nat × D)) (l : List Nat) : Option D := (tbl.find? fun kv => decide (kv.1 = l)).map (·.2)
theorem ktab_find {K : PySem.W.Frag} {es : List DictEntry} {tbl : List (List Nat × D)} (h : Paired (fun (e : DictEntry) (kv : List Nat × D) => (∃ t, e.key = .str ⟨kv.1.toArray⟩ t) ∧ ValC K kv.2 e.val) es tbl) (l : List Nat) :
    match lookK tbl l with | none => (es.find? fun e => Value.isStrOf ⟨l.toArray⟩ e.key) = none | some d => ∃ e, (es.find? fun e => Value.isStrOf ⟨l.toArray⟩ e.key) = some e ∧ ValC K d e.val := by
  induction h with
  | nil => rfl
  | @cons e kv es tbl r t ih =>
    obtain ⟨⟨tk, ek⟩, vc⟩ := r
    have hk : Value.isStrOf ⟨l.toArray⟩ e.key = decide (kv.1 = l) := by
      rw [ek]
      show ((⟨kv.1.toArray⟩ : Str) == ⟨l.toArray⟩) = _
      rw [sarr_eq]
      by_cases h : kv.1 = l <;> simp [h]
    unfold lookK at ih ⊢
    rw [List.find?_cons, List.find?_cons, hk]
    by_cases h : kv.1 = l
    · simp only [h, decide_true, Option.map_some]
      exact ⟨e, rfl, vc⟩
    · simp only [h, decide_false]
      exact ih
section
variable {X : Cx} {B : Bs} {pos apos p : Pos} {e f o : Expr} {es : List Expr} {te tf : DE} {tr : DA} {d : Addr} {tbl : List (List Nat × D)} {x name : Str}
theorem ktab_map {s : Shared} {pins : List (Addr × Obj)} {σ : L2.St} {H : Hp} (T : KTab X.K X.w d tbl) (I : Inv X pins σ H s) : ∃ g : Str → Option Value, (d == sysModules) = false ∧ s.heap.MapOf (strKind X.prog X.w) d g ∧ ∀ l : List Nat, match lookK tbl l with | none => g ⟨l.toArray⟩ = none | some z => ∃ u, g ⟨l.toArray⟩ = some u ∧ ValC X.K z u := by
  obtain ⟨es, n, D, P⟩ := T.ex
  refine ⟨_, D.low, PySem.W.mapOf_K (prog := X.prog) I.kIn D.at_ D.lit, fun l => ?_⟩
  have := ktab_find P l
  cases e : lookK tbl l with
  | none =>
    rw [e] at this
    show findBy Value.isStrOf es _ = none
    unfold findBy
    obtain ⟨L⟩ := es
    rw [List.find?_toArray]
    have this : (L.find? fun e => Value.isStrOf ⟨l.toArray⟩ e.key) = none := this
    rw [this]; rfl
  | some z =>
    rw [e] at this
    obtain ⟨en, h1, h2⟩ := this
    refine ⟨en.val, ?_, h2⟩
    show findBy Value.isStrOf es _ = _
    unfold findBy
    obtain ⟨L⟩ := es
    rw [List.find?_toArray]
    have h1 : (L.find? fun e => Value.isStrOf ⟨l.toArray⟩ e.key) = some en := h1
    rw [h1]; rfl
end
end KB
/-! KV: sorted(xs, reverse=True). -/
namespace KB
open PySem PySem.Spec PyProof.Rows
open L2 hiding op_eqD op_neD call_listD
end KB
/-! KB33: list(d.items()). -/
namespace KB
open PySem PySem.Spec PyProof.Rows
open L2 hiding op_eqD op_neD call_listD
end KB
/-! KB34: dict(t) of a tuple of pairs. -/
namespace KB
open PySem PySem.Spec PyProof.Rows
open L2 hiding op_eqD op_neD call_listD
end KB
/-! KKg: the module's own dicts with tuple keys. -/
namespace KB
open PySem PySem.Spec PyProof.Rows
open L2 hiding op_eqD op_neD call_listD
end KB
/-! KM: min, max of two texts; count in a list of texts. -/
namespace KB
open PySem PySem.Spec PyProof.Rows SeqAt
open L2 hiding op_eqD op_neD call_listD
end KB
/-! KXa: exceptions over the hand layer: caught ones are tracked, their dicts are frozen. -/
namespace KB
open PySem PySem.Spec PyProof.Rows
open L2
/-! ### making -/
section
variable {X : Cx} {e o : Expr} {es : List Expr} {ta : TA} {f x : Str} {p p' p1 p2 pos : Pos}
/-- BASE.__init__(self, ..), BASE an own class over ValueError without own __init__ -/
theorem pe_keinit {pl : Sem Bool} {CK : Addr} {mc : Value} (hg : Gl X x) (hm : X.mg x = some (.ref CK)) (rd : PySem.W.readsIn X.K CK mc = true) (ga : PySem.W.specialIn X.K (.ref CK) "__getattribute__" = some (some (.builtin "type.__getattribute__")))
    (hat : PySem.W.findCls X.K (.ref CK) mc "__init__" = some (.val (.builtin "ValueError.__init__"))) (ha : PA X (e :: es) ta) (hdb : (x == ("__debug__" : Str)) = false := by decide)
    (hc : eval (.Call (.Attribute (.Name x p1) "__init__" p2) (e :: es) [] pos) X.env = (do
      let ov ← eval (.Name x p1) X.env
      standAt p2.atName
      let (f, first) ← holding [ov] (getMethod ov "__init__" pl)
      callWith pos f first (backTo pos (starEach (e :: es) X.env)) (backToKw pos (keywordEach [] X.env))) := by rfl)
    (he : starEach (e :: es) X.env = (false, eval e X.env) :: starEach es X.env := by rfl) (hpl : (backTo pos (starEach es X.env)).any (·.1) = false := by rfl) :
    PE X (.Call (.Attribute (.Name x p1) "__init__" p2) (e :: es) [] pos) (tVeI X.K ta) := by
  refine ⟨fun pins s σ H Q I h => ?_⟩
  refine PySem.W.methodCall_KW (ld_glob I hg hm ?_ hdb) hc
  refine PySem.W.method_cls I.kIn ga (PySem.W.cls_value I.kIn rd hat (by decide +kernel) ?_)
  show wpAny _ _ (callWith pos (Value.builtin "ValueError.__init__") [] (backTo pos (starEach (e :: es) X.env)) []) _ _ _
  refine PyProof.Rows.callWith_method1 (thn (ha.run pos pins _ σ H _ (I.tok _) h) fun us s1 ⟨vs, H1, I1, r1, a, C, ws, ev, hl, T, ea, q⟩ => ?_) he hpl
  subst ev
  cases r1 with
  | @cons _ u0 _ ur ra rw' =>
    obtain rfl : u0 = Value.ref a := ra
    have hlen : ur.length ≤ sizeLine := by
      rw [← Paired.length rw', sizeLine_eq]
      omega
    exact oinit_ok T I1 ea hlen fun s' J => ⟨.non, H1, J, rfl, q⟩
end
/-- what an __init__ that stores its arguments does -/
def spI (C : Addr) (n : Nat) (fl : List Str) : Sp := fun vs H Q _ => ∃ a ws, vs = .ref a :: ws ∧ ws.length = n ∧ H a = some (exo a C none) ∧ ∀ dx, H dx = none → dx ≠ a → Q .non (upd (upd H dx (exd dx (fl.zip ws).reverse)) a (exo a C (some dx)))
section
variable {P : Program} {w : World} {K : PySem.W.Frag} {mg : Str → Option Value} {base : Heap} {fA C : Addr} {fd : FuncData} {q : Str} {st : Stmt} {k : Nat} {m f g n1 n2 : Str} {ps : List Str}
theorem init1_of (F : Fun K "__init__" q st fA fd) (S : FnScope ["self", n1] ["self", n1] (defScope st)) (T : OexC K C) (hno : PySem.W.findIn K (.ref C) f = some none)
    (hb : ∀ (cdv : Value) (A : Around) (out : List Env) (s : Shared) (H : Hp) (E : XK), PSs (cxOf CX0 P w K mg base ["self", n1] q (defScope st) fA cdv A out s H E).nox (defBody st) (tSeq (tDrop (tVeI K (tCons (tVar 0) (tCons (tC (.str m)) tNil)))) (tOst K f (tVar 0) (tVar 1)))) :
    FnG P w K mg base CX0 (k + 1) fA fd ["self", n1] (spI C 1 [f]) :=
  FnG.of F S (fun vs H Q E h => by obtain ⟨a, ws, rfl, e, _⟩ := h; simp [e]) fun cdv A out s H vs Q E hg hr h => by
    obtain ⟨a, ws, rfl, e, ha, hq⟩ := h
    match ws, e with
    | [v], _ =>
      refine ⟨_, hb cdv A out s H E, ?_⟩
      refine ⟨.ref a, rfl, a, C, [.str m], rfl, by simp, T, ha, ?_⟩
      refine ⟨v, rfl, .ref a, rfl, a, C, rfl, T, hno, .inl ⟨ha, fun dx h1 h2 => hq dx h1 h2⟩⟩
end
/-- an exception's dict is frozen -/
theorem freezeX {X : Cx} {pins : List (Addr × Obj)} {σ : L2.St} {H : Hp} {s : Shared} {x : Addr} {fs : List (Str × V)} {od : Obj} {t' : Nat} (I : Inv X pins σ H s) (e : H x = some (.xd fs)) (ho : s.heap.get? x = some od) (new : ObjOk X.prog X.w (upd H x (.frz od (.xd fs))) s.heap x (.frz od (.xd fs))) :
    Inv X pins σ (upd H x (.frz od (.xd fs))) { s with toks := t' } := by
  have ne : ∀ {b : Addr} {o : HO}, H b = some o → (∀ gs, o ≠ .xd gs) → b ≠ x := fun {b o} q n z => by
    rw [z, e] at q
    exact n fs (Option.some.inj q).symm
  refine I.un (h' := s.heap) ⟨fun b o q _ _ _ => q, fun b o q _ _ _ => ⟨o.slots, q⟩, fun b o q n _ => ?_, fun b o q _ => ⟨o, q⟩, fun b xs q => ?_, fun b o u q => ?_, fun b ps q => ⟨#[], ?_⟩⟩ fun b u q => ?_
  · rw [upd_ne (fun z => by rw [z, e] at n; cases n)]; exact n
  · rw [upd_ne (ne q fun gs z => nomatch z)]; exact q
  · rw [upd_ne (ne q fun gs z => nomatch z)]; exact q
  · rw [upd_ne (ne q fun gs z => nomatch z), q]; simp
  · by_cases hb : b = x
    · subst hb
      rw [upd_same] at q
      cases q
      exact new
    · rw [upd_ne hb] at q
      exact (I.hok b u q).stay (fun c v _ q => q) (fun c q => by rw [upd_ne (ne q fun gs z => nomatch z)]; exact q) fun c xs q => by rw [upd_ne (ne q fun gs z => nomatch z)]; exact q
/-- C(e, ..) as an exception to be raised: its dict is frozen -/
def tMkX (C : Addr) (n : Nat) (fl : List Str) (ta : TA) : L2.St → Hp → XK → Prop := fun σ H Q => ta σ H fun vs H1 => vs.length = n ∧ n ≤ 1000 ∧ ∀ d od, H1 d = none → Q (.ref C) (some d) (upd H1 d (.frz od (.xd (fl.zip vs).reverse)))
section
variable {X : Cx} {e : Expr} {es : List Expr} {ta : TA} {p pos : Pos}
theorem pmk_exc {x : Str} {C fI : Addr} {k n : Nat} {fd : FuncData} {ps fl : List Str} (T : OexC X.K C) (iC : PySem.W.findIn X.K (.ref C) "__init__" = some (some (.ref fI))) (tI : PySem.W.typeIn X.K (.ref fI) = some (.type "function"))
    (F1 : FnG X.prog X.w X.K X.mg X.base CX0 k fI fd ps (spI C n fl)) (gd : X.A.guards = some []) (hr : Room (k + 1) X.A) (hb : Binds X.K fd ps []) (hg : Gl X x) (hm : X.mg x = some (.ref C)) (ha : PA X (e :: es) ta)
    (hdb : (x == ("__debug__" : Str)) = false := by decide) (he : starEach (e :: es) X.env = (false, eval e X.env) :: starEach es X.env := by rfl) (hpl : (backTo pos (starEach es X.env)).any (·.1) = false := by rfl) :
    PMk X (.Call (.Name x p) (e :: es) [] pos) (tMkX C n fl ta) := by
  intro pins s σ H Q I h
  obtain ⟨nm, q, N, bs, bm, sn, sub, ab, col, dd, k0, k1, k2, k3, k5, hC, hbm⟩ := T.cls
  refine wpAny_Call_Name_kw (ld_glob I hg hm ?_ hdb)
  refine PySem.W.callWith_K (h₀ := X.base) I.ok.mod.kin T.kC (thn (ha.run pos pins s σ H _ I h) fun us s1 ⟨vs, H1, I1, r1, hz, hz2, q1⟩ => ⟨I1.kIn, ?_⟩) he hpl
  show wpAny _ _ (call (.ref C) us) _ _ _
  obtain ⟨hp, g, dr, tk, os⟩ := s1
  have hsz : hp.objs.size ≤ hp.objs.size + 1 := Nat.le_succ _
  have hn : H1 (hp.objs.size + 1) = none := I1.hok.fresh hsz
  have kk : ∀ b o, hp.get? b = some o → ((hp.push (PySem.W.kdv_tup us)).push (PySem.HandSPX.excO C hp.objs.size)).get? b = some o := fun b o e => Heap.get?_push_of_some _ (Heap.get?_push_of_some _ e)
  have hget : ((hp.push (PySem.W.kdv_tup us)).push (PySem.HandSPX.excO C hp.objs.size)).get? (hp.objs.size + 1) = some (PySem.HandSPX.excO C hp.objs.size) := by heap_get
  have I2 : Inv X pins σ (upd H1 (hp.objs.size + 1) (exo (hp.objs.size + 1) C none)) ⟨(hp.push (PySem.W.kdv_tup us)).push (PySem.HandSPX.excO C hp.objs.size), g, dr, tk, os⟩ :=
    I1.laid (t' := tk) (a := hp.objs.size + 1) (o := exo (hp.objs.size + 1) C none) (h' := (hp.push (PySem.W.kdv_tup us)).push (PySem.HandSPX.excO C hp.objs.size)) kk hsz (exo_ok hget)
  have r2 : Vals (V.ref (hp.objs.size + 1) :: vs) (Value.ref (hp.objs.size + 1) :: us) := .cons rfl r1
  have hq : spI C n fl (V.ref (hp.objs.size + 1) :: vs) (upd H1 (hp.objs.size + 1) (exo (hp.objs.size + 1) C none)) (fun v H2 => v = .non ∧ ∃ dx, H1 dx = none ∧ dx ≠ hp.objs.size + 1 ∧ H2 = upd (upd (upd H1 (hp.objs.size + 1) (exo (hp.objs.size + 1) C none)) dx (exd dx (fl.zip vs).reverse)) (hp.objs.size + 1) (exo (hp.objs.size + 1) C (some dx))) (fun _ _ _ => False) :=
    ⟨_, vs, rfl, hz, upd_same, fun dx h1 h2 => ⟨rfl, dx, by rw [upd_ne h2] at h1; exact h1, h2, rfl⟩⟩
  have hl : (Value.ref (hp.objs.size + 1) :: us).length = ps.length := by
    have e := r2.length
    rw [F1.len _ _ _ _ hq] at e
    exact e.symm
  have hus : us.length ≤ sizeLine := by
    rw [← Paired.length r1, sizeLine_eq]
    omega
  have g2 : (X.A.under (.builtin "type.__call__" ⟨.ref C :: us, []⟩)).guards = some [] := by
    have q : (Code.builtin "type.__call__" ⟨.ref C :: us, []⟩).isGuard = false := by
      show guardIds.contains "type.__call__" = false
      decide +kernel
    have q2 : (Code.builtin "type.__call__" ⟨.ref C :: us, []⟩).guards = [] := by unfold Code.guards; rw [q]; rfl
    show pushGuards (Code.builtin "type.__call__" ⟨.ref C :: us, []⟩).guards X.A.guards = some []
    rw [q2, gd]
    rfl
  have hb2 := hb ⟨(hp.push (PySem.W.kdv_tup us)).push (PySem.HandSPX.excO C hp.objs.size), g, dr, tk, os⟩ (Value.ref (hp.objs.size + 1) :: us) I2.kIn (by rw [List.append_nil]; exact hl)
  rw [List.append_nil] at hb2
  refine wpAny_call (PySem.HandSPX.call_own F.excBase_ValueError (fun Y => PySem.HandSPX.refsVE_contains Y bm hbm) (I1.kIn _ _ hC) (PySem.W.looks_findIn I1.kIn iC) (fun self => PySem.W.bind_fn I1.kIn self tI) hus
    (codeAny_mono (F1.go _ X.stack _ _ ⟨Value.ref (hp.objs.size + 1) :: us, []⟩ (Value.ref (hp.objs.size + 1) :: us) _ _ (fun _ _ _ => False) g2 (hr.make C us []) (I2.env0.make C us []) hb2 r2 hq) fun r s' hq' => ?_))
  cases r with
  | error er => exact hq'.elim
  | ok fl' =>
    cases fl' with
    | ret u =>
      obtain ⟨v, H2, os2, bare2, un2, hok2, rv, ev, dx, hd1, hd2, eH2⟩ := hq'
      subst ev
      obtain ⟨h2, g2', d2, t2, os'⟩ := s'
      refine ⟨rv, ?_⟩
      have ea : H2 (hp.objs.size + 1) = some (exo (hp.objs.size + 1) C (some dx)) := by rw [eH2, upd_same]
      have ed : H2 dx = some (exd dx (fl.zip vs).reverse) := by rw [eH2, upd_ne hd2, upd_same]
      obtain ⟨t0, G, J, kG, ge, hoe, na⟩ := mk_end0 (d2 := d2) (t2 := t2) I1 hsz kk un2 hok2 os2 bare2 ea ed hd1
      have eH : upd (del H2 (hp.objs.size + 1)) dx (.xd (fl.zip vs).reverse) = upd H1 dx (.xd (fl.zip vs).reverse) := by
        funext b
        by_cases h3 : b = dx
        · subst h3; rw [upd_same, upd_same]
        · rw [upd_ne h3, upd_ne h3]
          by_cases h4 : b = hp.objs.size + 1
          · subst h4; rw [del_same, hn]
          · rw [del_ne h4, eH2, upd_ne h4, upd_ne h3, upd_ne h4]
      rw [eH] at J na
      have hx : ObjOk X.prog X.w (upd H1 dx (.xd (fl.zip vs).reverse)) G dx (.xd (fl.zip vs).reverse) := J.hok dx _ upd_same
      obtain ⟨od, ho⟩ := objOk_get hx
      have J2 := freezeX (t' := t2) (x := dx) (od := od) J upd_same ho ⟨ho, hx⟩
      rw [upd_upd] at J2
      have na2 : upd H1 dx (.frz od (.xd (fl.zip vs).reverse)) (hp.objs.size + 1) = none := by rw [upd_ne (Ne.symm hd2)]; exact hn
      exact ⟨hp.objs.size + 1, _, _, ⟨G, g2', d2, t2, os'⟩, _, .ref C, some dx, rfl, J2, kG, ge, hoe, ⟨rfl, rfl⟩, rfl, rfl, na2, rfl, bare2, raises_own T.exC T.tyC, q1 dx od hd1⟩
    | next => exact False.elim hq'
    | brk => exact False.elim hq'
    | cont => exact False.elim hq'
end
/-! ### calls whose exceptions are wished for at the caller's slots -/
section
variable {X : Cx} {X0 : CXT} {k : Nat} {f C : Addr} {fd : FuncData} {ps : List Str} {sp : Sp} {dvs : List V} {ds : List Value} {E : L2.St → XK} {x m : Str} {p pos apos : Pos} {e o : Expr} {es : List Expr} {ta : TE} {t : TA}
theorem FnG.runAt {pins : List (Addr × Obj)} {σ : L2.St} {H : Hp} {s : Shared} {Q : VK} {us : List Value} {vs : List V} (F : FnG X.prog X.w X.K X.mg X.base X0 k f fd ps sp) (g : X.A.guards = some []) (hr : Room k X.A) (hb : Binds X.K fd ps ds) (hd : Vals dvs ds) (hx : PassesAt X0 X σ (E σ))
    (I : Inv X pins σ H s) (r : Vals vs us) (h : sp (vs ++ dvs) H Q (E σ)) : wpAny (model X.prog X.w) X.A (call (.ref f) us) (EP X pins σ Q) X.xe s := by
  have rr := r.append hd
  have n1 : (us ++ ds).length = ps.length := rr.length.symm.trans (F.len _ _ _ _ h)
  refine wpAny_call (codeAny_mono (F.go X.A X.stack s H ⟨us, []⟩ (us ++ ds) (vs ++ dvs) Q (E σ) g hr I.env0 (hb s us I.kIn n1) rr h) fun res s' hq => ?_)
  match res, hq with
  | .error e, hq => exact hx pins H s e s' I hq
  | .ok (.ret u), hq => exact I.after hq
  | .ok .next, hq => exact False.elim hq
  | .ok .brk, hq => exact False.elim hq
  | .ok .cont, hq => exact False.elim hq
def tCallSX (sp : Sp) (dvs : List V) (E : L2.St → XK) (t : TA) : TE := fun σ H Q => t σ H fun vs H1 => sp (vs ++ dvs) H1 Q (E σ)
theorem callGS (F : FnG X.prog X.w X.K X.mg X.base X0 k f fd ps sp) (g : X.A.guards = some []) (hr : Room k X.A) (hg : Gl X x) (hm : X.mg x = some (.ref f)) (hk : PySem.W.keepIn X.K (.ref f) = true) (hb : Binds X.K fd ps ds) (hd : Vals dvs ds) (hx : ∀ σ, PassesAt X0 X σ (E σ)) (ha : PA X (e :: es) t)
    (hdb : (x == ("__debug__" : Str)) = false := by decide) (he : starEach (e :: es) X.env = (false, eval e X.env) :: starEach es X.env := by rfl) (hpl : (backTo pos (starEach es X.env)).any (·.1) = false := by rfl) : PE X (.Call (.Name x p) (e :: es) [] pos) (tCallSX sp dvs E t) where
  run pins s σ H Q I h := wpAny_Call_Name_kw (ld_glob I hg hm (PySem.W.callWith_K (h₀ := X.base) I.ok.mod.kin hk (thn (ha.run pos pins s σ H _ I h) fun us s1 ⟨vs, H1, I1, r, z⟩ => ⟨I1.kIn, FnG.runAt F g hr hb hd (hx σ) I1 r z⟩) he hpl) hdb)
end
section
variable {P : Program} {w : World} {K : PySem.W.Frag} {mg : Str → Option Value} {base : Heap} {f : Addr} {fd : FuncData} {ps : List Str} {sp : Sp}
/-- a body of a def that may raise -/
theorem FnG.ofX {x q : Str} {st : Stmt} {N : List Str} {k : Nat} (F : Fun K x q st f fd) (S : FnScope N ps (defScope st)) (len : ∀ vs H Q E, sp vs H Q E → vs.length = ps.length)
    (body : ∀ (cdv : Value) (A : Around) (out : List Env) (s : Shared) (H : Hp) (vs : List V) (Q : VK) (E : XK), (A.deeper (envOfC q (defScope st) s.heap.objs.size f cdv)).guards = some [] → Room k (A.deeper (envOfC q (defScope st) s.heap.objs.size f cdv)) → sp vs H Q E →
      ∃ t, PSs (cxOf (L2.CX P w) P w K mg base N q (defScope st) f cdv A out s H E) (defBody st) t ∧ t { nx := fun _ H' => Q .non H', rt := Q } (start N vs) H) : FnG P w K mg base (L2.CX P w) (k + 1) f fd ps sp := by
  obtain ⟨oc, od, kV, doc, pm, an, cdv, ct, osl, rfl, lk, hcd⟩ := F.ex
  refine ⟨len, fun A out s H as us vs Q E g hr e0 hb r hs => ?_⟩
  have n1 := len _ _ _ _ hs
  have old : ∀ b o, base.get? b = some o → s.heap.get? b = some o := fun b o e => (e0.bs b o e).1
  have kin : K.In s.heap := e0.mod.kin.keeps old
  have nol : s.heap.NoLimit := e0.mod.nolimit.keeps old
  have kinds : ∀ y ∈ ps.zip us, (defScope st).names.lookup y.1 = some .local ∨ ((defScope st).names.lookup y.1 = some .cell ∧ ((cellsFrom (s.heap.objs.size + 1) (defScope st).names []).lookup y.1).isSome = true) := by
    rintro ⟨n, v⟩ hy
    rcases S.par n (List.of_mem_zip hy).1 with z | z
    · exact .inl z
    · exact .inr ⟨z, PySem.W.cellsFrom_some _ _ _ (.inl z)⟩
  refine codeAny_call_function hr.depth (kin _ _ lk) rfl S.co S.gen rfl (PySem.W.codeRec_of kin hcd) (hb _ _ _ _ ?_)
  refine wpAny_newFunctionEnv_cells S.kind kinds fun env he s1 x => ?_
  subst he
  refine ⟨nol.keeps x.toInCall.keep, codeAny_func ?_⟩
  obtain ⟨t, ht, hq⟩ := body cdv A out s H vs Q E g (hr.deeper _) hs
  have I : Inv (cxOf (L2.CX P w) P w K mg base N q (defScope st) f cdv A out s H E) [] (start N vs) H s1 := inv_start S hr.hd e0 n1 r x
  have fin : ∀ {s' : Shared} {σ' : L2.St} {H' : Hp} {v : V} {u : Value}, Inv (cxOf (L2.CX P w) P w K mg base N q (defScope st) f cdv A out s H E) [] σ' H' s' → RelV v u → Q v H' → CE out P w H s Q u s' := fun J rv z => ⟨_, _, J.os, J.bare, J.base, J.hok, rv, z⟩
  refine wpAny_mono (ht.run [] s1 (start N vs) H _ I hq) (fun fl s' hf => ?_) fun _ _ z => z
  match fl, hf with
  | .ret u, ⟨v, σ', H', J, rv, z⟩ => exact fin J rv z
  | .next, ⟨σ', H', J, z⟩ => exact fin (v := V.non) (u := Value.none) J rfl z
  | .brk, ⟨_, _, _, z⟩ => exact z.elim
  | .cont, ⟨_, _, _, z⟩ => exact z.elim
end
end KB
/-! KXb: exceptions over data: raised, passed on, caught. -/
namespace KB
open PySem PySem.Spec PyProof.Rows SeqAt
open L2 hiding op_eqD op_neD
/-- what is wished of an exception, at the slots as they stand -/
abbrev DX := Exn → Sl → Cp → Prop
def lX (K : PySem.W.Frag) (B : Bs) (W : DX) : WX := fun cls d σ H => ∃ n fs sl C, XRep K H n fs cls d ∧ RepS K H sl σ ∧ Rl K B H C ∧ W (n, fs) sl C
theorem takesF {X : Cx} {B : Bs} : Takes X (lX X.K B fun _ _ _ => False) := fun _ _ x => by
  obtain ⟨_, _, _, _, _, _, _, _, _, _, _, _, _, _, _, _, _, _, _, _, _, _, _, z⟩ := x
  exact z.elim
/-- a def that may raise: its promise by data -/
def lSpX (P : Program) (w : World) (K : PySem.W.Frag) (n : Nat) (F : DSp) : Sp := fun vs H Q E => vs.length = n ∧ ∃ ds C Qd Ed, Reps K H ds vs ∧ Ok2 P w K H C ∧ F ds C Qd Ed ∧ (∀ v d H' C', Stp H C H' C' → Ok2 P w K H' C' → Rep K H' d v → Qd d C' → Q v H') ∧
  ∀ n fs cls d H' C', Stp H C H' C' → Ok2 P w K H' C' → XRep K H' n fs cls d → Ed (n, fs) C' → E cls d H'
def runX (np n : Nat) (rd : DX → DS) : DSp := fun ds C Q E => ds.length = np ∧ rd (fun x _ C' => ∃ C'', Sub C'' C' ∧ E x C'') { nx := fun _ C' => ∃ C'', Sub C'' C' ∧ Q .non C'', rt := fun d C' => ∃ C'', Sub C'' C' ∧ Q d C'' } (ds.map some ++ List.replicate (n - ds.length) none) C
section
variable {P : Program} {w : World} {K : PySem.W.Frag} {mg : Str → Option Value} {base : Heap}
theorem fnok_ofX {x qual : Str} {st : Stmt} {f : Addr} {fd : FuncData} {N ps : List Str} {k n : Nat} {rd : DX → DS} (F : Fun K x qual st f fd) (S : FnScope N ps (defScope st)) (hn : ps.length = n)
    (hbody : ∀ (cdv : Value) (A : Around) (outer : List Env) (s : Shared) (H : Hp) (E : XK) (B : Bs) (W : DX), B.P = P → B.w = w → RoomG k (A.deeper (envOfC qual (defScope st) s.heap.objs.size f cdv)) →
      Takes (cxOf (L2.CX P w) P w K mg base N qual (defScope st) f cdv A outer s H E) (lX K B W) → PassesOwn (model P w) (cxOf (L2.CX P w) P w K mg base N qual (defScope st) f cdv A outer s H E).A (cxOf (L2.CX P w) P w K mg base N qual (defScope st) f cdv A outer s H E).env (cxOf (L2.CX P w) P w K mg base N qual (defScope st) f cdv A outer s H E).xe →
      JSs (cxOf (L2.CX P w) P w K mg base N qual (defScope st) f cdv A outer s H E) B (defBody st) (rd W)) : FnG P w K mg base (L2.CX P w) (k + 1) f fd ps (lSpX P w K n (runX n N.length rd)) := by
  refine FnG.ofX F S (fun vs H Q E h => h.1.trans hn.symm) (fun cdv A outer s H vs Q E hg hr h => ?_)
  obtain ⟨hl, ds, C, Qd, Ed, r, ok, ⟨hl2, h⟩, k, kx⟩ := h
  have tk : Takes (cxOf (L2.CX P w) P w K mg base N qual (defScope st) f cdv A outer s H E) (lX K ⟨H, C, P, w⟩ fun x _ C' => ∃ C'', Sub C'' C' ∧ Ed x C'') := (takes_of (E := E) rfl rfl rfl rfl).imp fun cls d σ H' z => by
    obtain ⟨n, fs, sl, C', xr, rs, rl, C'', hs, q⟩ := z
    exact kx n fs cls d H' C'' (rl.st.less hs) ⟨fun p c e => rl.ok p c (hs p c e), rl.ti⟩ xr q
  refine ⟨_, hbody cdv A outer s H E ⟨H, C, P, w⟩ _ rfl rfl ⟨hr, hg⟩ tk (passes_of rfl), ds.map some ++ List.replicate (N.length - ds.length) none, C, _, ?_, ⟨Stp.refl _ _, ok.1, ok.2⟩, h, ⟨fun σ sl H' C' st rl rs q => ?_, fun v d H' C' st rl r q => ?_, fun _ _ _ _ _ _ _ q => q.elim, fun _ _ _ _ _ _ _ q => q.elim⟩⟩
  · unfold L2.start
    rw [r.length]
    exact paired_append (reps_start r) (reps_none _)
  · obtain ⟨C'', hs, q⟩ := q
    exact k _ _ H' C'' (st.less hs) ⟨fun p c e => rl.ok p c (hs p c e), rl.ti⟩ repN q
  · obtain ⟨C'', hs, q⟩ := q
    exact k _ _ H' C'' (st.less hs) ⟨fun p c e => rl.ok p c (hs p c e), rl.ti⟩ r q
end
section
variable {X : Cx} {B : Bs} {pos : Pos} {a b c tg e o : Expr} {ta tb tc to ty tv : DE} {rest es : List Expr} {tr : DA} {K : PySem.W.Frag} {W : DX}
/-! ### calls -/
def dCallX (F : DSp) (dd : List D) (t : DA) (W : DX) : DE := fun s C Q => t s C fun ds C1 => F (ds ++ dd) C1 Q fun x C' => W x s C'
theorem callX_lift {n : Nat} {F : DSp} {dd : List D} {dvs : List V} {σ : L2.St} {H : Hp} {Q : VK} (hd : ∀ H, Reps K H dd dvs) (hl : ∀ ds C Q E, F ds C Q E → ds.length = n) (h : lE K B (dCallX F dd tr W) σ H Q) : tCallSX (lSpX B.P B.w K n F) dvs (WE (lX K B W)) (lA K B tr) σ H Q := by
  obtain ⟨sl, C, Qd, rs, rl, h, k⟩ := h
  refine ⟨sl, C, _, rs, rl, h, fun vs ds H1 C1 st1 rl1 r q => ?_⟩
  have r2 := r.append (hd H1)
  exact ⟨by rw [← r2.length]; exact hl _ _ _ _ q, ds ++ dd, C1, Qd, fun x C' => W x sl C', r2, ⟨rl1.ok, rl1.ti⟩, q, fun v d H' C' st ok r q => k v d H' C' (st1.trans st) ⟨rl1.st.trans st, ok.1, ok.2⟩ r q,
    fun n fs cls d H' C' st ok xr w => ⟨n, fs, sl, C', xr, rs.mono (st1.trans st).tx, ⟨rl1.st.trans st, ok.1, ok.2⟩, w⟩⟩
theorem j_callX {k n : Nat} {f : Addr} {fd : FuncData} {ps : List Str} {F : DSp} {ds : List Value} {x : Str} {p : Pos} (tk : Takes X (lX X.K B W)) (dd : List D) {dvs : List V} (G : FnG X.prog X.w X.K X.mg X.base (L2.CX X.prog X.w) k f fd ps (lSpX B.P B.w X.K n F)) (hr : RoomG k X.A) (hm : X.mg x = some (.ref f)) (hk : PySem.W.keepIn X.K (.ref f) = true) (hb : Binds X.K fd ps ds)
    (hl : ∀ ds C Q E, F ds C Q E → ds.length = n) (hd : Vals dvs ds) (hdd : ∀ H, Reps X.K H dd dvs) (ha : JA X B (e :: es) tr) (hg : Gl X x := by rfl) (hdb : (x == ("__debug__" : Str)) = false := by decide)
    (he : starEach (e :: es) X.env = (false, eval e X.env) :: starEach es X.env := by rfl) (hpl : (backTo pos (starEach es X.env)).any (·.1) = false := by rfl) : JE X B (.Call (.Name x p) (e :: es) [] pos) (dCallX F dd tr W) :=
  PE.imp (callGS (E := WE (lX X.K B W)) G hr.gd hr.toRoom hg hm hk hb hd (fun σ => passAt tk σ) ha hdb he hpl) fun _ _ _ h => callX_lift hdd hl h
/-! ### raise -/
theorem paired_rev {α β : Type} {F : α → β → Prop} : ∀ {a : List α} {b : List β}, Paired F a b → Paired F a.reverse b.reverse
  | _, _, .nil => .nil
  | _, _, .cons r t => by
    rw [List.reverse_cons, List.reverse_cons]
    exact paired_append (paired_rev t) (.cons r .nil)
theorem repK_zip {K : PySem.W.Frag} {H : Hp} : ∀ {fl : List Str} {ds : List D} {vs : List V}, Reps K H ds vs → RepK id K H (fl.zip ds) (fl.zip vs)
  | [], _, _, _ => .nil
  | _ :: _, [], _, h => by cases h; exact .nil
  | f :: fl, d :: ds, _, h => by
    obtain ⟨v, r, rfl, a, t⟩ := h
    exact .cons ⟨rfl, a⟩ (repK_zip t)
/-- raise C(..) -/
def dRaise (n : Str) (fl : List Str) (t : DA) (W : DX) : DS := fun _ s C => t s C fun ds C1 => ds.length = fl.length ∧ ds.length ≤ 1000 ∧ W (n, (fl.zip ds).reverse) s C1
theorem js_raise {x : Str} {C fI : Addr} {k : Nat} {fd : FuncData} {ps fl : List Str} {p pos2 : Pos} (hc : X.calm = true) (tk : Takes X (lX X.K B W)) (cn : PySem.W.nsIn X.K mainGlobals x = some (some (.ref C))) (T : OexC X.K C) (iC : PySem.W.findIn X.K (.ref C) "__init__" = some (some (.ref fI))) (tI : PySem.W.typeIn X.K (.ref fI) = some (.type "function"))
    (F1 : FnG X.prog X.w X.K X.mg X.base CX0 k fI fd ps (spI C fl.length fl)) (hr : RoomG (k + 1) X.A) (hb : Binds X.K fd ps []) (hm : X.mg x = some (.ref C)) (ha : JA X B (e :: es) tr) (hg : Gl X x := by rfl)
    (hdb : (x == ("__debug__" : Str)) = false := by decide) (he : starEach (e :: es) X.env = (false, eval e X.env) :: starEach es X.env := by rfl) (hpl : (backTo pos2 (starEach es X.env)).any (·.1) = false := by rfl) :
    JS X B (.Raise (some (.Call (.Name x p) (e :: es) [] pos2)) none pos) (dRaise x fl tr W) := PS.imp (ps_raise hc tk (pmk_exc T iC tI F1 hr.gd hr.toRoom hb hg hm ha hdb he hpl)) fun D σ H h => by
  obtain ⟨sl, Cs, Dd, rs, rl, h, k⟩ := h
  refine ⟨sl, Cs, _, rs, rl, h, fun vs ds H1 C1 st1 rl1 r q => ?_⟩
  obtain ⟨e1, e2, w⟩ := q
  refine ⟨by rw [← r.length]; exact e1, by rw [← e1]; exact e2, fun d od hd => ?_⟩
  have tx : Tx H1 (upd H1 d (.frz od (.xd (fl.zip vs).reverse))) := tx_new hd
  exact ⟨x, _, sl, C1, ⟨C, cn, rfl, .inr ⟨d, od, _, rfl, upd_same, paired_rev (repK_zip (r.mono tx))⟩⟩, (rs.mono st1.tx).mono tx, rl1.more hd, w⟩
/-! ### try -/
theorem EndsOk.base {K : PySem.W.Frag} {B : Bs} {H : Hp} {C : Cp} {Dd : DEnds} {D : Ends} (rl : Rl K B H C) (e : EndsOk K B H C Dd D) : EndsOk K ⟨H, C, B.P, B.w⟩ H C Dd D :=
  ⟨fun σ sl H' C' st r => e.nx σ sl H' C' st (rl.rebase r), fun v d H' C' st r => e.rt v d H' C' st (rl.rebase r), fun σ sl H' C' st r => e.bk σ sl H' C' st (rl.rebase r), fun σ sl H' C' st r => e.ct σ sl H' C' st (rl.rebase r)⟩
end
end KB
/-! KXc: defs with defaults. -/
namespace KB
open PySem PySem.Spec PyProof.Rows SeqAt
open L2 hiding op_eqD op_neD
abbrev FunE (K : PySem.W.Frag) (x q : Str) (st : Stmt) (dvs : List V) (f : Addr) (fd : FuncData) : Prop := FunD K x q (defArgs st) (defBody st) (defScope st) dvs [] f fd
end KB
/-! KXi: isinstance of own classes, of caught exceptions; fields of these. -/
namespace KB
open PySem PySem.Spec PyProof.Rows SeqAt
open L2 hiding op_eqD op_neD
/-- what an exception class says -/
structure ExcF (K : PySem.W.Frag) (C : Addr) : Prop where
  cl : (PySem.W.clsIn K C).isSome = true
  ga : PySem.W.findIn K (.ref C) "__getattribute__" = some (some (.builtin "BaseException.__getattribute__"))
  gg : PySem.W.findIn K (.ref C) "__getattr__" = some none
  sub : PySem.W.subIn K (.ref C) (.type "BaseException") = some true
  hd : PySem.W.hasDictIn K C = true
  ha : PySem.W.findIn K (.ref C) "__class__" = some (some (.builtin "object.__class__"))
  hn : PySem.W.specialIn K (.builtin "object.__class__") "__get__" = some (some (.builtin "getset_descriptor.__get__"))
  ht : PySem.W.takesIn K (.builtin "object.__class__") = some true
  hm : PySem.W.mroIn K C (.type "object") = some true
/-! ### answers by kinds -/
end KB
/-! KXg: small things for the printed walk: classes by name, defaults, int of a text. -/
namespace KB
open PySem PySem.Spec PyProof.Rows SeqAt
open L2 hiding op_eqD op_neD call_listD
theorem relS {x : Str} {t : Tok} {l : List Nat} (h : x = ⟨l.toArray⟩ := by decide +kernel) : RelV (.str ⟨l.toArray⟩) (.str x t) := ⟨t, by rw [h]⟩
theorem fune_mk {K : PySem.W.Frag} {x qual : Str} {st : Stmt} {f T : Addr} {oc : Value} {od oT an : Option Addr} {osl sT : Array (Option Value)} {kV doc pm cdv ct : Value} {dvs : List V} {us : List Value} {nT : Nat}
    (l : K.lookup f = some ⟨oc, od, .func (PySem.W.fnOf x qual (defArgs st) (defBody st) (defScope st) (.ref T) kV doc pm an cdv ct), osl⟩) (c : PySem.W.codeIn K cdv qual = true) (k : PySem.W.keepIn K (.ref f) = true)
    (t : K.lookup T = some ⟨.type "tuple", oT, .seq us.toArray nT, sT⟩) (v : Vals dvs us) (hn : dvs ≠ []) : FunE K x qual st dvs f (PySem.W.fnOf x qual (defArgs st) (defBody st) (defScope st) (.ref T) kV doc pm an cdv ct) :=
  ⟨⟨oc, od, .ref T, kV, doc, pm, an, cdv, ct, osl, rfl, l, c, .inr ⟨hn, T, _, us, nT, rfl, t, rfl, v⟩, .inl rfl⟩, k⟩
end KB
/-! KInt: int(text) of more than 640 signs. -/
namespace PySem.W.KIN
open PySem PySem.Calls PySem.NumText PyProof.Rows
theorem wp_textL {M : Model} {A : Around} {E : Value → Shared → Prop} {s : Shared} {Q : Value → Shared → Prop} {v : Value} {text : List Nat} {n : Int} {K : Frag} (X : K.In s.heap) (hd : nsIn K cStatics "sys.int_max_str_digits" = some none)
    (hs : ¬ (text.takeWhile (· != 0)).length ≤ 640) (hr : (int_private% "readNumeral") 4300 10 (text.takeWhile (· != 0)) = (int_private% "Numeral.value") n)
    (ha : ((text.takeWhile (· != 0)).length == text.length) = true) (h : Q (.int n s.toks) { s with toks := s.toks + 1 }) :
    wpAny M A ((int_private% "intFromText") v text 10) Q E s := by
  obtain ⟨hp, g, d, tk, os⟩ := s
  have L : Looks M hp (nsGet cStatics "sys.int_max_str_digits") none := looks_nsIn X hd
  repeat (any_goals (first
    | assumption
    | (with_reducible refine wpAny_ite_false (decide_eq_false hs) ?_)
    | (with_reducible refine wpAny_ite_true (decide_eq_true ha) ?_)
    | (refine wpAny_bind (L.at ?_))
    | wp_step))
  all_goals (try rw [hr])
  all_goals (try dsimp only)
  repeat (any_goals (first
    | assumption
    | (with_reducible refine wpAny_ite_true (decide_eq_true ha) ?_)
    | wp_step))
set_option maxHeartbeats 8000000 in
theorem meets_textL {x : PySem.Str} {u : Tok} {n : Int} {K : Frag} (hs : ¬ (numSeenOf x).length ≤ 640) (hr : (int_private% "readNumeral") 4300 10 (numSeenOf x) = (int_private% "Numeral.value") n) (ha : ((numSeenOf x).length == (numTextOf x).length) = true) :
    Meets (Builtin.«int.__new__» ⟨[.type "int", .str x u], []⟩) (fun A R s => K.In s.heap ∧ nsIn K cStatics "sys.int_max_str_digits" = some none ∧ R (.ok (.ret (.int n s.toks))) { s with toks := s.toks + 1 }) :=
  .of_wp fun prog w A R s h => by
    obtain ⟨hp, g, d, tk, os⟩ := s
    obtain ⟨X, hd, h⟩ := h
    have f1 := F.conv_sub_int
    have f2 := F.madeHere_int
    have f3 := str_int
    have f4 := str_idx
    have f5 := str_trunc
    have f6 : typeOf (.str x u) = pure (.type "str") := rfl
    have hk := Hid.mk (And.intro X (And.intro hd (And.intro hs (And.intro hr ha))))
    clear hs hr ha X hd
    repeat (any_goals (first
      | assumption
      | ((with_reducible show wpAny _ _ ((int_private% "intFromText") _ _ _) _ _ _); refine wp_textL hk.out.1 hk.out.2.1 hk.out.2.2.1 hk.out.2.2.2.1 hk.out.2.2.2.2 ?_)
      | wp_step))
    all_goals exact ⟨_, rfl, h⟩
section
variable {prog : Program} {w : World} {A : Around} {E : Value → Shared → Prop} {s : Shared} {Q : Value → Shared → Prop} {x : PySem.Str} {t : Tok} {n : Int} {K : Frag}
theorem call_textL (X : K.In s.heap) (hd : nsIn K cStatics "sys.int_max_str_digits" = some none) (hs : ¬ (numSeenOf x).length ≤ 640) (hr : (int_private% "readNumeral") 4300 10 (numSeenOf x) = (int_private% "Numeral.value") n) (ha : ((numSeenOf x).length == (numTextOf x).length) = true)
    (h : Q (.int n s.toks) { s with toks := s.toks + 1 }) : wpAny (model prog w) A (call (.type "int") [.str x t]) Q E s :=
  call_int_1 (meets_textL hs hr ha) ⟨X, hd, rfl, h⟩
end
/-- a text of more than 640 signs that is read as n -/
def BigNum (x : PySem.Str) (n : Int) : Prop := ¬ (numSeenOf x).length ≤ 640 ∧ (int_private% "readNumeral") 4300 10 (numSeenOf x) = (int_private% "Numeral.value") n ∧ ((numSeenOf x).length == (numTextOf x).length) = true
end PySem.W.KIN
namespace KB
open PySem PySem.Spec PyProof.Rows SeqAt
open L2 hiding op_eqD op_neD call_listD
section
variable {X : Cx} {B : Bs}
/-- int(text) of a long text -/
def intLR : List D → Cp → DQ → Prop := fun ds C Q => ∃ l n, ds = [.str l] ∧ PySem.W.KIN.BigNum ⟨l.toArray⟩ n ∧ Q (.int n) C
theorem call_intLD (nd : PySem.W.nsIn X.K cStatics "sys.int_max_str_digits" = some none) : CallD X B (.type "int") intLR := by
  intro pins s σ H xs us Q I rx h
  obtain ⟨ds, C, Qd, r, rl, ⟨l, n, e, ⟨h1, h2, h3⟩, h⟩, k⟩ := h
  subst e
  obtain ⟨v, r2, rfl, hv, hn⟩ := r
  cases hn; cases hv
  obtain ⟨u, rfl, ⟨t, rfl⟩⟩ := vals1 rx
  exact PySem.W.KIN.call_textL I.kIn nd h1 h2 h3 ⟨.int n, H, I.tok _, ⟨_, rfl⟩, k _ (.int _) H C (Stp.refl _ _) rl rfl h⟩
end
end KB
/-! KIntB: '1' + '0' * 900 read. -/
namespace PySem.W.KIN
open PySem PySem.Calls PySem.NumText PyProof.Rows
theorem big_of {x : PySem.Str} {n : Int} (hs : ¬ (numSeenOf x).length ≤ 640) (ha : ((numSeenOf x).length == (numTextOf x).length) = true) (hx : x.length ≤ sizeLine) (hn : PySem.intText? x = some n) : BigNum x n := by
  rcases read4300 x hx with ⟨m, h1, h2, h3⟩ | ⟨h1, _⟩
  · rw [hn] at h1
    injection h1 with h1
    subst h1
    exact ⟨hs, h3, h2⟩
  · rw [hn] at h1
    cases h1
theorem digitsVal_zeros (c : Nat) : ∀ n : Nat, digitsVal (c :: List.replicate n 48) = (c - 48) * 10 ^ n
  | 0 => by
    show 0 * 10 + (c - 48) = (c - 48) * 1
    omega
  | n + 1 => by
    rw [List.replicate_succ', ← List.cons_append, digitsVal_snoc, digitsVal_zeros c n, Nat.pow_succ]
    show (c - 48) * 10 ^ n * 10 + 0 = _
    rw [Nat.add_zero, Nat.mul_assoc]
theorem big900 : BigNum ⟨(49 :: List.replicate 900 48).toArray⟩ ((10 ^ 900 : Nat) : Int) := by
  have hl : (49 :: List.replicate 900 48).length = 901 := by rw [List.length_cons, List.length_replicate]
  have hx : (⟨(49 :: List.replicate 900 48).toArray⟩ : PySem.Str).length = 901 := hl
  have hd : AllDigits (⟨(49 :: List.replicate 900 48).toArray⟩ : PySem.Str).cps.toList := by
    intro c hc
    rcases List.mem_cons.mp hc with e | e
    · subst e; decide
    · rw [List.eq_of_mem_replicate e]; decide
  obtain ⟨s1, s2⟩ := numText_signs fun c hc => Or.inr (hd c hc)
  refine big_of ?_ ?_ ?_ ?_
  · rw [s2]
    show ¬ (49 :: List.replicate 900 48).length ≤ 640
    rw [hl]; decide
  · rw [s1, s2]
    exact beq_self_eq_true _
  · rw [hx, sizeLine_eq]; decide
  have e := intText_digits hd (by intro h; cases h) (by rw [hx]; decide)
  have e2 : digitsVal (⟨(49 :: List.replicate 900 48).toArray⟩ : PySem.Str).cps.toList = 1 * 10 ^ 900 := digitsVal_zeros 49 900
  rw [e, e2, Nat.one_mul]
end PySem.W.KIN
/-! KAd: partition, int(text, 16). -/
namespace KB
open PySem PySem.Spec PyProof.Rows SeqAt
open L2 hiding op_eqD op_neD call_listD
section
variable {X : Cx} {B : Bs} {pos : Pos}
theorem ix_kt {d : Addr} {tbl : List (List Nat × D)} (T : KTab X.K X.w d tbl) : IxR X (fun x y H Q => ∃ l dv, x = .ref d ∧ y = .str ⟨l.toArray⟩ ∧ lookK tbl l = some dv ∧ ∀ v, RepC X.K dv v → Q v H) := by
  intro value slice pins s σ H x y v u Q I rx ry h hs
  obtain ⟨l, dv, rfl, rfl, e, q⟩ := h
  cases rx
  obtain ⟨t, rfl⟩ := ry
  obtain ⟨g, low, hmap, hfind⟩ := ktab_map T I
  have hf := hfind l
  rw [e] at hf
  obtain ⟨u0, hg, v0, r, rv⟩ := hf
  exact tail_any hmap.typeIs slot_dict_getitem.lookup (wpAny_getItem_of (PySem.strKind_is X.prog X.w ⟨l.toArray⟩ t) hmap hg ⟨v0, H, I.tok _, rv, q v0 r⟩) hs
/-- NAME[k] of a module's dict -/
def dKItem (tbl : List (List Nat × D)) (te : DE) : DE := fun s C Q => te s C fun x C1 => ∃ l dv, x = .str l ∧ lookK tbl l = some dv ∧ Q dv C1
theorem j_kitem {x : Str} {d : Addr} {tbl : List (List Nat × D)} {e : Expr} {te : DE} {p : Pos} (T : KTab X.K X.w d tbl) (hm : X.mg x = some (.ref d)) (he : JE X B e te) (hg : Gl X x := by rfl) (hdb : (x == ("__debug__" : Str)) = false := by decide) (hs : PlainIx e := by exact fun _ _ => rfl) :
    JE X B (.Subscript (.Name x p) e pos) (dKItem tbl te) := PE.imp (pe_ix (ix_kt T) (pe_glob (v := .ref d) hg hm rfl hdb) he hs) fun σ H Q h => by
  obtain ⟨sl, C, Qd, rs, rl, h, k⟩ := h
  refine ⟨sl, C, _, rs, rl, h, fun v dd H1 C1 st1 rl1 r q => ?_⟩
  obtain ⟨l, dv, ed, el, q⟩ := q
  subst ed
  cases r
  exact ⟨l, dv, rfl, rfl, el, fun v rv => k _ dv H1 C1 st1 rl1 (RepC.rep rv) q⟩
theorem op_nin_kt {d : Addr} {tbl : List (List Nat × D)} (T : KTab X.K X.w d tbl) : OpR X (compareOp .NotIn) (fun x y H Q => ∃ l : List Nat, x = .str ⟨l.toArray⟩ ∧ y = .ref d ∧ Q (.bl (!(lookK tbl l).isSome)) H) := by
  intro pins s σ H x y v u Q I rx ry h
  obtain ⟨l, rfl, rfl, q⟩ := h
  obtain ⟨t, rfl⟩ := rx
  cases ry
  obtain ⟨g, low, hmap, hfind⟩ := ktab_map T I
  have hf := hfind l
  refine wpAny_notIn_of (PySem.strKind_is X.prog X.w ⟨l.toArray⟩ t) low hmap ?_
  have e : (g ⟨l.toArray⟩).isSome = (lookK tbl l).isSome := by
    cases el : lookK tbl l with
    | none => rw [el] at hf; rw [hf]; rfl
    | some z => rw [el] at hf; obtain ⟨u0, hg, _⟩ := hf; rw [hg]; rfl
  rw [e]
  exact ⟨.bl _, H, I.tok _, rfl, q⟩
/-- k in NAME, k not in NAME -/
def dKIn (neg : Bool) (tbl : List (List Nat × D)) (te : DE) : DE := fun s C Q => te s C fun x C1 => ∃ l, x = .str l ∧ Q (.bl (if neg then !(lookK tbl l).isSome else (lookK tbl l).isSome)) C1
theorem jt_knin {x : Str} {d : Addr} {tbl : List (List Nat × D)} {e : Expr} {te : DE} {p : Pos} (T : KTab X.K X.w d tbl) (hm : X.mg x = some (.ref d)) (he : JE X B e te) (hg : Gl X x := by rfl) (hdb : (x == ("__debug__" : Str)) = false := by decide) :
    JT X B (.Compare e [.NotIn] [.Name x p] pos) (dTest (dKIn true tbl te)) := PT.imp (pt_cmpR (op_nin_kt T) he (pe_glob (v := .ref d) hg hm rfl hdb) (by rfl)) fun σ H Q h => by
  obtain ⟨sl, C, Qd, rs, rl, h, k⟩ := h
  refine ⟨sl, C, _, rs, rl, h, fun v dd H1 C1 st1 rl1 r q => ?_⟩
  obtain ⟨l, ed, b, eb, q⟩ := q
  subst ed
  cases r
  cases eb
  exact ⟨l, rfl, rfl, _, rfl, k _ H1 C1 st1 rl1 q⟩
end
end KB
/-! KXm: making an instance by an __init__ that may raise. -/
namespace KB
open PySem PySem.Spec PyProof.Rows
open L2
end KB
namespace KB
open PySem PySem.Spec PyProof.Rows
open L2 hiding op_eqD op_neD call_listD
end KB
/-! KEn: for i, c in enumerate(text). -/
namespace KB
open PySem PySem.Spec PyProof.Rows
open L2 hiding op_eqD op_neD call_listD
end KB
/-! KAs: name += text. -/
namespace KB
open PySem PySem.Spec PyProof.Rows
open L2 hiding op_eqD op_neD call_listD
end KB
/-! KRs: repr of a text. -/
namespace KB
open PySem PySem.Spec PyProof.Rows SeqAt
open L2 hiding op_eqD op_neD
end KB
/-! KMn: min of a list of tuples that can be compared up to where they differ; default=None. -/
namespace KB
open PySem PySem.W PySem.Spec PyProof.Rows SeqAt
open L2 hiding op_eqD op_neD call_listD
open MeetsSeq MeetsSeq2 MeetsSeq3 SeqRoads2
open AutoSeq1 (wpAny_loadPart')
end KB
/-! KEq: == of two instances of a class with an own __eq__. -/
namespace KB
open PySem PySem.Spec PyProof.Rows
open L2 hiding op_eqD op_neD call_listD
end KB
/-! KNe: != of two instances of a class with an own __eq__ and no own __ne__. -/
namespace KB
open PySem PySem.Spec PyProof.Rows
open L2 hiding op_eqD op_neD call_listD
end KB
/-! KOw: len, repr, ==, != of an instance with its own defs, the right side of any kind; in a list of such. -/
namespace KB
open PySem PySem.Spec PyProof.Rows
open L2 hiding op_eqD op_neD call_listD
end KB
namespace KB
open PySem PySem.Spec PyProof.Rows
open L2 hiding op_eqD op_neD call_listD
end KB
/-! KRv: xs[::-1] of a list. -/
namespace KB
open PySem PySem.Spec PyProof.Rows
open L2 hiding op_eqD op_neD call_listD
section
variable {X : Cx} {B : Bs} {p1 p2 p3 pos : Pos} {e : Expr} {te : DE} {k : Nat}
def dRevL (te : DE) : DE := fun s C Q => te s C fun x C1 => ∃ p xs, x = .ptr p ∧ isL C1 p xs ∧ ∀ q, C1 q = none → Q (.ptr q) (up C1 q (.lst xs.reverse))
theorem j_revL (he : JE X B e te) : JE X B (.Subscript e (.Slice none none (some (.UnaryOp .USub (.Constant (.int 1) k p1) p2)) p3) pos) (dRevL te) := PE.imp (pe_revL he) fun σ H Q h => by
  obtain ⟨sl, C, Qd, rs, rl, h, kk⟩ := h
  refine ⟨sl, C, _, rs, rl, h, fun v d H1 C1 st1 rl1 r q => ?_⟩
  obtain ⟨p, xs, ed, hl, q⟩ := q
  subst ed
  cases r
  obtain ⟨vs, hq, hr⟩ := hl.sq rl1
  refine ⟨p, vs, rfl, hq, fun x hx => ?_⟩
  obtain ⟨a1, a2⟩ := rl1.newL hx (reps_rev hr)
  exact kk _ (.ptr x) _ _ (st1.trans a1) a2 rfl (q x (rl1.fresh hx))
end
end KB
/-! KRu: t[::-1] of a tuple; ord. -/
namespace L2
open PySem PySem.Spec PyProof.Rows
end L2
namespace KB
open PySem PySem.Spec PyProof.Rows
open L2 hiding op_eqD op_neD call_listD
end KB
/-! KRw: t[::-1] of a text. -/
namespace L2
open PySem PySem.Spec PyProof.Rows
end L2
namespace KB
open PySem PySem.Spec PyProof.Rows
open L2 hiding op_eqD op_neD call_listD
end KB
/-! KUd: d.update(e) of two dicts with ints or texts as keys. -/
namespace KB
open PySem PySem.Spec PyProof.Rows
open L2 hiding op_eqD op_neD call_listD
end KB
/-! KEs: enumerate(xs, start=n). -/
namespace L2
open PySem PySem.Spec PyProof.Rows
end L2
namespace KB
open PySem PySem.Spec PyProof.Rows
open L2 hiding op_eqD op_neD call_listD
end KB
/-! KLt: tuples of texts compared by <. -/
namespace KB
open PySem PySem.Spec PyProof.Rows
open L2 hiding op_eqD op_neD call_listD
end KB
/-! KLe: tuples of texts compared by <=. -/
namespace KB
open PySem PySem.Spec PyProof.Rows
open L2 hiding op_eqD op_neD call_listD
end KB
/-! KIp: a list in a tuple of lists. -/
namespace KB
open PySem PySem.Spec PyProof.Rows PySem.SeqAt
open L2 hiding op_eqD op_neD call_listD
end KB
/-! KKw: calls with keywords. -/
namespace KB
open PySem PySem.Spec PyProof.Rows
open L2 hiding op_eqD op_neD call_listD
/-- where a parameter's value comes from: a place, a keyword, a default -/
inductive Src | p (i : Nat) | k (i : Nat) | d (i : Nat)
def pickS {α : Type} : List Src → List α → List α → List α → List α
  | [], _, _, _ => []
  | .p i :: l, a, b, c => (a[i]?).toList ++ pickS l a b c
  | .k i :: l, a, b, c => (b[i]?).toList ++ pickS l a b c
  | .d i :: l, a, b, c => (c[i]?).toList ++ pickS l a b c
theorem paired_opt {α β : Type} {F : α → β → Prop} : ∀ {a : List α} {b : List β} (i : Nat), Paired F a b → Paired F (a[i]?).toList (b[i]?).toList
  | _, _, _, .nil => by simp; exact .nil
  | _, _, 0, .cons r t => .cons r .nil
  | _, _, i + 1, .cons r t => by
    rw [List.getElem?_cons_succ, List.getElem?_cons_succ]
    exact paired_opt i t
theorem pick_paired {α β : Type} {F : α → β → Prop} {a b c : List α} {a' b' c' : List β} (h1 : Paired F a a') (h2 : Paired F b b') (h3 : Paired F c c') : ∀ l : List Src, Paired F (pickS l a b c) (pickS l a' b' c')
  | [] => .nil
  | .p i :: l => paired_append (paired_opt i h1) (pick_paired h1 h2 h3 l)
  | .k i :: l => paired_append (paired_opt i h2) (pick_paired h1 h2 h3 l)
  | .d i :: l => paired_append (paired_opt i h3) (pick_paired h1 h2 h3 l)
theorem reps_opt {K : PySem.W.Frag} {H : Hp} : ∀ {a : List D} {b : List V} (i : Nat), Reps K H a b → Reps K H (a[i]?).toList (b[i]?).toList
  | [], _, _, h => by cases h; simp; rfl
  | d :: a, _, 0, h => by
    obtain ⟨v, r, rfl, h1, h2⟩ := h
    exact ⟨v, [], rfl, h1, rfl⟩
  | d :: a, _, i + 1, h => by
    obtain ⟨v, r, rfl, h1, h2⟩ := h
    rw [List.getElem?_cons_succ, List.getElem?_cons_succ]
    exact reps_opt i h2
theorem reps_pick {K : PySem.W.Frag} {H : Hp} {a b c : List D} {a' b' c' : List V} (h1 : Reps K H a a') (h2 : Reps K H b b') (h3 : Reps K H c c') : ∀ l : List Src, Reps K H (pickS l a b c) (pickS l a' b' c')
  | [] => rfl
  | .p i :: l => (reps_opt i h1).append (reps_pick h1 h2 h3 l)
  | .k i :: l => (reps_opt i h2).append (reps_pick h1 h2 h3 l)
  | .d i :: l => (reps_opt i h3).append (reps_pick h1 h2 h3 l)
/-- how a def binds them: n by place, the keywords ks, the defaults dvs -/
def KwB (K : PySem.W.Frag) (fd : FuncData) (ps : List Str) (n : Nat) (ks : List Str) (src : List Src) (dvs : List V) : Prop := ∃ its : List Value, KBn K fd ps n ks (fun us ws => pickS src us ws its) (fun vs zs => pickS src vs zs dvs)
section
variable {K : PySem.W.Frag} {x qual : Str} {st : Stmt} {dvs : List V} {f : Addr} {fd : FuncData} {ps : List Str}
theorem fune_kwb (F : FunE K x qual st dvs f fd) (n : Nat) (ks : List Str) (src : List Src) (hd : dvs ≠ [])
    (h : ∀ (T : Addr) (kV doc pm : Value) (an : Option Addr) (cdv ct : Value) (us its ws : List Value), us.length = n → its.length = dvs.length → ws.length = ks.length →
      ∃ k, bindArgs (PySem.W.fnOf x qual (defArgs st) (defBody st) (defScope st) (.ref T) kV doc pm an cdv ct) ⟨us, ks.zip ws⟩ = seqItems? (.ref T) >>= k ∧ k (some its.toArray) = pure (ps.zip (pickS src us ws its))) : KwB K fd ps n ks src dvs := by
  obtain ⟨its, b⟩ := FunD.kbindsD F n ks (fun us ds ws => pickS src us ws ds) hd (fun r1 r2 r3 => pick_paired r1 r3 r2 src) h
  exact ⟨its, b⟩
end
section
variable {X : Cx} {X0 : CXT} {k n : Nat} {f C : Addr} {fd : FuncData} {ps ks : List Str} {sp : Sp} {E : L2.St → XK} {x : Str} {p pos : Pos} {e : Expr} {es : List Expr} {kws : List Keyword} {t tk : TA} {g : List Value → List Value → List Value} {gV : List V → List V → List V}
theorem FnG.runK {pins : List (Addr × Obj)} {σ : L2.St} {H : Hp} {s : Shared} {Q : VK} {us ws : List Value} {vs zs : List V} (F : FnG X.prog X.w X.K X.mg X.base X0 k f fd ps sp) (gd : X.A.guards = some []) (hr : Room k X.A) (hb : KBn X.K fd ps n ks g gV) (hx : PassesAt X0 X σ (E σ))
    (I : Inv X pins σ H s) (r : Vals vs us) (rz : Vals zs ws) (l1 : vs.length = n) (l2 : zs.length = ks.length) (h : sp (gV vs zs) H Q (E σ)) : wpAny (model X.prog X.w) X.A (call (.ref f) us (ks.zip ws)) (EP X pins σ Q) X.xe s := by
  have r2 := hb.rel r rz
  refine wpAny_call (codeAny_mono (F.go X.A X.stack s H ⟨us, ks.zip ws⟩ (g us ws) (gV vs zs) Q (E σ) gd hr I.env0 (hb.to s us ws I.kIn (r.length.symm.trans l1) (rz.length.symm.trans l2)) r2 h) fun res s' hq => ?_)
  match res, hq with
  | .error e, hq => exact hx pins H s e s' I hq
  | .ok (.ret u), hq => exact I.after hq
  | .ok .next, hq => exact False.elim hq
  | .ok .brk, hq => exact False.elim hq
  | .ok .cont, hq => exact False.elim hq
def tCallW (n m : Nat) (sp : Sp) (gV : List V → List V → List V) (E : L2.St → XK) (t tk : TA) : TE := fun σ H Q => t σ H fun vs H1 => tk σ H1 fun zs H2 => vs.length = n ∧ zs.length = m ∧ sp (gV vs zs) H2 Q (E σ)
theorem callGW (F : FnG X.prog X.w X.K X.mg X.base X0 k f fd ps sp) (gd : X.A.guards = some []) (hr : Room k X.A) (hg : Gl X x) (hm : X.mg x = some (.ref f)) (hk : PySem.W.keepIn X.K (.ref f) = true) (hb : KBn X.K fd ps n ks g gV) (hx : ∀ σ, PassesAt X0 X σ (E σ))
    (ha : PA X (e :: es) t) (hkw : PK X kws tk) (hall : (backToKw pos (keywordEach kws X.env)).all (·.1.isSome) = true := by rfl) (hks : (backToKw pos (keywordEach kws X.env)).filterMap (·.1) = ks := by rfl)
    (hdb : (x == ("__debug__" : Str)) = false := by decide) (he : starEach (e :: es) X.env = (false, eval e X.env) :: starEach es X.env := by rfl)
    (hpl : ((backTo pos (starEach (e :: es) X.env)).any (·.1) || (backToKw pos (keywordEach kws X.env)).any (·.1.isNone)) = false := by rfl) :
    PE X (.Call (.Name x p) (e :: es) kws pos) (tCallW n ks.length sp gV E t tk) := by
  refine ⟨fun pins s σ H Q I h => ?_⟩
  refine wpAny_Call_Name_kw (ld_glob I hg hm ?_ hdb)
  refine PySem.W.callWith_KW (h₀ := X.base) I.ok.mod.kin hk hall (thn (ha.run pos pins s σ H _ I h) fun us s1 ⟨vs, H1, I1, r, q⟩ => ?_) hpl he
  refine thn (hkw.run pos pins s1 σ H1 _ I1 q) fun ws s2 ⟨zs, H2, I2, rz, l1, l2, q2⟩ => ⟨I2.kIn, ?_⟩
  rw [hks]
  exact FnG.runK F gd hr hb (hx σ) I2 r rz l1 l2 q2
end
section
variable {X : Cx} {B : Bs} {pos kpos : Pos} {e : Expr} {es : List Expr} {kws : List Keyword} {te : DE} {t tr tk : DA} {W : DX} {n : Str} {C : Addr} {nm : Option Str}
abbrev JK (X : Cx) (B : Bs) (kws : List Keyword) (τ : DA) : Prop := PK X kws (lA X.K B τ)
theorem jk_nil : JK X B [] dNil := ⟨fun pos pins s σ H Q I h => pk_nil.run pos pins s σ H Q I (by
  obtain ⟨sl, C, Qd, rs, rl, h, k⟩ := h
  exact k [] [] H C (Stp.refl _ _) rl rfl h)⟩
theorem jk_cons (ha : JE X B e te) (hr : JK X B kws tr) : JK X B (⟨nm, e, kpos⟩ :: kws) (dCons te tr) := ⟨fun pos pins s σ H Q I h => (pk_cons ha hr).run pos pins s σ H Q I (by
  obtain ⟨sl, C, Qd, rs, rl, h, k⟩ := h
  refine ⟨sl, C, _, rs, rl, h, fun v d H1 C1 st1 rl1 r q => ⟨sl, C1, _, rs.mono st1.tx, rl1, q, fun vs ds H2 C2 st2 rl2 r2 q2 => ?_⟩⟩
  exact k _ _ H2 C2 (st1.trans st2) rl2 (.cons (r.mono st2.tx) r2) q2)⟩
/-- f(.., k = v, ..) -/
def dCallW (F : DSp) (np nk : Nat) (src : List Src) (dd : List D) (t tk : DA) (W : DX) : DE := fun s C Q => t s C fun ds C1 => tk s C1 fun zs C2 => ds.length = np ∧ zs.length = nk ∧ F (pickS src ds zs dd) C2 Q fun x C' => W x s C'
section
variable {m np nk : Nat} {F : DSp} {src : List Src} {dd : List D} {dvs : List V} {σ : L2.St} {H : Hp} {Q : VK}
theorem callW_liftX (hd : ∀ H, Reps X.K H dd dvs) (hl : ∀ ds C Q E, F ds C Q E → ds.length = m) (h : lE X.K B (dCallW F np nk src dd tr tk W) σ H Q) : tCallW np nk (lSpX B.P B.w X.K m F) (fun vs zs => pickS src vs zs dvs) (WE (lX X.K B W)) (lA X.K B tr) (lA X.K B tk) σ H Q := by
  obtain ⟨sl, C, Qd, rs, rl, h, k⟩ := h
  refine ⟨sl, C, _, rs, rl, h, fun vs ds H1 C1 st1 rl1 r q => ⟨sl, C1, _, rs.mono st1.tx, rl1, q, fun zs es H2 C2 st2 rl2 rz q => ?_⟩⟩
  obtain ⟨e1, e2, q⟩ := q
  have r3 := reps_pick (r.mono st2.tx) rz (hd H2) src
  exact ⟨by rw [← r.length]; exact e1, by rw [← rz.length]; exact e2, by rw [← r3.length]; exact hl _ _ _ _ q, _, C2, Qd, fun x C' => W x sl C', r3, ⟨rl2.ok, rl2.ti⟩, q, fun v d H' C' st ok r q => k v d H' C' ((st1.trans st2).trans st) ⟨rl2.st.trans st, ok.1, ok.2⟩ r q,
    fun n fs cls d H' C' st ok xr w => ⟨n, fs, sl, C', xr, rs.mono ((st1.trans st2).trans st).tx, ⟨rl2.st.trans st, ok.1, ok.2⟩, w⟩⟩
end
variable {m k np nk : Nat} {f : Addr} {fd : FuncData} {ps ks : List Str} {F : DSp} {src : List Src} {x : Str} {p : Pos}
theorem j_callWX (tk' : Takes X (lX X.K B W)) (dd : List D) {dvs : List V} (G : FnG X.prog X.w X.K X.mg X.base (L2.CX X.prog X.w) k f fd ps (lSpX B.P B.w X.K m F)) (hr : RoomG k X.A) (hm : X.mg x = some (.ref f)) (hk : PySem.W.keepIn X.K (.ref f) = true) (hb : KwB X.K fd ps np ks src dvs)
    (hl : ∀ ds C Q E, F ds C Q E → ds.length = m) (hdd : ∀ H, Reps X.K H dd dvs) (ha : JA X B (e :: es) tr) (hkw : JK X B kws tk) (hg : Gl X x := by rfl) (hdb : (x == ("__debug__" : Str)) = false := by decide)
    (hall : (backToKw pos (keywordEach kws X.env)).all (·.1.isSome) = true := by rfl) (hks : (backToKw pos (keywordEach kws X.env)).filterMap (·.1) = ks := by rfl) (he : starEach (e :: es) X.env = (false, eval e X.env) :: starEach es X.env := by rfl)
    (hpl : ((backTo pos (starEach (e :: es) X.env)).any (·.1) || (backToKw pos (keywordEach kws X.env)).any (·.1.isNone)) = false := by rfl) (hnk : ks.length = nk := by rfl) : JE X B (.Call (.Name x p) (e :: es) kws pos) (dCallW F np nk src dd tr tk W) := by
  subst hnk
  obtain ⟨its, b⟩ := hb
  exact PE.imp (callGW (E := WE (lX X.K B W)) G hr.gd hr.toRoom hg hm hk b (fun σ => passAt tk' σ) ha hkw hall hks hdb he hpl) fun _ _ _ h => callW_liftX hdd hl h
end
end KB
/-! KKx: making an instance by places and keywords. -/
namespace KB
open PySem PySem.Spec PyProof.Rows
open L2 hiding op_eqD op_neD call_listD
end KB
/-! KFd: text.find(part). -/
namespace KB
open PySem PySem.Spec PyProof.Rows SeqAt
open L2 hiding op_eqD op_neD call_listD
end KB
/-! KRl: repr of a list of plain things. -/
namespace KB
open PySem PySem.Spec PyProof.Rows SeqAt
open L2 hiding op_eqD op_neD
end KB
/-! KRd: repr of a dict of texts. -/
namespace KB
open PySem PySem.Spec PyProof.Rows SeqAt PyProof.V
open L2 hiding op_eqD op_neD
variable {X : Cx} {B : Bs}
def encK : Key → PyData
  | .inl i => .int i
  | .inr x => .str x
theorem key_reads {P : Program} {w : World} {h : Heap} : ∀ (k : Key) (key : Value), (mixKind P w).is k key = true → Reads h key (encK k) [] := by
  intro k key hk
  rcases keyIs_shape hk with ⟨i, t, rfl, rfl⟩ | ⟨x, t, rfl, rfl⟩
  · exact .int i t
  · exact .str x t
end KB
/-! KItm: walking over d.items() and d.values(). -/
namespace KB
open PySem PySem.Spec PyProof.Rows
open L2 hiding op_eqD op_neD call_listD
/-! ### the entries of the two kinds -/
/-! ### the walks -/
def prG (kv : D × D) : D := .tup [kv.1, kv.2]
end KB
/-! KSd: d.setdefault(k, v) of a dict with ints or texts as keys. -/
namespace KB
open PySem PySem.Spec PyProof.Rows
open L2 hiding op_eqD op_neD call_listD
end KB
/-! KLs: a, b = a list. -/
namespace KB
open PySem PySem.Spec PyProof.Rows
open L2 hiding op_eqD op_neD call_listD
end KB
/-! KFn: names that hold defs: calls. -/
namespace KB
open PySem PySem.Spec PyProof.Rows
open L2 hiding op_eqD op_neD call_listD
end KB
/-! KDg: dict(xs) of a list of pairs whose first ones are tuples. -/
namespace KB
open PySem PySem.Spec PyProof.Rows
open L2 hiding op_eqD op_neD call_listD
section
variable {X : Cx} {B : Bs}
def mergeG (xs ps : List (D × D)) : List (D × D) := ps.foldl (fun a p => putG a p.1 p.2) xs
theorem putG_keys {xs : List (D × D)} {k v : D} (h : ∀ q ∈ xs, keyG q.1) (hk : keyG k) : ∀ q ∈ putG xs k v, keyG q.1 := by
  unfold putG
  intro q hq
  split at hq
  · obtain ⟨p, hp, rfl⟩ := List.mem_map.mp hq
    split
    · exact h p hp
    · exact h p hp
  · rcases List.mem_append.mp hq with hq | hq
    · exact h q hq
    · rw [List.mem_singleton.mp hq]; exact hk
theorem mergeG_keys : ∀ {ps xs : List (D × D)}, (∀ q ∈ xs, keyG q.1) → (∀ q ∈ ps, keyG q.1) → ∀ q ∈ mergeG xs ps, keyG q.1
  | [], xs, h, _ => h
  | p :: ps, xs, h, g => mergeG_keys (ps := ps) (xs := putG xs p.1 p.2) (putG_keys h (g p List.mem_cons_self)) fun q hq => g q (List.mem_cons_of_mem _ hq)
/-- pairs at their places: what the keys and values are there -/
theorem prsG_of {pins : List (Addr × Obj)} {σ : L2.St} {H : Hp} {s : Shared} (I : Inv X pins σ H s) : ∀ {kvs : List (D × D)} {vs : List V} {us : List Value}, (∀ q ∈ kvs, keyG q.1) → Reps X.K H (kvs.map prG) vs → Vals vs us →
    ∃ (ps : List Addr) (xs : List (NestedKey × Addr × Value)), us = ps.map Value.ref ∧ ps.length = kvs.length ∧ xs.length = kvs.length ∧ RepG X.K H kvs xs ∧ ∀ (j : Nat) k a v, xs[j]? = some (k, a, v) → ∃ b, ps[j]? = some b ∧ IsTup s.heap b #[.ref a, v] ∧ (nestedKind X.prog X.w).is s.heap k a
  | [], _, _, _, h, r => by
    cases h
    cases r
    exact ⟨[], [], rfl, rfl, rfl, .nil, fun j k a v e => by simp at e⟩
  | p :: kvs, _, _, g, h, r => by
    obtain ⟨v0, vr, rfl, h1, t⟩ := h
    cases r with
    | @cons _ u0 _ us ru rt =>
    obtain ⟨b, ws, rfl, hq, hr⟩ := h1
    obtain ⟨x, r2, rfl, hx, y, r3, rfl, hy, hn⟩ := hr
    cases hn
    obtain rfl : u0 = Value.ref b := ru
    have kg := g p List.mem_cons_self
    obtain ⟨⟨dd, hdd⟩, _⟩ := id kg
    have hx0 := hx
    rw [hdd] at hx
    obtain ⟨ka, kvs0, rfl, _, _⟩ := hx
    obtain ⟨its, rv, ht, _⟩ := I.tuple hq
    obtain ⟨u1, u2, ei, ru1, ru2⟩ := vals2 rv
    subst ei
    obtain rfl : u1 = Value.ref ka := ru1
    obtain ⟨ps, xs, e1, e2, e3, e4, e5⟩ := prsG_of I (fun q hq => g q (List.mem_cons_of_mem _ hq)) t rt
    subst e1
    refine ⟨b :: ps, (nk p.1, ka, u2) :: xs, rfl, by rw [List.length_cons, List.length_cons, e2], by rw [List.length_cons, List.length_cons, e3], .cons ⟨rfl, hx0, y, hy, ru2⟩ e4, fun j k a v e => ?_⟩
    cases j with
    | zero =>
      simp at e
      obtain ⟨rfl, rfl, rfl⟩ := e
      exact ⟨b, rfl, ht, key_is I kg hx0⟩
    | succ j =>
      obtain ⟨c, q1, q2, q3⟩ := e5 j k a v (by simpa using e)
      exact ⟨c, by simpa using q1, q2, q3⟩
theorem repG_merge {H : Hp} : ∀ {ps : List (D × D)} {ys : List (NestedKey × Addr × Value)} {kvs : List (D × D)} {xs : List (NestedKey × Addr × Value)}, RepG X.K H ps ys → RepG X.K H kvs xs → RepG X.K H (mergeG kvs ps) (PySem.storedAllH xs ys)
  | [], _, _, _, h, g => by cases h; exact g
  | p :: ps, _, _, _, h, g => by
    cases h with
    | @cons _ y _ ys r t =>
      obtain ⟨r1, r2, v, r3, r4⟩ := r
      have := repG_put g r2 r3 r4
      rw [r1] at this
      exact repG_merge (ps := ps) (ys := ys) t this
def dictGR : List D → Cp → DQ → Prop := fun ds C Q => ∃ p kvs, ds = [.ptr p] ∧ isL C p (kvs.map prG) ∧ (∀ q ∈ kvs, keyG q.1) ∧ ∀ q, C q = none → Q (.ptr q) (up C q (.dg (mergeG [] kvs)))
theorem call_dictGD (hc : X.calm = true) (hB : B.P = X.prog ∧ B.w = X.w) (hu : X.A.units + 20 < cLine) : CallD X B (.type "dict") dictGR := by
  intro pins s σ H xs us Q I rx h
  obtain ⟨ds, C, Qd, r, rl, ⟨p, kvs, e, hl, hk, h⟩, k⟩ := h
  subst e
  obtain ⟨v, r2, rfl, hv, hn⟩ := r
  cases hn; cases hv
  obtain ⟨u, rfl, ru⟩ := vals1 rx
  obtain rfl : u = Value.ref p := ru
  obtain ⟨vs, hq, hr⟩ := isL.sq rl hl
  obtain ⟨its, rv, pl, hz⟩ := I.list hq
  obtain ⟨ps, ys, ei, l1, l2, rg, hpr⟩ := prsG_of I hk hr rv
  subst ei
  obtain ⟨o, n, ho, hcl, hd, hdat⟩ := pl
  have lp : ys.length = ps.length := l2.trans l1.symm
  have hz2 : ps.length ≤ sizeLine := by
    have := rv.length
    rw [List.length_map] at this
    omega
  refine PySem.call_dict_pairsH (knd := nestedKind X.prog X.w) (ps := ys) (PySem.PairArg.list p (ps.map Value.ref).toArray (fun j => ps.getD j 0) (ys.map fun y => (Value.ref y.2.1, y.2.2))) (I.ok.hd hc) (show (X.A.in1.in1).units + 8 < cLine by show X.A.units + 1 + 1 + 8 < cLine; omega) ⟨⟨o, n, ho, hcl, hd, hdat⟩, by simp [lp], fun j k v e => ?_⟩ ⟨by rw [List.length_map], fun i key v e => ?_⟩ (fun h' hk' x hx => ?_) (by rw [List.length_map, lp]; exact hz2) fun h' tk hd' kk => ?_
  · rw [List.getElem?_map] at e
    cases ey : ys[j]? with
    | none => rw [ey] at e; cases e
    | some y =>
      rw [ey] at e
      cases e
      obtain ⟨b, q1, q2, q3⟩ := hpr j y.1 y.2.1 y.2.2 ey
      refine ⟨by simp [q1], .inl ?_⟩
      show s.heap.IsTuple (ps.getD j 0) _
      rw [show ps.getD j 0 = b by rw [List.getD_eq_getElem?_getD, q1]; rfl]
      exact q2
  · have e : (ys.map fun y => (Value.ref y.2.1, y.2.2))[i]? = some (key, v) := e
    rw [List.getElem?_map] at e
    cases ey : ys[i]? with
    | none => rw [ey] at e; cases e
    | some y =>
      rw [ey] at e
      cases e
      exact ⟨y.1, y.2.1, rfl, rfl⟩
  · obtain ⟨j, hj, ej⟩ := List.mem_iff_getElem.mp hx
    obtain ⟨b, q1, q2, q3⟩ := hpr j x.1 x.2.1 x.2.2 (by rw [List.getElem?_eq_getElem hj, ej])
    exact PySem.nestedKind_stays.stays (fun b' o' vs' n' e1 _ => hk' b' o' (Nat.ne_of_lt (Heap.lt_size e1)) (by simp) e1) q3
  · have hm : (s.heap.objs.size == sysModules) = false := beq_eq_false_iff_ne.mpr (Nat.ne_of_gt I.big)
    obtain ⟨od, es, ep, h1, h2, h3, h4, h5, h6⟩ := hd'
    have hlen : (PySem.storedAllH [] ys).length ≤ sizeLine := Nat.le_trans (PySem.storedAllH_length ys []) (by rw [List.length_nil, Nat.zero_add, lp]; exact hz2)
    have hnn := I.hok.fresh (Nat.le_refl s.heap.objs.size)
    refine ⟨.ref s.heap.objs.size, _, I.laid (a := s.heap.objs.size) (o := DgObj X.prog X.w s.heap.objs.size (PySem.storedAllH [] ys)) (t' := tk) (fun b o e => kk b o (by simp) e) (Nat.le_refl _) ?_, rfl, ?_⟩
    · exact ⟨⟨od, es, ep, h1, h2, h3, h4, h6, hlen, hm⟩, ⟨_, h1⟩, fun ha hb ⟨o, es, ep, a1, a2⟩ k => ⟨o, es, ep, k o a1, a2⟩⟩
    · have nf : ¬ Frz (H s.heap.objs.size) := by rw [hnn]; exact id
      refine k _ (.ptr s.heap.objs.size) _ (up C s.heap.objs.size (.dg (mergeG [] kvs))) (stp_put nf (.inr hnn)) (rl.putNew hnn ?_) rfl (h _ (rl.fresh hnn))
      rw [hB.1, hB.2]
      exact ⟨_, upd_same, (repG_merge rg .nil).mono (tx_upd nf), mergeG_keys (fun q hq => nomatch hq) hk⟩
end
end KB
/-! KRg: repr of a thing of any of the plain kinds, nested. -/
namespace KB
open PySem PySem.Spec PyProof.Rows SeqAt PyProof.V
open L2 hiding op_eqD op_neD
variable {X : Cx} {B : Bs}
mutual
/-- what a thing is shown as -/
inductive Sh (C : Cp) : D → PyData → Prop
  | non : Sh C .non .none
  | bl (b : Bool) : Sh C (.bl b) (.bool b)
  | int (i : Int) : Sh C (.int i) (.int i)
  | str (l : List Nat) : Sh C (.str l) (.str ⟨l.toArray⟩)
  | tup {ds : List D} {ps : List PyData} : ShA C ds ps → Sh C (.tup ds) (.tuple ps)
  | lst {p : Addr} {ds : List D} {ps : List PyData} : isL C p ds → ShA C ds ps → Sh C (.ptr p) (.list ps)
  | dk {p : Addr} {kvs : List (DKey × D)} {ps : List (PyData × PyData)} : C p = some (.dk kvs) → ShK C kvs ps → Sh C (.ptr p) (.dict ps)
inductive ShA (C : Cp) : List D → List PyData → Prop
  | nil : ShA C [] []
  | cons {d : D} {ds : List D} {p : PyData} {ps : List PyData} : Sh C d p → ShA C ds ps → ShA C (d :: ds) (p :: ps)
inductive ShK (C : Cp) : List (DKey × D) → List (PyData × PyData) → Prop
  | nil : ShK C [] []
  | cons {k : DKey} {d : D} {kvs : List (DKey × D)} {p : PyData} {ps : List (PyData × PyData)} : Sh C d p → ShK C kvs ps → ShK C ((k, d) :: kvs) ((encK (keyOf k), p) :: ps)
end
mutual
/-- no lists within -/
def noLst : PyData → Bool
  | .list _ => false
  | .tuple ps => noLsts ps
  | .dict kvs => noLstK kvs
  | _ => true
def noLsts : List PyData → Bool
  | [] => true
  | p :: ps => noLst p && noLsts ps
def noLstK : List (PyData × PyData) → Bool
  | [] => true
  | (_, p) :: ps => noLst p && noLstK ps
end
mutual
theorem Sh.reads {pins : List (Addr × Obj)} {σ : L2.St} {H : Hp} {s : Shared} {C : Cp} (I : Inv X pins σ H s) (rl : Rl X.K B H C) : ∀ (p : PyData) (d : D) (v : V) (u : Value), Sh C d p → Rep X.K H d v → RelV v u → ∃ as, Reads s.heap u p as ∧ (noLst p = true → sysModules ∉ as)
  | .none, _, _, _, h, r, ru => by
    cases h; cases r; cases ru
    exact ⟨[], .none, fun _ => by simp⟩
  | .bool b, _, _, _, h, r, ru => by
    cases h; cases r; cases ru
    exact ⟨[], .bool b, fun _ => by simp⟩
  | .int i, _, _, _, h, r, ru => by
    cases h; cases r
    obtain ⟨t, rfl⟩ := ru
    exact ⟨[], .int i t, fun _ => by simp⟩
  | .str x, _, _, _, h, r, ru => by
    cases h; cases r
    obtain ⟨t, rfl⟩ := ru
    exact ⟨[], .str _ t, fun _ => by simp⟩
  | .tuple ps, _, _, u, h, r, ru => by
    cases h with
    | tup h =>
    obtain ⟨a, vs, rfl, hq, hr⟩ := r
    obtain rfl : u = Value.ref a := ru
    obtain ⟨its, rv, ht, _⟩ := I.tuple hq
    obtain ⟨as, q1, q2⟩ := ShA.reads I rl ps _ _ its h hr rv
    obtain ⟨o, ho, hc, n, hd⟩ := ht
    exact ⟨as, .tuple ho hc hd q1, fun z => q2 (by unfold noLst at z; exact z)⟩
  | .list ps, _, _, u, h, r, ru => by
    cases h with
    | lst hl h =>
    cases r
    obtain rfl : u = Value.ref _ := ru
    obtain ⟨vs, hq, hr⟩ := isL.sq rl hl
    obtain ⟨its, rv, pl, _⟩ := I.list hq
    obtain ⟨as, q1, q2⟩ := ShA.reads I rl ps _ _ its h hr rv
    obtain ⟨o, n, ho, hc, hd, hdat⟩ := pl
    exact ⟨_, .list ho hc hdat q1, fun z => by unfold noLst at z; cases z⟩
  | .dict ps, _, _, u, h, r, ru => by
    cases h with
    | dk hl h =>
    cases r
    obtain rfl : u = Value.ref _ := ru
    obtain ⟨ws, hw, rk⟩ : ∃ ws, H _ = some (.dK ws) ∧ RepK keyOf X.K H _ ws := rl.ok _ _ hl
    obtain ⟨_, sm, vs, kv, hd⟩ := dk_of I.hok hw
    obtain ⟨as, q1, q2⟩ := ShK.reads I rl ps _ ws vs h rk kv
    refine ⟨_, reads_dictOf (enc := encK) key_reads hd q1, fun z m => ?_⟩
    rcases List.mem_cons.mp m with m | m
    · rw [← m] at sm
      simp at sm
    · exact q2 (by unfold noLst at z; exact z) m
theorem ShA.reads {pins : List (Addr × Obj)} {σ : L2.St} {H : Hp} {s : Shared} {C : Cp} (I : Inv X pins σ H s) (rl : Rl X.K B H C) : ∀ (ps : List PyData) (ds : List D) (vs : List V) (us : List Value), ShA C ds ps → Reps X.K H ds vs → Vals vs us → ∃ as, ReadsAll s.heap us ps as ∧ (noLsts ps = true → sysModules ∉ as)
  | [], _, _, _, h, r, ru => by
    cases h; cases r; cases ru
    exact ⟨[], .nil, fun _ => by simp⟩
  | p :: ps, _, _, _, h, r, ru => by
    cases h with
    | cons h1 h2 =>
    obtain ⟨v, vs, rfl, a, t⟩ := r
    cases ru with
    | cons b c =>
    obtain ⟨as, q1, q2⟩ := Sh.reads I rl p _ v _ h1 a b
    obtain ⟨bs, q3, q4⟩ := ShA.reads I rl ps _ vs _ h2 t c
    refine ⟨_, .cons q1 q3, fun z m => ?_⟩
    unfold noLsts at z
    rw [Bool.and_eq_true] at z
    rcases List.mem_append.mp m with m | m
    · exact q2 z.1 m
    · exact q4 z.2 m
theorem ShK.reads {pins : List (Addr × Obj)} {σ : L2.St} {H : Hp} {s : Shared} {C : Cp} (I : Inv X pins σ H s) (rl : Rl X.K B H C) : ∀ (ps : List (PyData × PyData)) (kvs : List (DKey × D)) (ws : List (Key × V)) (vs : List (Key × Value)), ShK C kvs ps → RepK keyOf X.K H kvs ws → KV ws vs → ∃ as, PairsRead s.heap encK vs ps as ∧ (noLstK ps = true → sysModules ∉ as)
  | [], _, _, _, h, r, ru => by
    cases h; cases r; cases ru
    exact ⟨[], .nil, fun _ => by simp⟩
  | p :: ps, _, _, _, h, r, ru => by
    cases h with
    | cons h1 h2 =>
    cases r with
    | @cons _ w _ ws a t =>
    cases ru with
    | @cons _ z _ vs b c =>
    obtain ⟨k', y⟩ := w
    obtain ⟨k2, u⟩ := z
    obtain ⟨e1, e2⟩ := a
    obtain ⟨e3, e4⟩ := b
    simp only at e1 e2 e3 e4
    subst e1
    subst e3
    obtain ⟨as, q1, q2⟩ := Sh.reads I rl _ _ y u h1 e2 e4
    obtain ⟨bs, q3, q4⟩ := ShK.reads I rl ps _ ws vs h2 t c
    refine ⟨_, PairsRead.cons q1 q3, fun z m => ?_⟩
    unfold noLstK at z
    rw [Bool.and_eq_true] at z
    rcases List.mem_append.mp m with m | m
    · exact q2 z.1 m
    · exact q4 z.2 m
end
end KB
/-! KZt: zip of two tuples, whatever they hold. -/
namespace KB
open PySem PySem.Spec PyProof.Rows
open L2 hiding op_eqD op_neD call_listD
end KB
/-! KMt: tuple * int. -/
namespace KB
open PySem PySem.Spec PyProof.Rows
open L2 hiding op_eqD op_neD call_listD
end KB
/-! KRc: a def that calls itself: its reading by how deep it may. -/
namespace KB
open PySem PySem.Spec PyProof.Rows
open L2
theorem lSp_false {P : Program} {w : World} {K : PySem.W.Frag} {n : Nat} {vs : List V} {H : Hp} {Q : VK} {E : XK} (h : lSp P w K n (fun _ _ _ _ => False) vs H Q E) : False := by
  obtain ⟨_, _, _, _, _, _, f, _⟩ := h
  exact f
end KB
/-! KLn: len of a set. -/
namespace KB
open PySem PySem.Spec PyProof.Rows
open L2 hiding op_eqD op_neD call_listD
end KB
/-! KIn: xs.insert(i, y). -/
namespace KB
open PySem PySem.Spec PyProof.Rows
open L2 hiding op_eqD op_neD call_listD
end KB
/-! KWd: walking over the keys of a dict of the module. -/
namespace KB
open PySem PySem.Spec PyProof.Rows
open L2 hiding op_eqD op_neD call_listD
end KB
/-! KGf: a field as a target among others (a, b, self.x = ..). -/
namespace KB
open PySem PySem.Spec PyProof.Rows
open L2 hiding op_eqD op_neD call_listD
end KB
/-! KEz: a list compared with an empty one, whatever it holds. -/
namespace KB
open PySem PySem.Spec PyProof.Rows SeqAt
open L2 hiding op_eqD op_neD call_listD
section
variable {X : Cx} {B : Bs}
def eqZR (neg : Bool) : D → D → Cp → DQ → Prop := fun x y C Q => ∃ p q ds, x = .ptr p ∧ y = .ptr q ∧ isL C p ds ∧ isL C q [] ∧ Q (.bl (if neg then !ds.isEmpty else ds.isEmpty)) C
theorem rc_z {A : Around} {σ : L2.St} {pins : List (Addr × Obj)} {H : Hp} {s : Shared} (I : L2.Inv X pins σ H s) (ds : List D) (p q : Addr) (hA : A.units + 70 < cLine) (rd : ∃ vs, SqL X.K H p vs ∧ Reps X.K H ds vs) (re : ∃ vs, SqL X.K H q vs ∧ Reps X.K H [] vs) : RcAt A s (.ref p) (.ref q) ds.isEmpty ∧ RcNeAt A s (.ref p) (.ref q) (!ds.isEmpty) := by
  cases ds with
  | nil =>
    have h1 := RcAt_L I [] [] A p q (by decide) rfl rfl hA rd re
    have h2 := RcNeAt_L I [] [] A p q (by decide) rfl rfl hA rd re
    exact ⟨h1, h2⟩
  | cons d ds =>
    obtain ⟨vs, hq, hr⟩ := rd
    obtain ⟨ws, hq2, hr2⟩ := re
    obtain ⟨its, rv, pl, _⟩ := I.list hq
    obtain ⟨its2, rv2, pl2, _⟩ := I.list hq2
    have l1 : its.toArray.size = ds.length + 1 := by rw [List.size_toArray, ← rv.length, ← hr.length, List.length_cons]
    have l2 : its2.toArray.size = 0 := by rw [List.size_toArray, ← rv2.length, ← hr2.length]; rfl
    have hne : (its.toArray.size != its2.toArray.size) = true := by rw [l1, l2]; simp
    exact ⟨RcAt.lists_lengths pl.isList pl2.isList hne (by omega), RcNeAt.lists_lengths pl.isList pl2.isList hne (by omega)⟩
theorem op_neZ (hu : X.A.units + 70 < cLine) : OpD X B (compareOp .NotEq) (eqZR true) := by
  intro pins s σ H x y v u Q I rx ry h
  obtain ⟨dx, dy, C, Qd, r1, r2, rl, ⟨p, q, ds, rfl, rfl, h1, h2, h3⟩, k⟩ := h
  cases r1; cases r2; cases rx; cases ry
  exact (rc_z I ds p q hu (h1.sq rl) (h2.sq rl)).2 X.prog X.w _ _ ⟨.bl (!ds.isEmpty), H, I, rfl, k _ (.bl (!ds.isEmpty)) H C (Stp.refl _ _) rl rfl h3⟩
end
end KB
/-! KXv: exceptions made as values, by places and by keywords. -/
namespace KB
open PySem PySem.Spec PyProof.Rows
open PySem.HandSPX
end KB
namespace KB
open PySem PySem.Spec PyProof.Rows
open L2 hiding op_eqD op_neD call_listD
end KB
/-! KRh: repr once more: lists that are known not to be the dict of the modules. -/
namespace KB
open PySem PySem.Spec PyProof.Rows SeqAt PyProof.V
open L2 hiding op_eqD op_neD
variable {X : Cx} {B : Bs}
mutual
/-- what a thing is shown as -/
inductive ShB (C : Cp) : D → PyData → Prop
  | non : ShB C .non .none
  | bl (b : Bool) : ShB C (.bl b) (.bool b)
  | int (i : Int) : ShB C (.int i) (.int i)
  | str (l : List Nat) : ShB C (.str l) (.str ⟨l.toArray⟩)
  | tup {ds : List D} {ps : List PyData} : ShBA C ds ps → ShB C (.tup ds) (.tuple ps)
  | lst {p : Addr} {ds : List D} {ps : List PyData} : p ≠ sysModules → isL C p ds → ShBA C ds ps → ShB C (.ptr p) (.list ps)
  | dk {p : Addr} {kvs : List (DKey × D)} {ps : List (PyData × PyData)} : C p = some (.dk kvs) → ShBK C kvs ps → ShB C (.ptr p) (.dict ps)
inductive ShBA (C : Cp) : List D → List PyData → Prop
  | nil : ShBA C [] []
  | cons {d : D} {ds : List D} {p : PyData} {ps : List PyData} : ShB C d p → ShBA C ds ps → ShBA C (d :: ds) (p :: ps)
inductive ShBK (C : Cp) : List (DKey × D) → List (PyData × PyData) → Prop
  | nil : ShBK C [] []
  | cons {k : DKey} {d : D} {kvs : List (DKey × D)} {p : PyData} {ps : List (PyData × PyData)} : ShB C d p → ShBK C kvs ps → ShBK C ((k, d) :: kvs) ((encK (keyOf k), p) :: ps)
end
mutual
theorem ShB.reads {pins : List (Addr × Obj)} {σ : L2.St} {H : Hp} {s : Shared} {C : Cp} (I : Inv X pins σ H s) (rl : Rl X.K B H C) : ∀ (p : PyData) (d : D) (v : V) (u : Value), ShB C d p → Rep X.K H d v → RelV v u → ∃ as, Reads s.heap u p as ∧ sysModules ∉ as
  | .none, _, _, _, h, r, ru => by
    cases h; cases r; cases ru
    exact ⟨[], .none, by simp⟩
  | .bool b, _, _, _, h, r, ru => by
    cases h; cases r; cases ru
    exact ⟨[], .bool b, by simp⟩
  | .int i, _, _, _, h, r, ru => by
    cases h; cases r
    obtain ⟨t, rfl⟩ := ru
    exact ⟨[], .int i t, by simp⟩
  | .str x, _, _, _, h, r, ru => by
    cases h; cases r
    obtain ⟨t, rfl⟩ := ru
    exact ⟨[], .str _ t, by simp⟩
  | .tuple ps, _, _, u, h, r, ru => by
    cases h with
    | tup h =>
    obtain ⟨a, vs, rfl, hq, hr⟩ := r
    obtain rfl : u = Value.ref a := ru
    obtain ⟨its, rv, ht, _⟩ := I.tuple hq
    obtain ⟨as, q1, q2⟩ := ShBA.reads I rl ps _ _ its h hr rv
    obtain ⟨o, ho, hc, n, hd⟩ := ht
    exact ⟨as, .tuple ho hc hd q1, q2⟩
  | .list ps, _, _, u, h, r, ru => by
    cases h with
    | lst hne hl h =>
    cases r
    obtain rfl : u = Value.ref _ := ru
    obtain ⟨vs, hq, hr⟩ := isL.sq rl hl
    obtain ⟨its, rv, pl, _⟩ := I.list hq
    obtain ⟨as, q1, q2⟩ := ShBA.reads I rl ps _ _ its h hr rv
    obtain ⟨o, n, ho, hc, hd, hdat⟩ := pl
    exact ⟨_, .list ho hc hdat q1, fun m => by
      rcases List.mem_cons.mp m with m | m
      · exact hne m.symm
      · exact q2 m⟩
  | .dict ps, _, _, u, h, r, ru => by
    cases h with
    | dk hl h =>
    cases r
    obtain rfl : u = Value.ref _ := ru
    obtain ⟨ws, hw, rk⟩ : ∃ ws, H _ = some (.dK ws) ∧ RepK keyOf X.K H _ ws := rl.ok _ _ hl
    obtain ⟨_, sm, vs, kv, hd⟩ := dk_of I.hok hw
    obtain ⟨as, q1, q2⟩ := ShBK.reads I rl ps _ ws vs h rk kv
    refine ⟨_, reads_dictOf (enc := encK) key_reads hd q1, fun m => ?_⟩
    rcases List.mem_cons.mp m with m | m
    · rw [← m] at sm
      simp at sm
    · exact q2 m
theorem ShBA.reads {pins : List (Addr × Obj)} {σ : L2.St} {H : Hp} {s : Shared} {C : Cp} (I : Inv X pins σ H s) (rl : Rl X.K B H C) : ∀ (ps : List PyData) (ds : List D) (vs : List V) (us : List Value), ShBA C ds ps → Reps X.K H ds vs → Vals vs us → ∃ as, ReadsAll s.heap us ps as ∧ sysModules ∉ as
  | [], _, _, _, h, r, ru => by
    cases h; cases r; cases ru
    exact ⟨[], .nil, by simp⟩
  | p :: ps, _, _, _, h, r, ru => by
    cases h with
    | cons h1 h2 =>
    obtain ⟨v, vs, rfl, a, t⟩ := r
    cases ru with
    | cons b c =>
    obtain ⟨as, q1, q2⟩ := ShB.reads I rl p _ v _ h1 a b
    obtain ⟨bs, q3, q4⟩ := ShBA.reads I rl ps _ vs _ h2 t c
    refine ⟨_, .cons q1 q3, fun m => ?_⟩
    rcases List.mem_append.mp m with m | m
    · exact q2 m
    · exact q4 m
theorem ShBK.reads {pins : List (Addr × Obj)} {σ : L2.St} {H : Hp} {s : Shared} {C : Cp} (I : Inv X pins σ H s) (rl : Rl X.K B H C) : ∀ (ps : List (PyData × PyData)) (kvs : List (DKey × D)) (ws : List (Key × V)) (vs : List (Key × Value)), ShBK C kvs ps → RepK keyOf X.K H kvs ws → KV ws vs → ∃ as, PairsRead s.heap encK vs ps as ∧ sysModules ∉ as
  | [], _, _, _, h, r, ru => by
    cases h; cases r; cases ru
    exact ⟨[], .nil, by simp⟩
  | p :: ps, _, _, _, h, r, ru => by
    cases h with
    | cons h1 h2 =>
    cases r with
    | @cons _ w _ ws a t =>
    cases ru with
    | @cons _ z _ vs b c =>
    obtain ⟨k', y⟩ := w
    obtain ⟨k2, u⟩ := z
    obtain ⟨e1, e2⟩ := a
    obtain ⟨e3, e4⟩ := b
    simp only at e1 e2 e3 e4
    subst e1
    subst e3
    obtain ⟨as, q1, q2⟩ := ShB.reads I rl _ _ y u h1 e2 e4
    obtain ⟨bs, q3, q4⟩ := ShBK.reads I rl ps _ ws vs h2 t c
    refine ⟨_, PairsRead.cons q1 q3, fun m => ?_⟩
    rcases List.mem_append.mp m with m | m
    · exact q2 m
    · exact q4 m
end
end KB
/-! KSi: sorted(d.items()). -/
namespace KB
open PySem PySem.Spec PyProof.Rows
open L2 hiding op_eqD op_neD call_listD
end KB
/-! KLm: a lambda made and handed over as a key. -/
namespace KB
open PySem PySem.Spec PyProof.Rows
open L2 hiding op_eqD op_neD call_listD
section
variable {X : Cx} {pins : List (Addr × Obj)} {σ : L2.St} {H : Hp} {s : Shared}
/-- a table may have grown, new frozen things may stand; all else is as it was -/
structure TStep (H : Hp) (P : Addr) (H1 : Hp) : Prop where
  tx : Tx H H1
  same : ∀ b o, b ≠ P → H b = some o → H1 b = some o
  ti : (∀ p o, H p = some o → TFo o) → ∀ p o, H1 p = some o → TFo o
abbrev frzE (o : Obj) : HO := .frz o (.ext fun _ => True)
theorem TStep.frz {H H1 : Hp} {P a : Addr} {o : Obj} (t : TStep H P H1) (h : H1 a = none) : TStep H P (upd H1 a (frzE o)) := by
  have ne : ∀ b u, H1 b = some u → b ≠ a := fun b u e z => by rw [z, h] at e; cases e
  refine ⟨t.tx.trans (tx_new h), fun b u hb e => ?_, fun q => ti_upd (t.ti q)⟩
  have := t.same b u hb e
  rw [upd_ne (ne b u this)]
  exact this
theorem lam_makeF {c P : Addr} {params : Arguments} {body : Expr} {scope : Scope} {pos : Pos} {E : Value → Shared → Prop} {Q : Value → Shared → Prop} (I : Inv X pins σ H s) (TB : LamX.TabB X.base X.mg c P) (hcode : X.env.code = .ref c)
    (hT : TabF H P (X.env.qual ++ "<lambda>")) (hdef : defaultsOf params X.env = ([], [])) (hfree : ∀ y ∈ scope.names, y.2 = .free → ∃ c, X.env.cells.lookup y.1 = some c)
    (k : ∀ (f c' : Addr) (pm ctv : Value) (H1 : Hp) (s' : Shared), Inv X pins σ H1 s' → TStep H P H1 → TabF H1 P (X.env.qual ++ "<lambda>") →
      H1 f = some (frzE (PySem.W.kla_obj "<lambda>" (X.env.qual ++ "<lambda>") params body scope (cloFrom X.env.cells scope.names []) pm c' ctv)) → CodeAt H1 (X.env.qual ++ "<lambda>") (.ref c') → Q (.ref f) s') :
    wpAny (model X.prog X.w) X.A (eval (.Lambda params body scope pos) X.env) Q E s := by
  obtain ⟨ps, hP, ht, ha⟩ := hT
  have bA : s.heap.BuiltinsAt X.mg P := TB.bm.keeps I.bk
  have tO : s.heap.get? P = some { cls := .none, data := .fields ps } := I.hok P _ hP
  refine PySem.W.kla_eval hdef ?_
  cases hc : codeAmong pos ps.toList with
  | none =>
    refine PySem.W.kla_makeFunction (c := c) (P := P) (ps := ps) (mg := X.mg) (closure_ok hfree) I.ok.glob (I.mod.glob.keeps I.bk) hcode (TB.code.keeps I.bk) tO ht hc TB.gP bA fun c1 ctv g tk hx hge hlt hrec htb => ?_
    obtain ⟨c2, oc, vs, t, ee, q1, q2, q3⟩ := hrec
    cases ee
    have n1 : H c1 = none := I.hok.fresh hge
    have nPc : P ≠ c1 := fun z => by rw [← z, hP] at n1; cases n1
    have J1 := LamX.inv_table (q := X.env.qual ++ "<lambda>") (t' := tk) (more := #[rawInt pos.line, rawInt pos.col, .ref c1]) (h' := g) I hP (fun b o hb e => hx b o hb e) htb hge ⟨oc, vs, t, q1, q2, q3⟩
    generalize hps : ps ++ #[rawInt pos.line, rawInt pos.col, .ref c1] = ps1 at J1
    have J2 := J1.write (x := c1) (e := c1) (o := frzE oc) (h' := g) (t' := tk) (by rw [upd_same]; trivial) (.inl rfl) (fun b u _ e => e) ⟨oc, q1⟩ ⟨q1, trivial, ⟨oc, q1⟩, fun _ _ _ _ => trivial⟩
    have T2 : TStep H P (upd (upd (upd H P (.tbl ps1)) c1 (LamX.CodeO c1 (X.env.qual ++ "<lambda>"))) c1 (frzE oc)) := by
      have ev : ∀ b, b ≠ P → b ≠ c1 → upd (upd (upd H P (.tbl ps1)) c1 (LamX.CodeO c1 (X.env.qual ++ "<lambda>"))) c1 (frzE oc) b = H b := fun b h1 h2 => by rw [upd_ne h2, upd_ne h2, upd_ne h1]
      have nb : ∀ b u, H b = some u → b ≠ c1 := fun b u e z => by rw [z, n1] at e; cases e
      have nP : ∀ b u, H b = some u → (∀ z, u ≠ .tbl z) → b ≠ P := fun b u e z q => by
        rw [q, hP] at e
        exact z ps (Option.some.inj e).symm
      refine ⟨⟨fun a xs e => ?_, fun a o u e => ?_⟩, fun b o hb e => by rw [ev b hb (nb b o e)]; exact e, fun q p o e => ?_⟩
      · rw [ev a (nP a _ e fun z => by simp) (nb a _ e)]; exact e
      · rw [ev a (nP a _ e fun z => by simp) (nb a _ e)]; exact e
      · by_cases z1 : p = c1
        · rw [z1, upd_same] at e; cases e; trivial
        by_cases z2 : p = P
        · rw [upd_ne z1, upd_ne z1, z2, upd_same] at e; cases e; trivial
        · rw [ev p z2 z1] at e; exact q p o e
    have C2 : CodeAt (upd (upd (upd H P (.tbl ps1)) c1 (LamX.CodeO c1 (X.env.qual ++ "<lambda>"))) c1 (frzE oc)) (X.env.qual ++ "<lambda>") (.ref c1) := ⟨c1, oc, vs, t, rfl, upd_same, q2, q3⟩
    have P2 : (upd (upd (upd H P (.tbl ps1)) c1 (LamX.CodeO c1 (X.env.qual ++ "<lambda>"))) c1 (frzE oc)) P = some (.tbl ps1) := by rw [upd_ne nPc, upd_ne nPc, upd_same]
    have F2 : TabF (upd (upd (upd H P (.tbl ps1)) c1 (LamX.CodeO c1 (X.env.qual ++ "<lambda>"))) c1 (frzE oc)) P (X.env.qual ++ "<lambda>") := by
      have el : ps1.toList = ps.toList ++ [rawInt pos.line, rawInt pos.col, .ref c1] := by rw [← hps]; simp
      refine ⟨ps1, P2, by rw [el]; exact PySem.TriplesOk_snoc _ _ _ _ ht, fun p' cv hcv => ?_⟩
      rw [el] at hcv
      rcases LamX.among_app _ ht hcv with z | z
      · exact (ha p' cv z).mono T2.tx
      · rw [z]; exact C2
    generalize upd (upd (upd H P (.tbl ps1)) c1 (LamX.CodeO c1 (X.env.qual ++ "<lambda>"))) c1 (frzE oc) = H2 at J2 T2 C2 P2 F2
    have nf : H2 g.objs.size = none := J2.hok.fresh (Nat.le_refl _)
    have J3 := J2.laid (a := g.objs.size) (o := frzE (PySem.W.kla_obj "<lambda>" (X.env.qual ++ "<lambda>") params body scope (cloFrom X.env.cells scope.names []) ((X.mg "__name__").getD .none) c1 ctv)) (t' := tk)
      (h' := g.push (PySem.W.kla_obj "<lambda>" (X.env.qual ++ "<lambda>") params body scope (cloFrom X.env.cells scope.names []) ((X.mg "__name__").getD .none) c1 ctv)) (fun b u e => Heap.get?_push_of_some _ e) (Nat.le_refl _) ⟨Heap.get?_push_size _ rfl, trivial, ⟨_, Heap.get?_push_size _ rfl⟩, fun _ _ _ _ => trivial⟩
    have T3 := T2.frz (o := PySem.W.kla_obj "<lambda>" (X.env.qual ++ "<lambda>") params body scope (cloFrom X.env.cells scope.names []) ((X.mg "__name__").getD .none) c1 ctv) nf
    have tx3 := tx_new (o := frzE (PySem.W.kla_obj "<lambda>" (X.env.qual ++ "<lambda>") params body scope (cloFrom X.env.cells scope.names []) ((X.mg "__name__").getD .none) c1 ctv)) nf
    have F3 : TabF (upd H2 g.objs.size (frzE (PySem.W.kla_obj "<lambda>" (X.env.qual ++ "<lambda>") params body scope (cloFrom X.env.cells scope.names []) ((X.mg "__name__").getD .none) c1 ctv))) P (X.env.qual ++ "<lambda>") := by
      obtain ⟨p2, r1, r2, r3⟩ := F2
      exact ⟨p2, by rw [upd_ne fun z => by rw [← z, r1] at nf; cases nf]; exact r1, r2, fun a b z => (r3 a b z).mono tx3⟩
    exact k _ _ _ _ _ _ J3 T3 F3 upd_same (C2.mono tx3)
  | some cv =>
    have hcv := ha pos cv hc
    obtain ⟨c1, oc, vs, t, ee, q1, q2, q3⟩ := id hcv
    subst ee
    refine PySem.W.kla_makeFunctionHit (c := c) (P := P) (ps := ps) (mg := X.mg) (closure_ok hfree) I.ok.glob (I.mod.glob.keeps I.bk) hcode (TB.code.keeps I.bk) tO ht hc bA fun ctv g tk hx hsz => ?_
    have J1 : Inv X pins σ H { s with heap := g, toks := tk } := I.kept hx
    have nf : H g.objs.size = none := J1.hok.fresh (Nat.le_refl _)
    have J3 := J1.laid (a := g.objs.size) (o := frzE (PySem.W.kla_obj "<lambda>" (X.env.qual ++ "<lambda>") params body scope (cloFrom X.env.cells scope.names []) ((X.mg "__name__").getD .none) c1 ctv)) (t' := tk)
      (h' := g.push (PySem.W.kla_obj "<lambda>" (X.env.qual ++ "<lambda>") params body scope (cloFrom X.env.cells scope.names []) ((X.mg "__name__").getD .none) c1 ctv)) (fun b u e => Heap.get?_push_of_some _ e) (Nat.le_refl _) ⟨Heap.get?_push_size _ rfl, trivial, ⟨_, Heap.get?_push_size _ rfl⟩, fun _ _ _ _ => trivial⟩
    have T0 : TStep H P H := ⟨Tx.refl H, fun _ _ _ e => e, fun q => q⟩
    have T3 := T0.frz (o := PySem.W.kla_obj "<lambda>" (X.env.qual ++ "<lambda>") params body scope (cloFrom X.env.cells scope.names []) ((X.mg "__name__").getD .none) c1 ctv) nf
    have tx3 := tx_new (o := frzE (PySem.W.kla_obj "<lambda>" (X.env.qual ++ "<lambda>") params body scope (cloFrom X.env.cells scope.names []) ((X.mg "__name__").getD .none) c1 ctv)) nf
    refine k _ _ _ _ _ _ J3 T3 ⟨ps, by rw [upd_ne fun z => by rw [← z, hP] at nf; cases nf]; exact hP, ht, fun a b z => (ha a b z).mono tx3⟩ upd_same (hcv.mono tx3)
end
/-! ### a lambda of one parameter, called -/
section
variable {prog : Program} {w : World} {A : Around} {s : Shared} {d : PyData} {f c1 : Addr} {q p : Str} {params : Arguments} {body : Expr} {scope : Scope} {cl : List (Str × Addr)} {pm ctv v : Value}
/-- what is asked of a lambda's text: one parameter, no other name of its own -/
structure Lam1 (params : Arguments) (body : Expr) (scope : Scope) (p : Str) : Prop where
  bind : ∀ (q : Str) (cl : List (Str × Addr)) (pm cv ctv v : Value), bindArgs (PySem.W.kla_fn "<lambda>" q params body scope cl pm cv ctv) ⟨[v], []⟩ = pure [(p, v)]
  loc : scope.names.lookup p = some .local
  cell : ∀ x ∈ scope.names, x.2 ≠ .cell
  co : scope.isCoroutine = false
  gen : scope.isGenerator = false
  kind : scope.kind = .function
theorem lam_call1 (L : Lam1 params body scope p) (ho : s.heap.get? f = some (PySem.W.kla_obj "<lambda>" q params body scope cl pm c1 ctv)) (hcd : s.heap.CodeRec (.ref c1) q) (hroom : A.depth < recursionLimit) (nl : s.heap.NoLimit)
    (h : ∀ h1 : Heap, h1.Ns s.heap.objs.size (fun y => [(p, v)].reverse.lookup y) → (∀ b o, s.heap.get? b = some o → h1.get? b = some o) →
      wpAny (model prog w) (A.deeper (PySem.W.envX q scope s.heap.objs.size f (.ref c1) cl)) (eval body (PySem.W.envX q scope s.heap.objs.size f (.ref c1) cl)) (PySem.W.KeyPure d s) (fun _ _ => False) { s with heap := h1, toks := s.toks + 1 }) :
    wpAny (model prog w) A (call (.ref f) [v]) (PySem.W.KeyPure d s) (fun _ _ => False) s := by
  have rc : codeAny (model prog w) A (.call (.ref f) ⟨[v], []⟩) (fun r s' => ∃ u, r = .ok (.ret u) ∧ PySem.W.KeyPure d s u s') s := by
    refine PySem.W.kla_callFunE hroom ho rfl L.co L.gen rfl hcd ?_
    rw [L.bind]
    refine wpAny_pure (wpAny_newFunctionEnv L.cell (fun x hx => by rw [List.mem_singleton.mp hx]; exact L.loc) (fun g hns hsb => ⟨nl.fresh _ hsb, ?_⟩) L.kind)
    have kp : ∀ b o, s.heap.get? b = some o → g.get? b = some o := fun b o e => hsb.extBut b o (Nat.ne_of_lt (Heap.lt_size e)) (Heap.get?_push_of_some _ e)
    exact PySem.W.kla_codeExpr (wpAny_mono (h g hns kp) (fun u s' z => ⟨u, rfl, z⟩) fun _ _ z => z.elim)
  refine wpAny_call (codeAny_mono rc fun r s' hq => ?_)
  obtain ⟨u, rfl, z⟩ := hq
  exact z
/-- p[k], of a tuple -/
theorem body_ix {k : Int} {kj j : Nat} {p1 p2 p3 : Pos} {t : Addr} {its : Array Value} {u : Value} {g : Heap} {tk : Nat} {A1 : Around} {env : Env} {s0 : Shared} (hk : env.scope.kind = .function) (hl : env.kindOf p = some .local) (hn : g.Ns env.locals (fun y => [(p, .ref t)].reverse.lookup y)) (ht : IsTup g t its)
    (h1 : -2 ^ 63 ≤ k) (h2 : k < 2 ^ 63) (hj : seqIndex? k its.size = some j) (hu : its[j]? = some u) {Q : Value → Shared → Prop} (h : ∀ tk', Q u { s0 with heap := g, toks := tk' }) (hd : (p == ("__debug__" : Str)) = false) :
    wpAny (model prog w) A1 (eval (.Subscript (.Name p p1) (.Constant (.int k) kj p2) p3) env) Q (fun _ _ => False) { s0 with heap := g, toks := tk } := by
  refine wpAny_Subscript_Constant_late (wpAny_Name (wpAny_loadName_local (v := .ref t) hk hl hn (by simp) ?_) hd)
  refine wpAny_Constant_int ⟨"tuple", _, slot_tuple_getitem.lookup, ht.typeIs, ?_⟩
  exact getItem_tuple (j := j) ht h1 h2 hj hu (h _)
end
/-! ### sorted(xs, key=lambda p: p[k]) -/
section
variable {X : Cx} {B : Bs} {pos : Pos} {e : Expr} {tr : DA}
def leK (f : D → D) (a b : D) : Bool := leP (f a) (f b)
/-- keys that may be sorted by -/
structure KeyOk (f : D → D) (xs : List D) : Prop where
  al : W.AllAlike (xs.map fun x => toP (f x))
  so : W.Sortable (xs.map fun x => toP (f x))
  np : ∀ x ∈ xs, npt (f x) = true ∧ dep (f x) ≤ 40
/-- the lambda as a value -/
def tLamK (P : Addr) (q : Str) (params : Arguments) (body : Expr) (scope : Scope) (cl : List (Str × Addr)) : TE := fun _ H Q => TabF H P q ∧ ∀ (f c1 : Addr) (pm ctv : Value) (H1 : Hp), TStep H P H1 → TabF H1 P q → H1 f = some (frzE (PySem.W.kla_obj "<lambda>" q params body scope cl pm c1 ctv)) → CodeAt H1 q (.ref c1) → Q (.ref f) H1
theorem pe_lamK {c P : Addr} {params : Arguments} {body : Expr} {scope : Scope} {lpos : Pos} (TB : LamX.TabB X.base X.mg c P) (hcode : X.env.code = .ref c) (hdef : defaultsOf params X.env = ([], [])) (hfree : X.Ok → ∀ y ∈ scope.names, y.2 = .free → ∃ c, X.env.cells.lookup y.1 = some c) :
    PE X (.Lambda params body scope lpos) (tLamK P (X.env.qual ++ "<lambda>") params body scope (cloFrom X.env.cells scope.names [])) :=
  ⟨fun pins s σ H Q I h => lam_makeF I TB hcode h.1 hdef (hfree I.ok) fun f c1 pm ctv H1 s' I1 t1 t2 t3 t4 => ⟨V.ref f, H1, I1, rfl, h.2 f c1 pm ctv H1 t1 t2 t3 t4⟩⟩
theorem Rl.lam {K : PySem.W.Frag} {B : Bs} {H H1 : Hp} {C : Cp} {P : Addr} {n q : Str} (r : Rl K B H C) (hC : C P = some (.tb n q)) (t : TStep H P H1) (tf : TabF H1 P q) : Rl K B H1 C ∧ Stp H C H1 C := by
  have st : Stp H C H1 C := ⟨t.tx, fun p o e nn => ⟨t.same p o (fun z => by rw [z, hC] at nn; cases nn) e, nn⟩⟩
  refine ⟨⟨r.st.trans st, fun p c e => ?_, t.ti r.ti⟩, st⟩
  by_cases z : p = P
  · subst z
    rw [hC] at e
    cases e
    exact ⟨(r.ok p _ hC).1, tf⟩
  · have ok := r.ok p c e
    cases eh : H p with
    | none => exact absurd eh ok.there
    | some o => exact ok.keep t.tx ((t.same p o z eh).trans eh.symm)
end
end KB
/-! KLw: the law's call where a table of code objects may grow. -/
namespace KB
open PySem PySem.Spec PyProof.Rows
open L2 hiding op_eqD op_neD call_listD
end KB
/-! KMk: min(xs, key=lambda p: len(p[k])). -/
namespace KB
open PySem PySem.W PySem.Spec PyProof.Rows
open L2 hiding op_eqD op_neD call_listD
end KB
/-! KCo: defs told where their code object lies; min by a lambda key, in a def. -/
namespace KB
open PySem PySem.Spec PyProof.Rows
open L2 hiding op_eqD op_neD call_listD
theorem TabK.of {K : PySem.W.Frag} {n : Str} {fa c P : Addr} {o : Obj} {fd : FuncData} (h1 : resN K n = some (some (.ref fa))) (h2 : K.lookup fa = some o) (h3 : o.data = .func fd) (h4 : fd.code = .ref c) (h5 : PySem.W.codeHdIn K c P = true) : TabK K n P := by
  unfold PySem.W.codeHdIn at h5
  split at h5
  · rename_i vs _ hk
    simp only [Bool.and_eq_true] at h5
    obtain ⟨⟨⟨⟨⟨e1, _⟩, _⟩, _⟩, _⟩, _⟩ := h5
    split at e1
    · rename_i P' h11
      have hP : P' = P := beq_iff_eq.mp e1
      subst hP
      exact ⟨fa, c, o, fd, _, _, _, _, h1, h2, h3, h4, hk, h11⟩
    · cases e1
  · cases h5
end KB
/-! KR3: range(i, j, step). -/
namespace KB
open PySem PySem.Spec PyProof.Rows
open L2
end KB
/-! KLg: a dict with keys that are tuples, read while it is walked. -/
namespace KB
open PySem PySem.Spec PyProof.Rows SeqAt
open L2 hiding op_eqD op_neD
end KB
/-! KZm: zip of a list and a tuple, whatever they hold. -/
namespace KB
open PySem PySem.Spec PyProof.Rows
open L2 hiding op_eqD op_neD call_listD
end KB
/-! KCg: < and > of tuples of any kind that can be compared up to where they differ. -/
namespace KB
open PySem PySem.W PySem.Spec PyProof.Rows SeqAt
open L2 hiding op_eqD op_neD call_listD
open MeetsSeq MeetsSeq2 MeetsSeq3 SeqRoads2
open AutoSeq1 (wpAny_loadPart')
end KB
/-! KEt: enumerate(t) of a tuple. -/
namespace L2
open PySem PySem.Spec PyProof.Rows
open AutoSeq1 (wpAny_loadPart')
end L2
namespace KB
open PySem PySem.Spec PyProof.Rows
open L2 hiding op_eqD op_neD call_listD
end KB
/-! KMl: the law's call where several tables of code objects may grow. -/
namespace KB
open PySem PySem.Spec PyProof.Rows
open L2 hiding op_eqD op_neD call_listD
/-- the heap at the law's call: the script may be frozen, one table is tracked -/
def OnlyTs (Ps : List Addr) (H : Hp) : Prop := ∀ b, H b = none ∨ b ∈ Ps ∨ ∃ o xs, H b = some (.frz o (.lst xs))
theorem lawGTs {P : Program} {w : World} {K : PySem.W.Frag} {mg mb : Str → Option Value} {X0 : CXT} {k : Nat} {fa a : Addr} {cps : List (Addr × Addr)} {fd : FuncData} {x : Str} {sp : Sp} {t : Shared} {vs : List Value} {ns : List Int}
    (KX : K.In t.heap) (hns : t.heap.Ns mainGlobals mg) (hb : t.heap.Ns builtinsNs mb) (hbb : ∀ x : Str, x ≠ "__name__" → mb x = bootBuiltins x) (nol : t.heap.NoLimit) (hg : t.gens = #[])
    (hT : ∀ P ∈ cps.map (·.2), t.heap.get? P = some { cls := .none, data := .fields #[] }) (nT : ∀ P ∈ cps.map (·.2), K.lookup P = none) (CH : ∀ cp ∈ cps, PySem.W.CodeHd t.heap cp.1 cp.2) (hbm : ∃ (bm : Addr) (ob : Obj), mg "__builtins__" = some (.ref bm) ∧ bm ≠ builtinsNs ∧ t.heap.get? bm = some ob ∧ ob.cls = .type "module" ∧ ob.dict = some builtinsNs ∧ ob.data = .plain)
    (ha : t.heap.get? a = some { cls := .type "list", data := .seq vs.toArray }) (hi : IntsAre vs ns) (hl : ns.length ≤ sizeLine) (hr : Room k callerA)
    (F : ∀ base : Heap, K.In base → base.Ns mainGlobals mg → (∀ cp ∈ cps, LamX.TabB base mg cp.1 cp.2) → FnG P w K mg base X0 k fa fd [x] sp) (bind : ∀ (s : Shared) (u : Value), BindsTo s fd ⟨[u], []⟩ [(x, u)])
    (hsp : ∀ H : Hp, (∀ P ∈ cps.map (·.2), H P = some (.tbl #[])) → a ∉ cps.map (·.2) → OnlyTs (cps.map (·.2)) H → SqL K H a (ns.map V.int) → sp [.ref a] H (fun v _ => v = .bl true) fun _ _ _ => False) (hX : ∀ H e s', X0 [] H t (fun _ _ _ => False) e s' → False) :
    codeAny (model P w) callerA (.call (.ref fa) ⟨[.ref a], []⟩) (fun r s' => r = .ok (.ret (.bool true)) ∧ OldK t.heap s'.heap ∧ s'.os = t.os ∧ AllBare s'.gens) t := by
  have rv := vals_ints hi
  have aP : a ∉ cps.map (·.2) := fun z => by
    rw [hT a z] at ha
    have z' : Data.fields #[] = Data.seq vs.toArray _ := congrArg Obj.data (Option.some.inj ha)
    cases z'
  have core : ∀ H : Hp, (∀ P ∈ cps.map (·.2), H P = some (.tbl #[])) → OnlyTs (cps.map (·.2)) H → SqL K H a (ns.map V.int) → HOk P w H t.heap → (∀ b, H b ≠ none → b = a ∨ b ∈ cps.map (·.2)) → (H a ≠ none → K.lookup a = none) →
      codeAny (model P w) callerA (.call (.ref fa) ⟨[.ref a], []⟩) (fun r s' => r = .ok (.ret (.bool true)) ∧ OldK t.heap s'.heap ∧ s'.os = t.os ∧ AllBare s'.gens) t := by
    intro H hH hO hS hok hA hK
    have low : ∀ {b : Addr} {o : Obj}, t.heap.get? b = some o → H b = none → (hidT t.heap H).get? b = some o := fun e n => hidT_get e n
    have off : ∀ {b : Addr} {o : Obj}, t.heap.get? b = some o → (∀ vs n, o.data ≠ .seq vs n) → o.data ≠ .fields #[] → H b = none := by
      intro b o e d1 d2
      by_cases q : H b = none
      · exact q
      · rcases hA b q with z | z
        · rw [z, ha] at e; cases e; exact (d1 _ _ rfl).elim
        · rw [hT b z] at e; cases e; exact (d2 rfl).elim
    have dictNo : ∀ {b : Addr} {o : Obj} {es : Array DictEntry} {ep : Nat}, t.heap.get? b = some o → o.data = .dict es ep → H b = none := fun {b o es ep} e d =>
      off e (fun vs n z => by rw [d] at z; cases z) fun z => by rw [d] at z; cases z
    have nsK : ∀ {b : Addr} {m : Str → Option Value}, t.heap.Ns b m → (hidT t.heap H).Ns b m := fun ⟨o, es, ep, e, d, r⟩ => ⟨o, es, ep, low e (dictNo e d), d, r⟩
    have kin : K.In (hidT t.heap H) := fun b o e => low (KX b o e) (by
      by_cases q : H b = none
      · exact q
      · rcases hA b q with z | z
        · rw [z] at q e
          rw [hK q] at e; cases e
        · rw [nT b z] at e; cases e)
    have md : Mod K mg (hidT t.heap H) := ⟨kin, nsK hns, ⟨mb, nsK hb, hbb⟩, by obtain ⟨mc, h1, h2⟩ := nol; exact ⟨mc, nsK h1, h2⟩⟩
    have TB : ∀ cp ∈ cps, LamX.TabB (hidT t.heap H) mg cp.1 cp.2 := by
      rintro ⟨c0, P0⟩ hcp
      have hT := hT P0 (List.mem_map.mpr ⟨_, hcp, rfl⟩)
      have CH := CH _ hcp
      refine ⟨?_, ?_, fun z => ?_⟩
      · obtain ⟨o, us, file, tf, flags, tg, inF, text, tt, e1, r1, r2, r3, r4, r5, r6, r7, r8, hne⟩ := CH
        refine ⟨o, us, file, tf, flags, tg, inF, text, tt, low e1 (off e1 (fun vs n z => by rw [r2] at z; cases z) fun z => ?_), r1, r2, r3, r4, r5, r6, r7, r8, hne⟩
        rw [r2] at z
        cases z
        simp at r3
      · obtain ⟨bm, ob, b1, b2, b3, b4, b5, b6⟩ := hbm
        refine ⟨bm, ob, b1, b2, fun q => ?_, fun q => ?_, low b3 (off b3 (fun vs n z => by rw [b6] at z; cases z) fun z => by rw [b6] at z; cases z), b4, b5, b6⟩
        · obtain ⟨o, es, ep, e, hd, _⟩ := hns
          rw [q, e] at b3; cases b3
          rw [hd] at b6; cases b6
        · rw [q, hT] at b3; cases b3
          cases b6
      · obtain ⟨o, es, ep, e, hd, _⟩ := hns
        rw [z, hT] at e; cases e
        cases hd
    have e0 : Env0 P w K mg (hidT t.heap H) callerA [] t H := ⟨rfl, md, fun b o e => of_hidT e, Nat.le_of_eq (hidT_size _ _), trivial, (fun b (z : b ∈ ([] : List Addr)) => nomatch z), hok, .of_eq hg⟩
    refine codeAny_mono ((F _ kin (nsK hns) TB).go callerA [] t H ⟨[.ref a], []⟩ [.ref a] [.ref a] _ _ rfl hr e0 (bind t (.ref a)) (.cons rfl .nil) (hsp H hH aP hO hS)) fun r s' h => ?_
    match r, h with
    | .error e, h => exact (hX H e s' h).elim
    | .ok .next, h => exact False.elim h
    | .ok .brk, h => exact False.elim h
    | .ok .cont, h => exact False.elim h
    | .ok (.ret u), h =>
      obtain ⟨v, H', os, bare, un, hok', r', q⟩ := h
      have q : v = .bl true := q
      subst q
      obtain rfl : u = Value.bool true := r'
      have key : ∀ b o, b ∉ cps.map (·.2) → t.heap.get? b = some o → s'.heap.get? b = some o := fun b o nb e => by
        rcases hO b with z | z | ⟨ob, xs, z⟩
        · exact un.keep b o e z (fun z2 : b ∈ ([] : List Addr) => nomatch z2) (by simp)
        · exact absurd z nb
        · obtain ⟨e1, _⟩ := hok b _ z
          obtain ⟨e2, _⟩ := hok' b _ (un.frzs b ob _ z)
          rw [e] at e1
          cases e1
          exact e2
      have hm : ∀ P ∈ cps.map (·.2), ∃ more : Array Value, s'.heap.get? P = some { cls := .none, data := .fields more } := fun P hP => by
        obtain ⟨more, z⟩ := un.tbls P #[] (hH P hP)
        have hm := hok' P _ z
        rw [Array.empty_append] at hm
        exact ⟨more, hm⟩
      refine ⟨rfl, ⟨fun b o e => ?_, fun b o e => ?_⟩, os, bare⟩
      · by_cases hb : b ∈ cps.map (·.2)
        · obtain ⟨more, hm⟩ := hm b hb
          obtain ⟨cp, hcp, rfl⟩ := List.mem_map.mp hb
          have hT := hT _ hb
          rw [hT] at e
          cases e
          exact .inr (.inl ⟨((CH cp hcp).tab hT).isCodeTable, rfl, #[], more, rfl, by rw [Array.empty_append]; exact hm⟩)
        · exact .inl (key b o hb e)
      · by_cases hb : b ∈ cps.map (·.2)
        · obtain ⟨more, hm⟩ := hm b hb
          exact ⟨_, hm⟩
        · exact ⟨o, key b o hb e⟩
  rcases hk : K.lookup a with _ | o
  · refine core (fun b => if b = a then some (.frz { cls := .type "list", data := .seq vs.toArray } (.lst (ns.map V.int))) else if b ∈ cps.map (·.2) then some (.tbl #[]) else none) (fun P hP => (if_neg (fun (z : P = a) => aP (z ▸ hP))).trans (if_pos hP)) (fun b => ?_) (.inl (.inr ⟨{ cls := .type "list", data := .seq vs.toArray }, if_pos rfl⟩)) (fun b u z => ?_) (fun b z => ?_) fun _ => hk
    · by_cases q : b = a
      · exact .inr (.inr ⟨_, _, if_pos q⟩)
      · by_cases q2 : b ∈ cps.map (·.2)
        · exact .inr (.inl q2)
        · exact .inl ((if_neg q).trans (if_neg q2))
    · by_cases q : b = a
      · cases (if_pos q).symm.trans z
        subst q
        exact ⟨ha, by rw [List.length_map]; exact hl, vs, _, rv, ha⟩
      · have z1 := (if_neg q).symm.trans z
        by_cases q2 : b ∈ cps.map (·.2)
        · cases (if_pos q2).symm.trans z1
          exact hT b q2
        · cases (if_neg q2).symm.trans z1
    · by_cases q : b = a
      · exact .inl q
      · by_cases q2 : b ∈ cps.map (·.2)
        · exact .inr q2
        · exact absurd ((if_neg q).trans (if_neg q2)) z
  · have e := KX a o hk
    rw [ha] at e
    cases e
    refine core (fun b => if b ∈ cps.map (·.2) then some (.tbl #[]) else none) (fun P hP => if_pos hP) (fun b => ?_) (.inr ⟨_, vs.toArray, _, hk, rfl, rfl, rfl, by rw [List.size_toArray, hi.length]; exact hl, by simpa using rv⟩) (fun b u z => ?_) (fun b z => ?_) fun z => absurd (if_neg aP) z
    · by_cases q2 : b ∈ cps.map (·.2)
      · exact .inr (.inl q2)
      · exact .inl (if_neg q2)
    · by_cases q2 : b ∈ cps.map (·.2)
      · cases (if_pos q2).symm.trans z
        exact hT b q2
      · cases (if_neg q2).symm.trans z
    · by_cases q2 : b ∈ cps.map (·.2)
      · exact .inr q2
      · exact absurd (if_neg q2) z
/-- tables, by the defs' names and the lambdas' -/
abbrev Tbs := List (Addr × Str × Str)
def tabC : Tbs → Cp
  | [] => fun _ => none
  | t :: r => up (tabC r) t.1 (.tb t.2.1 t.2.2)
theorem tabC_at : ∀ {tbs : Tbs} {p : Addr} {c : Cell}, tabC tbs p = some c → ∃ t ∈ tbs, t.1 = p ∧ c = .tb t.2.1 t.2.2
  | [], p, c, h => by cases h
  | t :: r, p, c, h => by
    unfold tabC at h
    by_cases e : p = t.1
    · subst e
      rw [up_same] at h
      cases h
      exact ⟨t, List.mem_cons_self, rfl, rfl⟩
    · rw [up_ne e] at h
      obtain ⟨u, hu, e1, e2⟩ := tabC_at h
      exact ⟨u, List.mem_cons_of_mem _ hu, e1, e2⟩
theorem law_startTs {P : Program} {w : World} {K : PySem.W.Frag} {F : DSp} {H : Hp} {a : Addr} {tbs : Tbs} {nqs : List (Str × Str)} {ns : List Int} {m : Nat} (h : ∀ (a : Addr) (tbs : Tbs) (ns : List Int) (c : Cell), tbs.map (·.2) = nqs → (tbs.map (·.1)).Nodup → a ∉ tbs.map (·.1) → ns.length ≤ m → (c = .lst (ns.map D.int) ∨ c = .fz (ns.map D.int)) → F [.ptr a] (up (tabC tbs) a c) (fun d _ => d = .bl true) fun _ _ => False)
    (hK : noLists K = true) (hN : tbs.map (·.2) = nqs) (hD : (tbs.map (·.1)).Nodup) (hT : ∀ t ∈ tbs, TabK K t.2.1 t.1) (hP : ∀ t ∈ tbs, H t.1 = some (.tbl #[])) (aP : a ∉ tbs.map (·.1)) (hO : OnlyTs (tbs.map (·.1)) H) (hl : ns.length ≤ m) (hS : SqL K H a (ns.map V.int)) : lSp P w K 1 F [.ref a] H (fun v _ => v = .bl true) fun _ _ _ => False := by
  have ti : ∀ p o, H p = some o → TFo o := fun p o e => by
    rcases hO p with z | z | ⟨ob, xs, z⟩
    · rw [z] at e; cases e
    · obtain ⟨t, ht, rfl⟩ := List.mem_map.mp z
      rw [hP t ht] at e; cases e; trivial
    · rw [z] at e; cases e; trivial
  have fin : ∀ c : Cell, (c = .lst (ns.map D.int) ∨ c = .fz (ns.map D.int)) → CellOk P w K H a c → lSp P w K 1 F [.ref a] H (fun v _ => v = .bl true) fun _ _ _ => False := fun c hc ok => by
    refine ⟨rfl, [.ptr a], up (tabC tbs) a c, _, .cons rfl .nil, ⟨fun p c' e => ?_, ti⟩, h a tbs ns c hN hD aP hl hc, fun v d H' C' _ _ r q => ?_⟩
    · by_cases hp : p = a
      · subst hp
        rw [up_same] at e
        cases e
        exact ok
      · rw [up_ne hp] at e
        obtain ⟨t, ht, rfl, e2⟩ := tabC_at e
        cases e2
        exact ⟨hT t ht, #[], hP t ht, trivial, fun pos cv z => by simp [codeAmong] at z⟩
    · have q : d = .bl true := q
      subst q
      exact r
  rcases hS with (e | ⟨o, e⟩) | ⟨o, its, k, e, hc, _⟩
  · exact fin _ (.inl rfl) ⟨_, e, reps_ints ns⟩
  · exact fin _ (.inr rfl) ⟨_, _, e, reps_ints ns⟩
  · have := List.all_eq_true.mp hK _ (lookup_mem e)
    simp only [hc] at this
    exact absurd this (by decide)
/-- a lambda's def: where its code object lies, the table, the names -/
abbrev Lms := List (Addr × Addr × Str × Str)
theorem walk_kbTs {l : PySem.W.OpenLaw} {m k : Nat} {q : Program} {loose : List Str} {XP : (Str → Option Value) → Heap → Prop} {YP : World → Heap → Prop} {d : DefRec} {K : Params → PySem.W.Frag} {x : Str} {Fd : DSp} {nqs : List (Str × Str)} {ts : List Addr}
    (hT : ∀ (a : Addr) (tbs : Tbs) (ns : List Int) (c : Cell), tbs.map (·.2) = nqs → (tbs.map (·.1)).Nodup → a ∉ tbs.map (·.1) → ns.length ≤ m → (c = .lst (ns.map D.int) ∨ c = .fz (ns.map D.int)) → Fd [.ptr a] (up (tabC tbs) a c) (fun d _ => d = .bl true) fun _ _ => False)
    (hn : l.most = some m) (hn2 : m ≤ sizeLine) (hdf : d.params.defaults = []) (hr : Room k callerA) (hY : ∀ (w : World) (h : Heap), YP w h → (K w.params).In h) (hTs : ∀ (w : World) (h : Heap), YP w h → ∀ P ∈ ts, h.get? P = some (PySem.W.tabObj #[])) (hK : ∀ w : World, noLists (K w.params) = true)
    (F : ∀ (w : World) (mg : Str → Option Value) (fa : Addr) (h : Heap), (K w.params).In h → h.Ns mainGlobals mg → mg d.name = some (.ref fa) →
      ∃ (fd : FuncData) (lms : Lms), lms.map (fun t => t.2.2) = nqs ∧ (lms.map (·.2.1)).Nodup ∧ (∀ t ∈ lms, t.2.1 ∈ ts ∧ (K w.params).lookup t.2.1 = none ∧ PySem.W.codeHdIn (K w.params) t.1 t.2.1 = true ∧ TabK (K w.params) t.2.2.1 t.2.1) ∧ (∀ (s : Shared) (u : Value), BindsTo s fd ⟨[u], []⟩ [(x, u)]) ∧ ∀ base : Heap, (K w.params).In base → base.Ns mainGlobals mg → (∀ t ∈ lms, LamX.TabB base mg t.1 t.2.1) → FnG l.prog w (K w.params) mg base CX0 k fa fd [x] (lSp l.prog w (K w.params) 1 Fd)) :
    PySem.W.WalkO q loose XP YP l.row.toRowW d [] (fun f vs => PySem.call f vs) :=
  Att.attach_call hn hdf fun w s₀ s₁ mg mb fa o pm cd doc a vs ns G Y ho hd hcd hmg hobj hints hlen hg => by
    have KX := hY w _ Y
    obtain ⟨fd, lms, e1, e2, h1, b, hF⟩ := F w mg fa _ KX G.T.g hmg
    have mp : ∀ P ∈ (lms.map fun t => (t.1, t.2.1)).map (·.2), ∃ t ∈ lms, t.2.1 = P := fun P hP => by
      obtain ⟨cp, hcp, rfl⟩ := List.mem_map.mp hP
      obtain ⟨t, ht, rfl⟩ := List.mem_map.mp hcp
      exact ⟨t, ht, rfl⟩
    have es : (lms.map fun t => (t.1, t.2.1)).map (·.2) = (lms.map fun t => t.2).map (·.1) := by rw [List.map_map, List.map_map]; rfl
    refine lawGTs (cps := lms.map fun t => (t.1, t.2.1)) KX G.T.g G.T.b G.T.builtins G.T.nolimit hg (fun P hP => ?_) (fun P hP => ?_) (fun cp hcp => ?_) G.T.bmain hobj hints (Nat.le_trans hlen hn2) hr (fun base k1 k2 k3 => hF base k1 k2 fun t ht => k3 (t.1, t.2.1) (List.mem_map.mpr ⟨t, ht, rfl⟩)) b (fun H z1 z2 hO hS => ?_) fun H e s' z => z
    · obtain ⟨t, ht, rfl⟩ := mp P hP
      exact hTs w _ Y _ (h1 t ht).1
    · obtain ⟨t, ht, rfl⟩ := mp P hP
      exact (h1 t ht).2.1
    · obtain ⟨t, ht, rfl⟩ := List.mem_map.mp hcp
      exact PySem.W.codeHd_of_K KX (h1 t ht).2.2.1
    · rw [es] at z1 z2 hO
      refine law_startTs (tbs := lms.map fun t => t.2) hT (hK w) (by rw [List.map_map]; exact e1) (by rw [List.map_map]; exact e2) (fun t ht => ?_) (fun t ht => z1 _ (List.mem_map.mpr ⟨t, ht, rfl⟩)) z2 hO hlen hS
      obtain ⟨u, hu, rfl⟩ := List.mem_map.mp ht
      exact (h1 u hu).2.2.2
end KB
/-! KTe: a tuple compared with an empty one, whatever it holds. -/
namespace KB
open PySem PySem.Spec PyProof.Rows SeqAt
open L2 hiding op_eqD op_neD call_listD
end KB
/-! KPo: d.pop(k[, x]) of dicts with ints or texts, and with tuples, as keys. -/
namespace KB
open PySem PySem.Spec PyProof.Rows
open L2 hiding op_eqD op_neD call_listD
end KB
/-! KMu: tuple * int, for ints from nought on, of whatever the tuple holds. -/
namespace L2
open PySem PySem.Spec PyProof.Rows
end L2
namespace KB
open PySem PySem.Spec PyProof.Rows
open L2 hiding op_eqD op_neD call_listD
end KB
/-! KMv: max(d.values(), default=k) of a dict with whole numbers. -/
namespace KB
open PySem PySem.Spec PyProof.Rows
open L2 hiding op_eqD op_neD call_listD
end KB
/-! KDp: a dict display whose keys are tuples. -/
namespace KB
open PySem PySem.Spec PyProof.Rows
open L2 hiding op_eqD op_neD call_listD
end KB
/-! KLi: list(d) of a dict with keys that are tuples; k in d while d is walked. -/
namespace KB
open PySem PySem.Spec PyProof.Rows
open L2 hiding op_eqD op_neD call_listD
end KB
/-! KS0: the store told by a list of places. -/
namespace KB
open PySem PySem.Spec PyProof.Rows
open L2 hiding op_eqD op_neD call_listD
/-- a place, what stands there, whether it may be written -/
abbrev Ent := Addr × Cell × Bool
structure St (S : Addr → Prop) (C0 C : Cp) (L : List Ent) : Prop where
  kp : Kp S C0 C
  at_ : ∀ e ∈ L, C e.1 = some e.2.1
  nd : (L.map (·.1)).Nodup
  wr : ∀ e ∈ L, e.2.2 = true → S e.1 ∨ C0 e.1 = none
inductive At : List Ent → Addr → Cell → Prop
  | here {p : Addr} {c : Cell} {b : Bool} {L : List Ent} : At ((p, c, b) :: L) p c
  | there {e : Ent} {L : List Ent} {p : Addr} {c : Cell} : At L p c → At (e :: L) p c
inductive Upd : List Ent → Addr → Cell → Cell → List Ent → Prop
  | here {p : Addr} {c c' : Cell} {L : List Ent} : Upd ((p, c, true) :: L) p c c' ((p, c', true) :: L)
  | there {e : Ent} {L L' : List Ent} {p : Addr} {c c' : Cell} : Upd L p c c' L' → Upd (e :: L) p c c' (e :: L')
inductive Del : List Ent → Addr → Cell → Bool → List Ent → Prop
  | here {p : Addr} {c : Cell} {b : Bool} {L : List Ent} : Del ((p, c, b) :: L) p c b L
  | there {e : Ent} {L L' : List Ent} {p : Addr} {c : Cell} {b : Bool} : Del L p c b L' → Del (e :: L) p c b (e :: L')
theorem At.mem {L : List Ent} {p : Addr} {c : Cell} (h : At L p c) : ∃ b, (p, c, b) ∈ L := by
  induction h with
  | here => exact ⟨_, List.mem_cons_self⟩
  | there _ ih => obtain ⟨b, h⟩ := ih; exact ⟨b, List.mem_cons_of_mem _ h⟩
theorem Upd.at {L L' : List Ent} {p : Addr} {c c' : Cell} (h : Upd L p c c' L') : At L p c := by
  induction h with
  | here => exact .here
  | there _ ih => exact .there ih
theorem Upd.keys {L L' : List Ent} {p : Addr} {c c' : Cell} (h : Upd L p c c' L') : L'.map (·.1) = L.map (·.1) := by
  induction h with
  | here => rfl
  | there _ ih => rw [List.map_cons, List.map_cons, ih]
theorem Upd.own {L L' : List Ent} {p : Addr} {c c' : Cell} (h : Upd L p c c' L') : (p, c, true) ∈ L := by
  induction h with
  | here => exact List.mem_cons_self
  | there _ ih => exact List.mem_cons_of_mem _ ih
theorem Upd.mem {L L' : List Ent} {p : Addr} {c c' : Cell} (h : Upd L p c c' L') (nd : (L.map (·.1)).Nodup) : ∀ e ∈ L', e = (p, c', true) ∨ (e ∈ L ∧ e.1 ≠ p) := by
  induction h with
  | @here p c c' L =>
    intro e he
    rcases List.mem_cons.mp he with h | h
    · exact .inl h
    · refine .inr ⟨List.mem_cons_of_mem _ h, fun z => ?_⟩
      have := (List.nodup_cons.mp nd).1
      exact this (by rw [← z]; exact List.mem_map.mpr ⟨e, h, rfl⟩)
  | @there e0 L L' p c c' u ih =>
    intro e he
    have nd2 := List.nodup_cons.mp nd
    rcases List.mem_cons.mp he with h | h
    · subst h
      refine .inr ⟨List.mem_cons_self, fun z => ?_⟩
      exact nd2.1 (show e.1 ∈ _ by rw [z]; exact List.mem_map.mpr ⟨_, u.own, rfl⟩)
    · rcases ih nd2.2 e h with h | ⟨h1, h2⟩
      · exact .inl h
      · exact .inr ⟨List.mem_cons_of_mem _ h1, h2⟩
theorem Del.mem {L L' : List Ent} {p : Addr} {c : Cell} {b : Bool} (h : Del L p c b L') : (p, c, b) ∈ L ∧ L.Perm ((p, c, b) :: L') := by
  induction h with
  | here => exact ⟨List.mem_cons_self, .refl _⟩
  | @there e L L' p c b _ ih => exact ⟨List.mem_cons_of_mem _ ih.1, (ih.2.cons e).trans (.swap _ _ _)⟩
section
variable {S : Addr → Prop} {C0 C : Cp} {L L' L1 : List Ent} {p q : Addr} {c c' : Cell}
theorem St.get (h : St S C0 C L) (a : At L p c) : C p = some c := by
  obtain ⟨b, m⟩ := a.mem
  exact h.at_ _ m
theorem St.put (h : St S C0 C L) (u : Upd L p c c' L') : St S C0 (up C p c') L' := by
  have hp := h.wr _ u.own rfl
  refine ⟨fun r c2 hr e => ?_, fun e he => ?_, by rw [u.keys]; exact h.nd, fun e he hb => ?_⟩
  · have : r ≠ p := fun z => by
      subst z
      rcases hp with hp | hp
      · exact hr hp
      · rw [hp] at e; cases e
    rw [up_ne this]
    exact h.kp r c2 hr e
  · rcases u.mem h.nd e he with z | ⟨z1, z2⟩
    · subst z; exact up_same
    · rw [up_ne z2]; exact h.at_ e z1
  · rcases u.mem h.nd e he with z | ⟨z1, z2⟩
    · subst z; exact hp
    · exact h.wr e z1 hb
theorem St.new (h : St S C0 C L) (hp : C p = none) : St S C0 (up C p c) ((p, c, true) :: L) := by
  have ne : ∀ e ∈ L, e.1 ≠ p := fun e he z => by
    have := h.at_ e he
    rw [z, hp] at this
    cases this
  refine ⟨h.kp.new hp, fun e he => ?_, ?_, fun e he hb => ?_⟩
  · rcases List.mem_cons.mp he with z | z
    · subst z; exact up_same
    · rw [up_ne (ne e z)]; exact h.at_ e z
  · rw [List.map_cons]
    refine List.nodup_cons.mpr ⟨fun m => ?_, h.nd⟩
    obtain ⟨e, he, z⟩ := List.mem_map.mp m
    exact ne e he z
  · rcases List.mem_cons.mp he with z | z
    · subst z
      show S p ∨ C0 p = none
      rcases Classical.em (S p) with s | s
      · exact .inl s
      · refine .inr ?_
        cases e : C0 p with
        | none => rfl
        | some c0 => rw [h.kp p c0 s e] at hp; cases hp
    · exact h.wr e z hb
theorem St.perm (h : St S C0 C L) (m : L.Perm L') : St S C0 C L' := ⟨h.kp, fun e he => h.at_ e (m.mem_iff.mpr he), (m.map _).nodup_iff.mp h.nd, fun e he => h.wr e (m.mem_iff.mpr he)⟩
theorem St.front {b : Bool} (h : St S C0 C L) (d : Del L p c b L') : St S C0 C ((p, c, b) :: L') := h.perm d.mem.2
theorem St.tail {e : Ent} (h : St S C0 C (e :: L)) : St S C0 C L := ⟨h.kp, fun x hx => h.at_ x (List.mem_cons_of_mem _ hx), by have := h.nd; rw [List.map_cons] at this; exact (List.nodup_cons.mp this).2, fun x hx => h.wr x (List.mem_cons_of_mem _ hx)⟩
theorem St.drop {b : Bool} (h : St S C0 C L) (d : Del L p c b L') : St S C0 C L' := (h.front d).tail
theorem St.snd {e f : Ent} (h : St S C0 C (e :: f :: L)) : St S C0 C (e :: L) := (h.perm (.swap _ _ _)).tail
theorem St.swap {e f : Ent} (h : St S C0 C (e :: f :: L)) : St S C0 C (f :: e :: L) := h.perm (.swap _ _ _)
/-- nothing is told at first -/
theorem St.init : St S C C [] := ⟨Kp.refl C, fun e he => (by cases he), List.nodup_nil, fun e he => (by cases he)⟩
theorem St.add {b : Bool} (h : St S C0 C L) (e : C p = some c) (n : ∀ x ∈ L, x.1 ≠ p) (w : b = true → S p ∨ C0 p = none) : St S C0 C ((p, c, b) :: L) := by
  refine ⟨h.kp, fun x hx => ?_, ?_, fun x hx hb => ?_⟩
  · rcases List.mem_cons.mp hx with z | z
    · subst z; exact e
    · exact h.at_ x z
  · rw [List.map_cons]
    refine List.nodup_cons.mpr ⟨fun m => ?_, h.nd⟩
    obtain ⟨x, hx, z⟩ := List.mem_map.mp m
    exact n x hx z
  · rcases List.mem_cons.mp hx with z | z
    · subst z; exact w hb
    · exact h.wr x z hb
/-! ### steps -/
variable {Q : DQ} {R : Cp → Prop} {i : Int} {d v y : D} {xs ys : List D}
/-- a new thing is made -/
def alloc (c : Cell) (C : Cp) (Q : DQ) : Prop := ∀ p, C p = none → Q (.ptr p) (up C p c)
theorem alloc_st (h : St S C0 C L) (k : ∀ p C', St S C0 C' ((p, c, true) :: L) → Q (.ptr p) C') : alloc c C Q := fun p hp => k p _ (h.new hp)
theorem ix_st (h : St S C0 C L) (a : At L p (.lst xs)) (e : atI xs i = some d) (k : Q d C) : ixD (.ptr p) (.int i) C Q := ix_l (.inl (h.get a)) e k
theorem ix_t (e : atI xs i = some d) (k : Q d C) : ixD (.tup xs) (.int i) C Q := ⟨d, e, k⟩
theorem ix_s {l : List Nat} {a : Nat} (z : l.length ≤ sizeLine) (e : atI l i = some a) (k : Q (.str [a]) C) : ixD (.str l) (.int i) C Q := ⟨z, a, e, k⟩
theorem set_st {j : Nat} (h : St S C0 C L) (e : ixN xs.length i = some j) (u : Upd L p (.lst xs) (.lst (xs.set j v)) L') (k : ∀ C', St S C0 C' L' → R C') : setR (.ptr p) (.int i) v C R := set_l (h.get u.at) e (k _ (h.put u))
theorem len_st (h : St S C0 C L) (a : At L p (.lst xs)) (k : Q (.int (xs.length : Int)) C) : lenR [.ptr p] C Q := len_l (.inl (h.get a)) k
theorem app_st (h : St S C0 C L) (z : xs.length < sizeLine) (u : Upd L p (.lst xs) (.lst (xs ++ [y])) L') (k : ∀ C', St S C0 C' L' → Q .non C') : appendR (.ptr p) [y] C Q := app_l (h.get u.at) z (k _ (h.put u))
theorem rev_st (h : St S C0 C L) (u : Upd L p (.lst xs) (.lst xs.reverse) L') (k : ∀ C', St S C0 C' L' → Q .non C') : revR (.ptr p) [] C Q := ⟨p, xs, rfl, rfl, h.get u.at, k _ (h.put u)⟩
theorem ty_st (h : St S C0 C L) (a : At L p (.lst xs)) : tyD C "list" (.ptr p) := tyL (.inl (h.get a))
theorem add_st (h : St S C0 C L) (a : At L p (.lst xs)) (b : At L q (.lst ys)) (z : xs.length + ys.length ≤ sizeLine) (k : ∀ r C', St S C0 C' ((r, .lst (xs ++ ys), true) :: L) → Q (.ptr r) C') : addD (.ptr p) (.ptr q) C Q := ⟨xs, ys, .inl (h.get a), .inl (h.get b), z, fun r hr => k r _ (h.new hr)⟩
theorem mulS_st {l : List Nat} {m : Int} (z : 0 ≤ m ∧ m < 2 ^ 20 ∧ l.length * m.toNat ≤ sizeLine) (k : Q (.str (List.replicate m.toNat l).flatten) C) : mulSD (.str l) (.int m) C Q := ⟨l, m, rfl, rfl, by omega, by omega, z.2.2, k⟩
theorem sl_st {lo hi : Option Int} (h : St S C0 C L) (a : At L p (.lst xs)) (k : ∀ r C', St S C0 C' ((r, .lst (cutL xs lo hi), true) :: L) → Q (.ptr r) C') : slD (.ptr p) lo hi C Q := sl_l (.inl (h.get a)) fun r hr => k r _ (h.new hr)
theorem listT_st (h : St S C0 C L) (k : ∀ r C', St S C0 C' ((r, .lst xs, true) :: L) → Q (.ptr r) C') : listR [.tup xs] C Q := list_l (show itemsD C (.tup xs) xs from rfl) fun r hr => k r _ (h.new hr)
theorem tup_st (h : St S C0 C L) (a : At L p (.lst xs)) (k : Q (.tup xs) C) : tupleR [.ptr p] C Q := tuple_l (show itemsD C (.ptr p) xs from .inl (h.get a)) k
theorem sorted_st (h : St S C0 C L) (a : At L p (.lst xs)) (o : SortOk xs) (k : ∀ r C', St S C0 C' ((r, .lst (xs.mergeSort leP), true) :: L) → Q (.ptr r) C') : sortedR [.ptr p] C Q := sorted_l (show collD C (.ptr p) xs from .inl (.inl (h.get a))) o fun r hr => k r _ (h.new hr)
theorem inL_st {n : Bool} (h : St S C0 C L) (a : At L p (.lst xs)) (o : npt d = true) (b : okEqs xs) (k : Q (.bl (if n then !memD xs d else memD xs d)) C) : inR n d (.ptr p) C Q := inR_l (.inl (h.get a)) o b k
theorem eqL_st {n : Bool} (h : St S C0 C L) (a : At L p (.lst xs)) (b : At L q (.lst ys)) (o : okEqs xs) (o2 : npts ys = true) (k : Q (.bl (if n then !eqDs xs ys else eqDs xs ys)) C) : eqR n (.ptr p) (.ptr q) C Q := eqR_pp (.inl (h.get a)) (.inl (h.get b)) o o2 k
theorem any_st {bs : List Bool} (h : St S C0 C L) (a : At L p (.lst (bs.map D.bl))) (k : Q (.bl (bs.any id)) C) : anyR [.ptr p] C Q := ⟨p, bs, rfl, .inl (h.get a), k⟩
theorem all_st {bs : List Bool} (h : St S C0 C L) (a : At L p (.lst (bs.map D.bl))) (k : Q (.bl (bs.all id)) C) : allR [.ptr p] C Q := ⟨p, bs, rfl, .inl (h.get a), k⟩
theorem join_st {a : List Nat} {zs : List (List Nat)} (h : St S C0 C L) (m : At L p (.lst (zs.map D.str))) (z : (zs.map List.length).sum + zs.length * a.length ≤ 16777216) (k : Q (.str (joinD a zs)) C) : joinR (.str a) [.ptr p] C Q := ⟨a, .ptr p, zs, rfl, rfl, .inl (h.get m), z, k⟩
theorem joinT {a : List Nat} {zs : List (List Nat)} (z : (zs.map List.length).sum + zs.length * a.length ≤ 16777216) (k : Q (.str (joinD a zs)) C) : joinR (.str a) [.tup (zs.map D.str)] C Q := ⟨a, .tup (zs.map D.str), zs, rfl, rfl, rfl, z, k⟩
theorem intR_b {b : Bool} : intR [.bl b] C Q = Q (.int (if b = true then 1 else 0)) C := by
  unfold intR
  refine propext ⟨?_, fun h => .inr ⟨b, rfl, h⟩⟩
  rintro (⟨i, e, h⟩ | ⟨b', e, h⟩)
  · cases e
  · cases e; exact h
theorem lenR_t : lenR [.tup xs] C Q = Q (.int (xs.length : Int)) C := by
  refine propext ⟨?_, fun h => len_t h⟩
  rintro ⟨d, n, e, hl, h⟩
  cases e
  have hl : n = xs.length := hl
  rw [hl] at h; exact h
theorem lenR_s {l : List Nat} : lenR [.str l] C Q = (l.length ≤ sizeLine ∧ Q (.int (l.length : Int)) C) := by
  refine propext ⟨?_, fun h => len_s h.1 h.2⟩
  rintro ⟨d, n, e, hl, h⟩
  cases e
  obtain ⟨z, hl⟩ : l.length ≤ sizeLine ∧ n = l.length := hl
  rw [hl] at h; exact ⟨z, h⟩
/-! loops -/
def forK (items : List D) (ok : Cp → Prop) (g : DG) (tb : DS) (D : DEnds) (s : Sl) (C1 : Cp) : Prop := ∃ Pv : Nat → Sl → Cp → Prop, Pv 0 s C1 ∧ (∀ i s C, i ≤ items.length → Pv i s C → ok C) ∧
  (∀ i x s C, items[i]? = some x → Pv i s C → g x s C fun s2 C2 => tb { D with nx := fun s' C' => ∃ C'', Sub C'' C' ∧ Pv (i + 1) s' C'', ct := fun s' C' => ∃ C'', Sub C'' C' ∧ Pv (i + 1) s' C'', bk := D.nx } s2 C2) ∧ ∀ s C, Pv items.length s C → D.nx s C
def lcK (items : List D) (ok : Cp → Prop) (g : DG) (tt : DT) (te : DE) (vs : List Nat) (s : Sl) (C1 : Cp) (Q : DQ) : Prop := ∃ Pv : Nat → List D → Cp → Prop, Pv 0 [] C1 ∧ (∀ i acc C, i ≤ items.length → Pv i acc C → ok C) ∧
  (∀ i x acc C, items[i]? = some x → Pv i acc C → acc.length ≤ i → g x (wipeD s vs) C fun s2 C2 => tt s2 C2 fun b C3 => if b = true then te s2 C3 fun y C4 => ∃ C'', Sub C'' C4 ∧ Pv (i + 1) (acc ++ [y]) C'' else ∃ C'', Sub C'' C3 ∧ Pv (i + 1) acc C'') ∧
  items.length < sizeLine ∧ ∀ acc C p, Pv items.length acc C → C p = none → Q (.ptr p) (up C p (.lst acc))
def whK (c : DT) (tb : DS) (D : DEnds) (s : Sl) (C : Cp) : Prop := ∃ W : Nat → Sl → Cp → Prop, (∃ m, W m s C) ∧ ∀ m s C, W m s C → c s C fun b C1 => if b = true then tb { D with nx := fun s' C' => ∃ m', m' < m ∧ ∃ C'', Sub C'' C' ∧ W m' s' C'', ct := fun s' C' => ∃ m', m' < m ∧ ∃ C'', Sub C'' C' ∧ W m' s' C'', bk := D.nx } s C1 else D.nx s C1
theorem for_st {items : List D} {ok : Cp → Prop} {g : DG} {tb : DS} {D : DEnds} {s : Sl} (I : Nat → Sl → Cp → Prop) (h0 : I 0 s C) (hok : ∀ i s C, I i s C → ok C)
    (hs : ∀ i x s C, i < items.length → items[i]? = some x → I i s C → g x s C fun s2 C2 => tb { D with nx := fun s' C' => ∃ C'', Sub C'' C' ∧ I (i + 1) s' C'', ct := fun s' C' => ∃ C'', Sub C'' C' ∧ I (i + 1) s' C'', bk := D.nx } s2 C2) (hd : ∀ s C, I items.length s C → D.nx s C) : forK items ok g tb D s C :=
  ⟨I, h0, fun i s C _ h => hok i s C h, fun i x s C e h => hs i x s C (List.getElem?_eq_some_iff.mp e).1 e h, hd⟩
theorem forR_st {ok : Cp → Prop} {g : DG} {tb : DS} {D : DEnds} {s : Sl} (n : Nat) (I : Nat → Sl → Cp → Prop) (h0 : I 0 s C) (hok : ∀ C, ok C)
    (hs : ∀ i s C, i < n → I i s C → g (.int (i : Int)) s C fun s2 C2 => tb { D with nx := fun s' C' => ∃ C'', Sub C'' C' ∧ I (i + 1) s' C'', ct := fun s' C' => ∃ C'', Sub C'' C' ∧ I (i + 1) s' C'', bk := D.nx } s2 C2) (hd : ∀ s C, I n s C → D.nx s C) : forK (rngD 0 n) ok g tb D s C := by
  refine for_st I h0 (fun _ _ C _ => hok C) (fun i x s C hi e h => ?_) fun s C h => hd s C (by rw [rngD_len] at h; exact h)
  obtain ⟨h1, h2⟩ := rng_at e
  subst h2
  exact hs i s C h1 h
theorem lc_st {items : List D} {ok : Cp → Prop} {g : DG} {tt : DT} {te : DE} {vs : List Nat} {s : Sl} (I : Nat → List D → Cp → Prop) (h0 : I 0 [] C) (hok : ∀ i acc C, I i acc C → ok C)
    (hs : ∀ i x acc C, i < items.length → items[i]? = some x → acc.length ≤ i → I i acc C → g x (wipeD s vs) C fun s2 C2 => tt s2 C2 fun b C3 => if b = true then te s2 C3 fun y C4 => ∃ C'', Sub C'' C4 ∧ I (i + 1) (acc ++ [y]) C'' else ∃ C'', Sub C'' C3 ∧ I (i + 1) acc C'') (hz : items.length < sizeLine)
    (hd : ∀ acc C, I items.length acc C → alloc (.lst acc) C Q) : lcK items ok g tt te vs s C Q :=
  ⟨I, h0, fun i s C _ h => hok i s C h, fun i x acc C e h ha => hs i x acc C (List.getElem?_eq_some_iff.mp e).1 e ha h, hz, fun acc C p h hp => hd acc C h p hp⟩
theorem lcR_st {ok : Cp → Prop} {g : DG} {tt : DT} {te : DE} {vs : List Nat} {s : Sl} (n : Nat) (I : Nat → List D → Cp → Prop) (h0 : I 0 [] C) (hok : ∀ C, ok C)
    (hs : ∀ i acc C, i < n → acc.length ≤ i → I i acc C → g (.int (i : Int)) (wipeD s vs) C fun s2 C2 => tt s2 C2 fun b C3 => if b = true then te s2 C3 fun y C4 => ∃ C'', Sub C'' C4 ∧ I (i + 1) (acc ++ [y]) C'' else ∃ C'', Sub C'' C3 ∧ I (i + 1) acc C'') (hz : n < sizeLine)
    (hd : ∀ acc C, I n acc C → alloc (.lst acc) C Q) : lcK (rngD 0 n) ok g tt te vs s C Q := by
  refine lc_st I h0 (fun _ _ C _ => hok C) (fun i x acc C hi e ha h => ?_) (by rw [rngD_len]; exact hz) fun acc C h => hd acc C (by rw [rngD_len] at h; exact h)
  obtain ⟨h1, h2⟩ := rng_at e
  subst h2
  exact hs i acc C h1 ha h
/-- a comprehension that changes nothing: f of each -/
theorem lc_map {α : Type} {items : List D} {ok : Cp → Prop} {g : DG} {te : DE} {vs : List Nat} {s : Sl} (xs : List α) (f : α → D) (e : α → D) (hi : items = xs.map e) (h : St S C0 C L) (hok : ∀ C, St S C0 C L → ok C)
    (hs : ∀ x C, x ∈ xs → St S C0 C L → ∀ Q' : DQ, (∀ C', St S C0 C' L → Q' (f x) C') → g (e x) (wipeD s vs) C fun s2 C2 => te s2 C2 Q') (hz : xs.length < sizeLine) (k : ∀ r C', St S C0 C' ((r, .lst (xs.map f), true) :: L) → Q (.ptr r) C') : lcK items ok g dYes te vs s C Q := by
  subst hi
  refine lc_st (fun i acc C => acc = (xs.map f).take i ∧ St S C0 C L) ⟨by simp, h⟩ (fun _ _ C ⟨_, h⟩ => hok C h) (fun i x acc C hi ex ha ⟨e1, h⟩ => ?_) (by rw [List.length_map]; exact hz) fun acc C ⟨e1, h⟩ => ?_
  · rw [List.length_map] at hi
    rw [List.getElem?_map, List.getElem?_eq_getElem hi] at ex
    cases ex
    have := hs xs[i] C (List.getElem_mem hi) h (fun y C4 => ∃ C'', Sub C'' C4 ∧ acc ++ [y] = (xs.map f).take (i + 1) ∧ St S C0 C'' L) fun C' h' => ⟨C', Sub.refl _, by rw [e1, List.take_add_one, List.getElem?_map, List.getElem?_eq_getElem hi]; rfl, h'⟩
    simp only [dYes, if_true]
    exact this
  · subst e1
    rw [List.length_map, List.take_of_length_le (by rw [List.length_map]; exact Nat.le_refl _)]
    exact alloc_st h k
theorem ret_k (k : Q d C) : ∃ C'', Sub C'' C ∧ Q d C'' := ⟨C, Sub.refl C, k⟩
end
end KB
/-! KP: the readings' equations as lemmas that are not definitional. -/
namespace KB
open PySem PySem.Spec PyProof.Rows
open L2 hiding op_eqD op_neD call_listD
variable {C : Cp} {Q : DQ} {d : D} {xs ys : List D}
theorem dRng1_p {t : DA} {s} {C} {R} : dRng1 t s C R = (t s C fun ds C1 => ∃ j : Int, ds = [.int j] ∧ -(2 ^ 62) ≤ j ∧ j < 2 ^ 62 ∧ R (rngD 0 j.toNat) (fun _ => True) C1) := propext Iff.rfl
theorem dOver_p {t : DE} {s} {C} {R} : dOver t s C R = (t s C fun x C1 => match x with
  | .ptr p => ∃ ds, isL C1 p ds ∧ R ds (fun C => isL C p ds) C1
  | _ => False) := propext Iff.rfl
theorem dOverT_p {t : DE} {s} {C} {R} : dOverT t s C R = (t s C fun x C1 => match x with
  | .tup ds => R ds (fun _ => True) C1
  | _ => False) := propext Iff.rfl
theorem dOverS_p {t : DE} {s} {C} {R} : dOverS t s C R = (t s C fun x C1 => match x with
  | .str l => R (l.map fun c => .str [c]) (fun _ => True) C1
  | _ => False) := propext Iff.rfl
theorem dAltI_p {t u : DI} {s} {C} {Q} : dAltI t u s C Q = (t s C Q ∨ u s C Q) := propext Iff.rfl
theorem dSeq_p {t u : DS} {D} {s} {C} : dSeq t u D s C = (t { D with nx := u D } s C) := propext Iff.rfl
theorem dChain_p {r r' : D → D → Cp → DQ → Prop} {ta tb tc : DE} {s} {C} {Q} : dChain r r' ta tb tc s C Q = (ta s C fun x C1 => tb s C1 fun y C2 => r x y C2 fun z C3 => ∃ k, z = .bl k ∧ (if k = true then tc s C3 fun w C4 => r' y w C4 Q else Q (.bl false) C3)) := propext Iff.rfl
theorem dOrT_p {ta tb : DE} {s} {C} {Q} : dOrT ta tb s C Q = (ta s C fun x C1 => ∃ k, truD C1 x k ∧ if k = true then Q x C1 else tb s C1 Q) := propext Iff.rfl
theorem dAndT_p {ta tb : DE} {s} {C} {Q} : dAndT ta tb s C Q = (ta s C fun x C1 => ∃ k, truD C1 x k ∧ if k = true then tb s C1 Q else Q x C1) := propext Iff.rfl
theorem dNotT_p {ta : DE} {s} {C} {Q} : dNotT ta s C Q = (ta s C fun x C1 => ∃ k, truD C1 x k ∧ Q (.bl (!k)) C1) := propext Iff.rfl
theorem dAsg_p {te : DE} {g : DG} {D} {s} {C} : dAsg te g D s C = (te s C fun x C1 => g x s C1 D.nx) := propext Iff.rfl
theorem dOp_p {r : D → D → Cp → DQ → Prop} {ta tb : DE} {s} {C} {Q} : dOp r ta tb s C Q = (ta s C fun x C1 => tb s C1 fun y C2 => r x y C2 Q) := propext Iff.rfl
theorem dVar_p {i : Nat} {s} {C} {Q} : dVar i s C Q = (∃ d, s[i]? = some (some d) ∧ Q d C) := propext Iff.rfl
theorem dC_p {d : D} {u0} {C} {Q} : dC d u0 C Q = (Q d C) := propext Iff.rfl
theorem gNm_p {i : Nat} {d} {s} {C} {Q} : gNm i d s C Q = (Q (s.set i (some d)) C) := propext Iff.rfl
theorem gTp_p {n : Nat} {t : DGs} {d} {s} {C} {Q} : gTp n t d s C Q = (∃ ds, d = .tup ds ∧ ds.length = n ∧ t ds s C Q) := propext Iff.rfl
theorem gCn_p {t : DG} {u : DGs} {ds} {s} {C} {Q} : gCn t u ds s C Q = (∃ d r, ds = d :: r ∧ t d s C fun s' C' => u r s' C' Q) := propext Iff.rfl
theorem gNl_p {ds} {s} {C} {Q} : gNl  ds s C Q = (ds = [] ∧ Q s C) := propext Iff.rfl
theorem dRet_p {t : DE} {D} {s} {C} : dRet t D s C = (t s C D.rt) := propext Iff.rfl
theorem dIf_p {c : DT} {t u : DS} {D} {s} {C} : dIf c t u D s C = (c s C fun b C1 => if b = true then t D s C1 else u D s C1) := propext Iff.rfl
theorem dTest_p {t : DE} {s} {C} {Q} : dTest t s C Q = (t s C fun d C1 => ∃ b, d = .bl b ∧ Q b C1) := propext Iff.rfl
theorem dTru_p {t : DE} {s} {C} {Q} : dTru t s C Q = (t s C fun d C1 => ∃ k, truD C1 d k ∧ Q k C1) := propext Iff.rfl
theorem dNot_p {t : DT} {s} {C} {Q} : dNot t s C Q = (t s C fun c C1 => Q (!c) C1) := propext Iff.rfl
theorem dAnd_p {t u : DT} {s} {C} {Q} : dAnd t u s C Q = (t s C fun c C1 => if c = true then u s C1 Q else Q false C1) := propext Iff.rfl
theorem dOr_p {t u : DT} {s} {C} {Q} : dOr t u s C Q = (t s C fun c C1 => if c = true then Q true C1 else u s C1 Q) := propext Iff.rfl
theorem dNext_p {D} {s} {C} : dNext  D s C = (D.nx s C) := propext Iff.rfl
theorem dDrop_p {t : DE} {D} {s} {C} : dDrop t D s C = (t s C fun _ C1 => D.nx s C1) := propext Iff.rfl
theorem dCons_p {t : DE} {u : DA} {s} {C} {Q} : dCons t u s C Q = (t s C fun x C1 => u s C1 fun xs C2 => Q (x :: xs) C2) := propext Iff.rfl
theorem dNil_p {u0} {C} {Q} : dNil  u0 C Q = (Q [] C) := propext Iff.rfl
theorem dTup_p {t : DA} {s} {C} {Q} : dTup t s C Q = (t s C fun ds C1 => ds.length ≤ 1000 ∧ Q (.tup ds) C1) := propext Iff.rfl
theorem dPar_p {i j : Nat} {ta : DA} {D} {s} {C} : dPar i j ta D s C = (ta s C fun ds C1 => ∃ v w, ds = [v, w] ∧ D.nx ((s.set i (some v)).set j (some w)) C1) := propext Iff.rfl
theorem dSetI_p {to ti tv : DE} {D} {s} {C} : dSetI to ti tv D s C = (tv s C fun v C1 => to s C1 fun x C2 => ti s C2 fun y C3 => setR x y v C3 fun C4 => D.nx s C4) := propext Iff.rfl
theorem dCall_p {F : DSp} {dd : List D} {t : DA} {s} {C} {Q} : dCall F dd t s C Q = (t s C fun ds C1 => F (ds ++ dd) C1 Q fun _ _ => False) := propext Iff.rfl
theorem dCB_p {r : List D → Cp → DQ → Prop} {t : DA} {s} {C} {Q} : dCB r t s C Q = (t s C fun ds C1 => r ds C1 Q) := propext Iff.rfl
theorem dBM_p {T : String} {r : D → List D → Cp → DQ → Prop} {to : DE} {t : DA} {s} {C} {Q} : dBM T r to t s C Q = (to s C fun d C1 => tyD C1 T d ∧ t s C1 fun ds C2 => r d ds C2 Q) := propext Iff.rfl
theorem dBM0_p {T : String} {r : D → List D → Cp → DQ → Prop} {to : DE} {s} {C} {Q} : dBM0 T r to s C Q = (to s C fun d C1 => tyD C1 T d ∧ r d [] C1 Q) := propext Iff.rfl
theorem dIfE_p {t : DT} {ta tb : DE} {s} {C} {Q} : dIfE t ta tb s C Q = (t s C fun c C1 => if c = true then ta s C1 Q else tb s C1 Q) := propext Iff.rfl
theorem dSl_p {te : DE} {tl th : DO} {s} {C} {Q} : dSl te tl th s C Q = (te s C fun x C1 => tl s C1 fun l C2 => th s C2 fun u C3 => slD x l u C3 Q) := propext Iff.rfl
theorem dPart_p {t : DE} {s} {C} {Q} : dPart t s C Q = (t s C fun x C1 => ∃ i, x = .int i ∧ Q (some i) C1) := propext Iff.rfl
theorem dNoP_p {u0} {C} {Q} : dNoP  u0 C Q = (Q none C) := propext Iff.rfl
theorem dAlt_p {t u : DE} {s} {C} {Q} : dAlt t u s C Q = (t s C Q ∨ u s C Q) := propext Iff.rfl
theorem dYes_p {u0} {C} {Q} : dYes  u0 C Q = (Q true C) := propext Iff.rfl
theorem isNR_p {neg : Bool} {x} {y} {C} {Q} : isNR neg x y C Q = (y = .non ∧ Q (.bl (match x with | .non => !neg | _ => neg)) C) := propext Iff.rfl
theorem dFor_e_p {src : DI} {g : DG} {tb : DS} {D : DEnds} {s : Sl} : dFor src g tb D s C = src s C fun items ok C1 => forK items ok g tb D s C1 := propext Iff.rfl
theorem dLc_e_p {src : DI} {g : DG} {tt : DT} {te : DE} {vs : List Nat} {s : Sl} : dLc src g tt te vs s C Q = src s C fun items ok C1 => lcK items ok g tt te vs s C1 Q := propext Iff.rfl
theorem dWhile_e_p {c : DT} {tb : DS} {D : DEnds} {s : Sl} : dWhile c tb D s C = whK c tb D s C := propext Iff.rfl
theorem dGetI_eq_p {to ti : DE} {s : Sl} : dGetI to ti s C Q = to s C fun x C1 => ti s C1 fun y C2 => getX x y C2 Q := propext Iff.rfl
theorem dLst_e_p {t : DA} {s : Sl} : dLst t s C Q = t s C fun ds C1 => ds.length ≤ 1000 ∧ alloc (.lst ds) C1 Q := propext Iff.rfl
theorem dEmp_e_p {s : Sl} : dEmp s C Q = alloc (.dk []) C Q := propext Iff.rfl
theorem dEmpG_e_p {s : Sl} : dEmpG s C Q = alloc (.dg []) C Q := propext Iff.rfl
theorem dDisp_e_p {trs : List (DE × DE)} {s : Sl} : dDisp trs s C Q = dPairs trs s C fun ps C2 => ∃ kvs : List (DKey × D), ps = kvs.map (fun kv => (keyD kv.1, kv.2)) ∧ kvs.length ≤ 15 ∧ alloc (.dk (mergeA [] kvs)) C2 Q := propext Iff.rfl
theorem addD_ii_p {a b : Int} : addD (.int a) (.int b) C Q = Q (.int (a + b)) C := propext Iff.rfl
theorem addD_ss_p {a b : List Nat} : addD (.str a) (.str b) C Q = (a.length + b.length ≤ sizeLine ∧ Q (.str (a ++ b)) C) := propext Iff.rfl
theorem addD_tt_p {a b : List D} : addD (.tup a) (.tup b) C Q = (a.length + b.length ≤ sizeLine ∧ Q (.tup (a ++ b)) C) := propext Iff.rfl
theorem subD_ii_p {a b : Int} : subD (.int a) (.int b) C Q = Q (.int (a - b)) C := propext Iff.rfl
theorem mulD_ii_p {a b : Int} : mulD (.int a) (.int b) C Q = (CMulW a b ∧ Q (.int (a * b)) C) := propext Iff.rfl
theorem modD_ii_p {a b : Int} : modD (.int a) (.int b) C Q = (0 < b ∧ Q (.int (a % b)) C) := propext Iff.rfl
theorem fdivD_ii_p {a b : Int} : fdivD (.int a) (.int b) C Q = (CDivW a b ∧ Q (.int (a / b)) C) := propext Iff.rfl
theorem powE_ii_p {a b : Int} {C : Cp} {Q : DQ} : powE (.int a) (.int b) C Q = (PowOk a b ∧ Q (.int (a ^ b.toNat)) C) := propext Iff.rfl
theorem ltD_ii_p {a b : Int} : ltD (.int a) (.int b) C Q = Q (.bl (decide (a < b))) C := propext Iff.rfl
theorem leD_ii_p {a b : Int} : leD (.int a) (.int b) C Q = Q (.bl (decide (a ≤ b))) C := propext Iff.rfl
theorem gtD_ii_p {a b : Int} : gtD (.int a) (.int b) C Q = Q (.bl (decide (b < a))) C := propext Iff.rfl
theorem geD_ii_p {a b : Int} : geD (.int a) (.int b) C Q = Q (.bl (decide (b ≤ a))) C := propext Iff.rfl
theorem eqR_tt_p {n : Bool} {a b : List D} : eqR n (.tup a) (.tup b) C Q = (okEq (.tup a) ∧ npt (.tup b) = true ∧ Q (.bl (if n then !(eqD (.tup a) (.tup b)) else eqD (.tup a) (.tup b))) C) := propext Iff.rfl
theorem truD_b_p {a k : Bool} : truD C (.bl a) k = (k = a) := propext Iff.rfl
theorem slD_t_p {lo hi : Option Int} : slD (.tup xs) lo hi C Q = Q (.tup (cutL xs lo hi)) C := propext Iff.rfl
theorem slD_s_p {l : List Nat} {lo hi : Option Int} : slD (.str l) lo hi C Q = (l.length ≤ sizeLine ∧ Q (.str (cutL l lo hi)) C) := propext Iff.rfl
theorem dPairs_n {s : Sl} {K : List (D × D) → Cp → Prop} : dPairs [] s C K = K [] C := propext Iff.rfl
theorem dPairs_c {tk tv : DE} {r : List (DE × DE)} {s : Sl} {K : List (D × D) → Cp → Prop} : dPairs ((tk, tv) :: r) s C K = tk s C fun x C1 => tv s C1 fun y C2 => dPairs r s C2 fun ps C3 => K ((x, y) :: ps) C3 := propext Iff.rfl
end KB
/-! KS1: sorted lists of things of one kind; paths. -/
namespace KB
open PySem PySem.Spec PyProof.Rows
open L2 hiding op_eqD op_neD call_listD
theorem sort_img {α : Type} (f : α → D) (as : List α) : ∃ bs : List α, (as.map f).mergeSort leP = bs.map f ∧ bs.Perm as :=
  ⟨as.mergeSort fun a b => leP (f a) (f b), (W.sort_maps f fun _ _ _ _ => rfl).symm, List.mergeSort_perm _ _⟩
section
variable {S : Addr → Prop} {C0 C : Cp} {L L' L1 : List Ent} {p q : Addr} {Q : DQ} {α : Type} {f : α → D} {as : List α}
/-- what is picked by a test that changes nothing -/
theorem lc_pick {items : List D} {ok : Cp → Prop} {g : DG} {tt : DT} {te : DE} {vs : List Nat} {s : Sl} (xs : List α) (P : α → Bool) (f : α → D) (e : α → D) (hi : items = xs.map e) (h : St S C0 C L) (hok : ∀ C, St S C0 C L → ok C)
    (hs : ∀ x C, x ∈ xs → St S C0 C L → ∀ (Qt : Sl → Bool → Cp → Prop) (Q' : DQ), (P x = true → ∀ C', St S C0 C' L → Q' (f x) C') → (P x = false → ∀ s' C', St S C0 C' L → Qt s' false C') → g (e x) (wipeD s vs) C fun s2 C2 => tt s2 C2 fun b C3 => if b = true then te s2 C3 Q' else Qt s2 false C3)
    (hz : xs.length < sizeLine) (k : ∀ r C', St S C0 C' ((r, .lst ((xs.filter P).map f), true) :: L) → Q (.ptr r) C') : lcK items ok g tt te vs s C Q := by
  subst hi
  refine lc_st (fun i acc C => acc = ((xs.take i).filter P).map f ∧ St S C0 C L) ⟨by simp, h⟩ (fun _ _ C ⟨_, h⟩ => hok C h) (fun i x acc C hi ex ha ⟨e1, h⟩ => ?_) (by rw [List.length_map]; exact hz) fun acc C ⟨e1, h⟩ => ?_
  · rw [List.length_map] at hi
    rw [List.getElem?_map, List.getElem?_eq_getElem hi] at ex
    cases ex
    refine hs xs[i] C (List.getElem_mem hi) h (fun _ _ C3 => ∃ C'', Sub C'' C3 ∧ acc = ((xs.take (i + 1)).filter P).map f ∧ St S C0 C'' L) (fun y C4 => ∃ C'', Sub C'' C4 ∧ acc ++ [y] = ((xs.take (i + 1)).filter P).map f ∧ St S C0 C'' L) (fun hp C' h' => ⟨C', Sub.refl _, ?_, h'⟩) fun hp s' C' h' => ⟨C', Sub.refl _, ?_, h'⟩
    · rw [e1, List.take_add_one, List.getElem?_eq_getElem hi, List.filter_append, List.map_append]
      simp [hp]
    · rw [e1, List.take_add_one, List.getElem?_eq_getElem hi, List.filter_append, List.map_append]
      simp [hp]
  · subst e1
    rw [List.length_map, List.take_of_length_le (Nat.le_refl _)]
    exact alloc_st h k
end
theorem cut_drop {α : Type} (xs : List α) (n : Nat) : cutL xs (some (n : Int)) none = xs.drop n := by
  unfold cutL
  rw [HT.sIx_nat, HT.sIx_none]
  rcases Nat.le_total n xs.length with h | h
  · rw [Nat.min_eq_left h, List.take_of_length_le (by rw [List.length_drop]; exact Nat.le_refl _)]
  · rw [Nat.min_eq_right h, Nat.sub_self, List.drop_of_length_le h, List.take_zero]
theorem cut_one {α : Type} (xs : List α) : cutL xs (some 1) none = xs.drop 1 := cut_drop xs 1
theorem at_map {α : Type} {f : α → D} {as : List α} {j : Nat} (hj : j < as.length) : atI (as.map f) (j : Int) = some (f as[j]) := atI_nat (by rw [List.getElem?_map, List.getElem?_eq_getElem hj]; rfl)
theorem join_le (a : List Nat) {n : Nat} : ∀ {ys : List (List Nat)}, (∀ y ∈ ys, y.length ≤ n) → (joinD a ys).length ≤ ys.length * (n + a.length)
  | [], _ => by simp [joinD, TL.joinL]
  | [y], h => by
    have := h y List.mem_cons_self
    simp only [joinD, TL.joinL, List.length_cons, List.length_nil]
    omega
  | y :: z :: r, h => by
    have h1 := h y List.mem_cons_self
    have h2 := join_le a (ys := z :: r) fun v hv => h v (List.mem_cons_of_mem _ hv)
    have e : joinD a (y :: z :: r) = y ++ a ++ joinD a (z :: r) := by simp [joinD, TL.joinL]
    rw [e, List.length_append, List.length_append, List.length_cons, Nat.succ_mul]
    omega
theorem join_mem {a : List Nat} {c : Nat} : ∀ {ys : List (List Nat)}, c ∈ joinD a ys → c ∈ a ∨ ∃ y ∈ ys, c ∈ y
  | [], h => by simp [joinD, TL.joinL] at h
  | [y], h => .inr ⟨y, List.mem_cons_self, by simpa [joinD, TL.joinL] using h⟩
  | y :: z :: r, h => by
    have e : joinD a (y :: z :: r) = y ++ a ++ joinD a (z :: r) := by simp [joinD, TL.joinL]
    rw [e, List.mem_append, List.mem_append] at h
    rcases h with (h | h) | h
    · exact .inr ⟨y, List.mem_cons_self, h⟩
    · exact .inl h
    · rcases join_mem (ys := z :: r) h with h | ⟨v, hv, h⟩
      · exact .inl h
      · exact .inr ⟨v, List.mem_cons_of_mem _ hv, h⟩
/-- plain signs -/
def Sg (l : List Nat) : Prop := ∀ c ∈ l, c < 256
theorem Sg.app {a b : List Nat} (x : Sg a) (y : Sg b) : Sg (a ++ b) := fun c h => (List.mem_append.mp h).elim (x c) (y c)
theorem Sg.nil : Sg [] := fun c h => by cases h
theorem sum_le {n : Nat} : ∀ {ys : List (List Nat)}, (∀ y ∈ ys, y.length ≤ n) → (ys.map List.length).sum ≤ ys.length * n
  | [], _ => Nat.zero_le _
  | y :: r, h => by
    have h1 := h y List.mem_cons_self
    have h2 := sum_le (ys := r) fun v hv => h v (List.mem_cons_of_mem _ hv)
    rw [List.map_cons, List.sum_cons, List.length_cons, Nat.succ_mul]
    omega
section
variable {S : Addr → Prop} {C0 C : Cp} {L L' L1 : List Ent} {p q : Addr} {Q : DQ} {d : D}
theorem getS_st {kvs : List (DKey × D)} {l : List Nat} (h : St S C0 C L) (a : At L p (.dk kvs)) (e : lookA kvs (.inr l) = some d) (k : Q d C) : getX (.ptr p) (.str l) C Q := got_k (h.get a) e k
end
/-! ### instances -/
def setF (n f : Str) (x y : D) (C : Cp) (R : Cp → Prop) : Prop := ∃ p fs, x = .ptr p ∧ C p = some (.ins n fs) ∧ fs.length < 1000 ∧ R (up C p (.ins n (putFd f y fs)))
def getF (n f : Str) (x : D) (C : Cp) (Q : DQ) : Prop := ∃ p fs v, x = .ptr p ∧ C p = some (.ins n fs) ∧ lookF fs f = some v ∧ Q v C
def isI (n m : Str) (x : D) (C : Cp) (P : Prop) : Prop := ∃ p fs, x = .ptr p ∧ C p = some (.ins n fs) ∧ lookF fs m = none ∧ P
section
variable {S : Addr → Prop} {C0 C : Cp} {L L' L1 : List Ent} {p q : Addr} {Q : DQ} {R : Cp → Prop} {d y v : D} {n f m : Str} {fs : Fs}
theorem dSetF_e {to tv : DE} {D : DEnds} {s : Sl} : dSetF n f to tv D s C = tv s C fun y C1 => to s C1 fun x C2 => setF n f x y C2 fun C3 => D.nx s C3 := propext Iff.rfl
theorem dFld_e {to : DE} {s : Sl} : dFld n f to s C Q = to s C fun x C1 => getF n f x C1 Q := propext Iff.rfl
theorem dMake_e {F : DSp} {dd : List D} {t : DA} {s : Sl} : dMake n F dd t s C Q = t s C fun ds C1 => alloc (.ins n []) C1 fun x C2 => F (x :: (ds ++ dd)) C2 (fun v C3 => v = .non ∧ Q x C3) fun _ _ => False := propext Iff.rfl
theorem dMeth_e {F : DSp} {dd : List D} {to : DE} {t : DA} {s : Sl} : dMeth n m F dd to t s C Q = to s C fun x C1 => isI n m x C1 (t s C1 fun ds C2 => F (x :: (ds ++ dd)) C2 Q fun _ _ => False) := propext ⟨fun h => h, fun h => h⟩
theorem setF_st (h : St S C0 C L) (z : fs.length < 1000) (u : Upd L p (.ins n fs) (.ins n (putFd f y fs)) L') (k : ∀ C', St S C0 C' L' → R C') : setF n f (.ptr p) y C R := ⟨p, fs, rfl, h.get u.at, z, k _ (h.put u)⟩
theorem getF_st (h : St S C0 C L) (a : At L p (.ins n fs)) (e : lookF fs f = some v) (k : Q v C) : getF n f (.ptr p) C Q := ⟨p, fs, v, rfl, h.get a, e, k⟩
theorem isI_st {P : Prop} (h : St S C0 C L) (a : At L p (.ins n fs)) (e : lookF fs m = none) (k : P) : isI n m (.ptr p) C P := ⟨p, fs, rfl, h.get a, e, k⟩
end
/-! ### paths: tuples of texts -/
abbrev Pt := List (List Nat)
def pD (ws : Pt) : D := .tup (ws.map D.str)
theorem alike_strs : ∀ xs ys : Pt, W.alikeAll (toPs (xs.map D.str)) (toPs (ys.map D.str)) = true
  | [], _ => by simp only [List.map_nil, toPs, W.alikeAll]
  | x :: xs, [] => by simp only [List.map_nil, List.map_cons, toPs, W.alikeAll]
  | x :: xs, y :: ys => by simp only [List.map_cons, toPs, W.alikeAll, toP, W.alike, alike_strs xs ys, Bool.and_self]
theorem npt_pD (p : Pt) : npt (pD p) = true := (npts_strs p).1
theorem deps_strs (p : Pt) : deps (p.map D.str) = 0 := by
  induction p with
  | nil => rfl
  | cons x r ih => rw [List.map_cons]; unfold deps dep; omega
theorem dep_pD (p : Pt) : dep (pD p) = 1 := by unfold pD dep; rw [deps_strs]
theorem okEqs_of {α : Type} {f : α → D} {n : Nat} (hn : n ≤ 60) (h1 : ∀ a, npt (f a) = true) (h2 : ∀ a, dep (f a) ≤ n) (as : List α) : okEqs (as.map f) := by
  induction as with
  | nil => exact ⟨rfl, Nat.zero_le _⟩
  | cons x r ih =>
    obtain ⟨a, b⟩ := ih
    refine ⟨by rw [List.map_cons]; unfold npts; rw [a, h1]; rfl, ?_⟩
    rw [List.map_cons]
    unfold deps
    have := h2 x
    omega
theorem okEqs_pDs (ps : List Pt) : okEqs (ps.map pD) := okEqs_of (n := 1) (by decide) npt_pD (fun p => by rw [dep_pD]; exact Nat.le_refl _) ps
theorem sortOk_pDs (ps : List Pt) : SortOk (ps.map pD) := by
  refine ⟨.inl ⟨fun a ha b hb => ?_, .inl fun d hd => ?_⟩, fun x hx => ?_⟩
  · obtain ⟨c, hc, rfl⟩ := List.mem_map.mp ha
    obtain ⟨e, he, rfl⟩ := List.mem_map.mp hb
    obtain ⟨x, _, rfl⟩ := List.mem_map.mp hc
    obtain ⟨y, _, rfl⟩ := List.mem_map.mp he
    unfold pD toP
    rw [W.alike]
    exact alike_strs x y
  · obtain ⟨c, hc, rfl⟩ := List.mem_map.mp hd
    obtain ⟨x, _, rfl⟩ := List.mem_map.mp hc
    exact ⟨_, rfl⟩
  · obtain ⟨c, hc, rfl⟩ := List.mem_map.mp hx
    exact ⟨npt_pD c, by rw [dep_pD]; decide⟩
theorem flat_strs (p : Pt) : flatGs (p.map D.str) = true := by
  induction p with
  | nil => rfl
  | cons x r ih => rw [List.map_cons]; unfold flatGs flatG; rw [ih]; rfl
theorem keyG_pD (p : Pt) : keyG (pD p) := by
  refine ⟨⟨_, rfl⟩, ?_, flat_strs p⟩
  unfold pD nk
  have : ∀ p : Pt, NestedKey.depthAll (nks (p.map D.str)) = 0 := by
    intro p
    induction p with
    | nil => rfl
    | cons x r ih => rw [List.map_cons]; unfold nks nk; rw [NestedKey.depthAll, ih]; rfl
  rw [NestedKey.depth, this]
  decide
end KB
/-! KS2: texts and tuples of texts, shown. -/
namespace KB
open PySem PySem.Spec PyProof.Rows
open L2 hiding op_eqD op_neD call_listD
mutual
/-- texts of plain signs, None, truths, tuples of these -/
def txD : D → Bool
  | .non => true
  | .bl _ => true
  | .str l => l.all fun c => decide (c < 256)
  | .tup ds => txDs ds
  | _ => false
def txDs : List D → Bool
  | [] => true
  | d :: ds => txD d && txDs ds
end
theorem Sg.tx {l : List Nat} (h : Sg l) : txD (.str l) = true := by
  unfold txD
  exact List.all_eq_true.mpr fun c hc => by simpa using h c hc
end KB
/-! KS3: f-strings, str(..) by readings. -/
namespace KB
open PySem PySem.Spec PyProof.Rows
open L2 hiding op_eqD op_neD call_listD
variable {C : Cp} {Q : DQ} {te : DE} {ts : List DE} {t : DE} {s : Sl} {acc l : List Nat} {i : Int} {K : List Nat → Cp → Prop}
theorem strR_i : strR [.int i] C Q = (i.natAbs.log2 < 1920 ∧ Q (.str (itoD i)) C) := by
  refine propext ⟨?_, fun h => .inr ⟨i, rfl, h⟩⟩
  rintro (⟨l', e, h⟩ | ⟨i, e, h⟩)
  · cases e
  · cases e; exact h
end KB
/-! KS4: sums of lists; sorted sets told by what is in them; what changes nothing. -/
namespace KB
open PySem PySem.Spec PyProof.Rows
open L2 hiding op_eqD op_neD call_listD
section
variable {S : Addr → Prop} {C0 C C' : Cp} {L L' L1 : List Ent} {p q : Addr} {Q : DQ} {α : Type} {f : α → D} {as : List α}
theorem St.kp0 (h : St S C0 C L) (k : Kp (fun _ => False) C C') : St S C0 C' L :=
  ⟨fun r c n e => k r c id (h.kp r c n e), fun e he => k _ _ id (h.at_ e he), h.nd, h.wr⟩
/-- sorted(set(xs)): what is in it -/
def IsS (f : α → D) (P : α → Prop) (t : List D) : Prop := ∃ bs : List α, bs.Nodup ∧ (∀ x, x ∈ bs ↔ P x) ∧ t = (bs.map f).mergeSort leP
theorem IsS.uniq {P R : α → Prop} {t u : List D} (hf : ∀ a b : List α, a.Perm b → (a.map f).mergeSort leP = (b.map f).mergeSort leP) (he : ∀ x, P x ↔ R x) : IsS f P t → IsS f R u → t = u := by
  rintro ⟨a, n1, h1, rfl⟩ ⟨b, n2, h2, rfl⟩
  exact hf a b (perm_of n1 n2 fun x => (h1 x).trans ((he x).trans (h2 x).symm))
theorem IsS.list {P : α → Prop} {t : List D} (h : IsS f P t) : ∃ cs : List α, t = cs.map f ∧ cs.Nodup ∧ ∀ x, x ∈ cs ↔ P x := by
  obtain ⟨bs, n, hb, rfl⟩ := h
  obtain ⟨cs, e, hp⟩ := sort_img f bs
  exact ⟨cs, e, hp.nodup_iff.mpr n, fun x => (hp.mem_iff).trans (hb x)⟩
end
theorem str_inj (a b : List Nat) (h : D.str a = D.str b) : a = b := by cases h; rfl
end KB
/-! KS5: dicts as sets of tuples, walks over dicts, the order of pairs. -/
namespace KB
open PySem PySem.Spec PyProof.Rows
open L2 hiding op_eqD op_neD call_listD
section
variable {S : Addr → Prop} {C0 C : Cp} {L L' L1 : List Ent} {p q : Addr} {Q : DQ} {R : Cp → Prop} {α : Type} {f : α → D} {ks : List α}
/-- a dict as a set -/
def setG (f : α → D) (ks : List α) : List (D × D) := ks.map fun k => (f k, .bl true)
theorem lookG_set [DecidableEq α] (hf : ∀ a b, nk (f a) = nk (f b) → a = b) (y : α) : ∀ ks : List α, (lookG (setG f ks) (f y)).isSome = decide (y ∈ ks)
  | [] => rfl
  | x :: r => by
    unfold lookG setG
    rw [List.map_cons, List.find?_cons]
    by_cases h : x = y
    · subst h; simp
    · have h2 : ¬ nk (f x) = nk (f y) := fun z => h (hf _ _ z)
      simp only [h2, decide_false]
      have := lookG_set hf y r
      unfold lookG setG at this
      rw [this]
      have h3 : ¬ y = x := fun z => h z.symm
      simp [h3]
theorem putG_new [DecidableEq α] (hf : ∀ a b, nk (f a) = nk (f b) → a = b) {y : α} (h : y ∉ ks) : putG (setG f ks) (f y) (.bl true) = setG f (ks ++ [y]) := by
  unfold putG
  rw [lookG_set hf, if_neg (by simpa using h)]
  unfold setG
  rw [List.map_append]
  rfl
theorem putG_old [DecidableEq α] (hf : ∀ a b, nk (f a) = nk (f b) → a = b) {y : α} (h : y ∈ ks) : putG (setG f ks) (f y) (.bl true) = setG f ks := by
  unfold putG
  rw [lookG_set hf, if_pos (by simpa using h)]
  unfold setG
  rw [List.map_map]
  refine List.map_congr_left fun x _ => ?_
  show (if nk (f x) = nk (f y) then (f x, D.bl true) else (f x, D.bl true)) = _
  split <;> rfl
theorem putG_st [DecidableEq α] (hf : ∀ a b, nk (f a) = nk (f b) → a = b) {y : α} (hk : keyG (f y)) (h : St S C0 C L) (d : Del L p (.dg (setG f ks)) true L1) (z : ks.length < sizeLine) (k : ∀ ks' C', ks' = (if y ∈ ks then ks else ks ++ [y]) → St S C0 C' ((p, .dg (setG f ks'), true) :: L1) → R C') : setR (.ptr p) (f y) (.bl true) C R := by
  refine put_g ((h.front d).get .here) hk (by unfold setG; rw [List.length_map]; exact z) ?_
  by_cases m : y ∈ ks
  · rw [putG_old hf m]
    exact k ks _ (by rw [if_pos m]) ((h.front d).put .here)
  · rw [putG_new hf m]
    exact k _ _ (by rw [if_neg m]) ((h.front d).put .here)
end
theorem nk_ed (a b : Ed) (h : nk (edD a) = nk (edD b)) : a = b := by
  have := nk_inj (edD a) (edD b) (flat_strs [a.1, a.2]) (flat_strs [b.1, b.2]) h
  unfold edD at this
  simp only [D.tup.injEq, List.cons.injEq, D.str.injEq, and_true] at this
  exact Prod.ext this.1 this.2
/-! ### the order of texts and of pairs -/
def leS (x y : List Nat) : Bool := leP (.str x) (.str y)
theorem leS_eq (x y : List Nat) : leS x y = !strKind.blt y x := by
  show (!PyProof.Rows.lexLt itemOrd [.inr y] [.inr x]) = _
  simp only [PyProof.Rows.lexLt, itemLt]
  cases strKind.blt y x <;> simp
end KB
/-! KSp: text.split(sep) read from the left. -/
namespace KB
open PySem PySem.Spec PyProof.Rows
open PySem.Builtin.Str (occurrences partsBetween strSub subAt strKind)
theorem split_parts (x y : Str) : Txt.split x y = partsBetween x (occurrences x y 0 x.length (x.length + 1)) y.length := by
  unfold Txt.split
  split
  · rename_i h
    rw [PySem.W.occ_nil_of_no x y _ fun i hi => ?_, PySem.W.parts_nil]
    rcases Bool.or_eq_true_iff.mp h with h | h
    · have := of_decide_eq_true h; omega
    · cases e : subAt x y i
      · rfl
      · have := PySem.W.kind_le x y e; have := of_decide_eq_true h; omega
  · split
    · rename_i h; rw [List.isEmpty_iff.mp h, PySem.W.parts_nil]
    · rfl
/-- from the left: what is ahead, the piece so far -/
def walk (z : List Nat) : Nat → List Nat → List Nat → List (List Nat)
  | 0, _, cur => [cur]
  | _ + 1, [], cur => [cur]
  | n + 1, c :: r, cur => if (c :: r).take z.length = z then cur :: walk z n ((c :: r).drop z.length) [] else walk z n r (cur ++ [c])
theorem at_iff {l z : List Nat} (hz : z ≠ []) (k : Nat) : StrLaws.At ⟨l.toArray⟩ ⟨z.toArray⟩ l.length k ↔ (l.drop k).take z.length = z := by
  unfold StrLaws.At
  rw [StrLaws.subAt_eq]
  show (k + z.length ≤ l.length ∧ ((l.drop k).take z.length == z) = true) ↔ _
  rw [beq_iff_eq]
  constructor
  · exact fun h => h.2
  · intro h
    refine ⟨?_, h⟩
    have := congrArg List.length h
    rw [List.length_take, List.length_drop] at this
    have : 0 < z.length := by cases z with
      | nil => exact absurd rfl hz
      | cons => exact Nat.succ_pos _
    omega
theorem walk_parts {l z : List Nat} (hz : z ≠ []) : ∀ (n k a f : Nat) (cuts : List Nat), l.length - k < n → a ≤ k → k ≤ l.length → StrLaws.ChainG ⟨l.toArray⟩ ⟨z.toArray⟩ l.length a cuts f → (∀ j, f ≤ j → ¬ StrLaws.At ⟨l.toArray⟩ ⟨z.toArray⟩ l.length j) → (∀ c r, cuts = c :: r → k ≤ c) →
    walk z n (l.drop k) ((l.drop a).take (k - a)) = (StrLaws.partsFrom ⟨l.toArray⟩ z.length a cuts).map TL.tl
  | 0, k, a, f, cuts, hn, _, _, _, _, _ => by omega
  | n + 1, k, a, f, cuts, hn, ha, hk, hc, hf, hlt => by
    have zp : 0 < z.length := by cases z with
      | nil => exact absurd rfl hz
      | cons => exact Nat.succ_pos _
    by_cases e : k = l.length
    · subst e
      rw [List.drop_length]
      cases cuts with
      | nil =>
        show [(l.drop a).take (l.length - a)] = [(strSub ⟨l.toArray⟩ a l.length).cps.toList]
        rw [StrLaws.strSub_toList]
      | cons c r =>
        have h1 := hlt c r rfl
        have h2 : c + z.length ≤ l.length := hc.2.1.1
        omega
    · have hk' : k < l.length := by omega
      have ed : l.drop k = l[k] :: l.drop (k + 1) := List.drop_eq_getElem_cons hk'
      rw [ed]
      unfold walk
      rw [← ed]
      have et : (l.drop a).take (k - a) ++ [l[k]] = (l.drop a).take (k + 1 - a) := by
        rw [show k + 1 - a = (k - a) + 1 by omega, List.take_add_one, List.getElem?_drop, show a + (k - a) = k by omega, List.getElem?_eq_getElem hk']
        rfl
      by_cases hh : (l.drop k).take z.length = z
      · rw [if_pos hh]
        have hA := (at_iff hz k).mpr hh
        cases cuts with
        | nil =>
          have ef : f = a := hc
          exact absurd hA (hf k (by omega))
        | cons c r =>
          obtain ⟨c1, c2, c3, c4⟩ := hc
          have hkc : k = c := by
            have h1 := hlt c r rfl
            rcases Nat.lt_or_ge k c with h | h
            · exact absurd hA (c3 k ha h)
            · omega
          subst hkc
          have hb : k + z.length ≤ l.length := hA.1
          have ih := walk_parts hz n (k + z.length) (k + z.length) f r (by omega) (Nat.le_refl _) hb c4 hf (fun c' r' e' => by subst e'; exact c4.1)
          rw [Nat.sub_self, List.take_zero] at ih
          rw [List.drop_drop, ih]
          show _ = (strSub ⟨l.toArray⟩ a k).cps.toList :: _
          rw [StrLaws.strSub_toList]
      · rw [if_neg hh]
        rw [et]
        refine walk_parts hz n (k + 1) a f cuts (by omega) (by omega) hk' hc hf fun c r e' => ?_
        subst e'
        have h1 := hlt c r rfl
        rcases Nat.lt_or_ge k c with h | h
        · exact h
        · have : k = c := by omega
          subst this
          exact absurd ((at_iff hz k).mp hc.2.1) hh
theorem splitL_walk {l z : List Nat} (hz : z ≠ []) : splitL l z = walk z (l.length + 1) l [] := by
  unfold splitL
  have zp : 1 ≤ (⟨z.toArray⟩ : Str).length := by
    show 1 ≤ z.length
    cases z with
    | nil => exact absurd rfl hz
    | cons => exact Nat.succ_pos _
  obtain ⟨f, hG, hn⟩ := StrLaws.occ_tight ⟨l.toArray⟩ ⟨z.toArray⟩ zp
  rw [split_parts, StrLaws.partsBetween_eq]
  have := walk_parts (l := l) hz (l.length + 1) 0 0 f _ (by omega) (Nat.le_refl _) (Nat.zero_le _) hG hn (fun c r _ => Nat.zero_le _)
  rw [List.drop_zero, Nat.sub_self, List.take_zero] at this
  exact this.symm
end KB
/-! KSx: the readings of raise, try, calls that raise, isinstance by kinds, as equations. -/
namespace KB
open PySem PySem.Spec PyProof.Rows
open L2 hiding op_eqD op_neD call_listD
variable {C : Cp} {Q : DQ} {s : Sl} {W : DX} {D : DEnds}
theorem dCallX_p {F : DSp} {dd : List KB.D} {t : DA} : dCallX F dd t W s C Q = t s C fun ds C1 => F (ds ++ dd) C1 Q fun x C' => W x s C' := propext Iff.rfl
theorem dRaise_p {n : Str} {fl : List Str} {t : DA} : dRaise n fl t W D s C = t s C fun ds C1 => ds.length = fl.length ∧ ds.length ≤ 1000 ∧ W (n, (fl.zip ds).reverse) s C1 := propext Iff.rfl
theorem dKIn_p {neg : Bool} {tbl : List (List Nat × KB.D)} {te : DE} : dKIn neg tbl te s C Q = te s C fun x C1 => ∃ l, x = .str l ∧ Q (.bl (if neg then !(lookK tbl l).isSome else (lookK tbl l).isSome)) C1 := propext Iff.rfl
theorem dKItem_p {tbl : List (List Nat × KB.D)} {te : DE} : dKItem tbl te s C Q = te s C fun x C1 => ∃ l dv, x = .str l ∧ lookK tbl l = some dv ∧ Q dv C1 := propext Iff.rfl
end KB
/-! KSy: readings of keyword calls, setdefault, items, reversed lists. -/
namespace KB
open PySem PySem.Spec PyProof.Rows
open L2 hiding op_eqD op_neD call_listD
section
variable {α : Type} {l : List Src} {a b c : List α} {i : Nat} {s : Sl} {C : Cp} {Q : DQ} {W : DX} {R : List KB.D → (Cp → Prop) → Cp → Prop}
theorem pickS_nil : pickS [] a b c = [] := rfl
theorem pickS_p : pickS (.p i :: l) a b c = (a[i]?).toList ++ pickS l a b c := rfl
theorem pickS_k : pickS (.k i :: l) a b c = (b[i]?).toList ++ pickS l a b c := rfl
theorem pickS_d : pickS (.d i :: l) a b c = (c[i]?).toList ++ pickS l a b c := rfl
theorem dCallW_p {F : DSp} {np nk : Nat} {src : List Src} {dd : List KB.D} {t tk : DA} : dCallW F np nk src dd t tk W s C Q = t s C fun ds C1 => tk s C1 fun zs C2 => ds.length = np ∧ zs.length = nk ∧ F (pickS src ds zs dd) C2 Q fun x C' => W x s C' := propext Iff.rfl
theorem dRevL_p {te : DE} : dRevL te s C Q = te s C fun x C1 => ∃ p xs, x = .ptr p ∧ isL C1 p xs ∧ alloc (.lst xs.reverse) C1 Q := propext Iff.rfl
end
end KB
/-! KSw: readings' equations once more. -/
namespace KB
open PySem PySem.Spec PyProof.Rows
open L2 hiding op_eqD op_neD call_listD
variable {C : Cp} {Q : DQ} {s : Sl}
mutual
/-- what a thing is shown as, in a told store -/
inductive ShL (L : List Ent) : D → PyData → Prop
  | non : ShL L .non .none
  | bl (b : Bool) : ShL L (.bl b) (.bool b)
  | int (i : Int) : ShL L (.int i) (.int i)
  | str (l : List Nat) : ShL L (.str l) (.str ⟨l.toArray⟩)
  | tup {ds : List D} {ps : List PyData} : ShLA L ds ps → ShL L (.tup ds) (.tuple ps)
  | lst {p : Addr} {ds : List D} {b : Bool} {ps : List PyData} : (p, Cell.lst ds, b) ∈ L → ShLA L ds ps → ShL L (.ptr p) (.list ps)
  | dk {p : Addr} {kvs : List (DKey × D)} {b : Bool} {ps : List (PyData × PyData)} : (p, Cell.dk kvs, b) ∈ L → ShLK L kvs ps → ShL L (.ptr p) (.dict ps)
inductive ShLA (L : List Ent) : List D → List PyData → Prop
  | nil : ShLA L [] []
  | cons {d : D} {ds : List D} {p : PyData} {ps : List PyData} : ShL L d p → ShLA L ds ps → ShLA L (d :: ds) (p :: ps)
inductive ShLK (L : List Ent) : List (DKey × D) → List (PyData × PyData) → Prop
  | nil : ShLK L [] []
  | cons {k : DKey} {d : D} {kvs : List (DKey × D)} {p : PyData} {ps : List (PyData × PyData)} : ShL L d p → ShLK L kvs ps → ShLK L ((k, d) :: kvs) ((encK (keyOf k), p) :: ps)
end
section
variable {S : Addr → Prop} {C0 : Cp} {L L1 : List Ent}
mutual
theorem ShL.mono (s : ∀ e ∈ L, e ∈ L1) : ∀ (p : PyData) (d : D), ShL L d p → ShL L1 d p
  | .none, _, x => by cases x; exact .non
  | .bool b, _, x => by cases x; exact .bl b
  | .int i, _, x => by cases x; exact .int i
  | .str z, _, x => by cases x; exact .str _
  | .tuple ps, _, x => by cases x with | tup a => exact .tup (ShLA.mono s ps _ a)
  | .list ps, _, x => by cases x with | lst m a => exact .lst (s _ m) (ShLA.mono s ps _ a)
  | .dict ps, _, x => by cases x with | dk m a => exact .dk (s _ m) (ShLK.mono s ps _ a)
theorem ShLA.mono (s : ∀ e ∈ L, e ∈ L1) : ∀ (ps : List PyData) (ds : List D), ShLA L ds ps → ShLA L1 ds ps
  | [], _, x => by cases x; exact .nil
  | p :: ps, _, x => by cases x with | cons a b => exact .cons (ShL.mono s p _ a) (ShLA.mono s ps _ b)
theorem ShLK.mono (s : ∀ e ∈ L, e ∈ L1) : ∀ (ps : List (PyData × PyData)) (ds : List (DKey × D)), ShLK L ds ps → ShLK L1 ds ps
  | [], _, x => by cases x; exact .nil
  | p :: ps, _, x => by cases x with | cons a b => exact .cons (ShL.mono s _ _ a) (ShLK.mono s ps _ b)
end
theorem ShLA.length : ∀ {ps : List PyData} {ds : List D}, ShLA L ds ps → ds.length = ps.length
  | [], _, x => by cases x; rfl
  | p :: ps, _, x => by cases x with | cons a b => rw [List.length_cons, List.length_cons, b.length]
theorem ShLA.get : ∀ {ps : List PyData} {ds : List D} {i : Nat} {d : D}, ShLA L ds ps → ds[i]? = some d → ∃ p, ps[i]? = some p ∧ ShL L d p
  | [], _, _, _, x, e => by cases x; simp at e
  | p :: ps, _, 0, _, x, e => by cases x with | cons a b => simp at e; subst e; exact ⟨p, rfl, a⟩
  | p :: ps, _, i + 1, _, x, e => by cases x with | cons a b => obtain ⟨q, e1, e2⟩ := b.get (i := i) (by simpa using e); exact ⟨q, by simpa using e1, e2⟩
/-- a kind's name -/
def nmP : PyData → String
  | .none => "NoneType"
  | .bool _ => "bool"
  | .int _ => "int"
  | .str _ => "str"
  | .tuple _ => "tuple"
  | .list _ => "list"
  | .dict _ => "dict"
theorem isi_sh {d : D} {p : PyData} {tb : String} {b : Bool} (h : St S C0 C L) (x : ShL L d p) (hb : kitB (nmP p) tb = some b) (k : Q (.bl b) C) : isiR [d, .ty tb] C Q := by
  refine ⟨d, tb, nmP p, b, rfl, ?_, hb, k⟩
  cases x with
  | non => rfl
  | bl _ => rfl
  | int _ => rfl
  | str _ => rfl
  | tup _ => rfl
  | lst m _ => exact .inl ⟨rfl, _, .inl (h.at_ _ m)⟩
  | dk m _ => exact .inr ⟨rfl, _, h.at_ _ m⟩
end
end KB
/-! KSh: which thing is shown as a pair of nought and the empty text. -/
namespace KB
open PySem PySem.Spec PyProof.Rows
open L2 hiding op_eqD op_neD call_listD
end KB
/-! KSg: sorted over rows that hold lists, told by what they show. -/
namespace KB
open PySem PySem.Spec PyProof.Rows
open L2 hiding op_eqD op_neD call_listD
end KB
/-! KRn: a return without a value. -/
namespace KB
open PySem PySem.Spec PyProof.Rows
open L2 hiding op_eqD op_neD call_listD
end KB
/-! KTr: folders that lie in one another; one that comes into another one; plain. -/
namespace KB
section
variable {α ν φ : Type} [DecidableEq α] [DecidableEq ν] [DecidableEq φ]
/-- climbing from x ends at e -/
inductive Clm (S : α → Option (α × ν)) : α → α → Prop
  | here {x : α} : S x = none → Clm S x x
  | up {x o e : α} {n : ν} : S x = some (o, n) → Clm S o e → Clm S x e
variable {S : α → Option (α × ν)}
theorem Clm.out {x e : α} (h : Clm S x e) : S e = none := by
  induction h with
  | here h => exact h
  | up _ _ ih => exact ih
theorem Clm.uniq {x e e' : α} (h : Clm S x e) (h' : Clm S x e') : e = e' := by
  induction h with
  | here h =>
    cases h' with
    | here _ => rfl
    | up a _ => rw [h] at a; cases a
  | up a _ ih =>
    cases h' with
    | here b => rw [a] at b; cases b
    | up b c => rw [a] at b; cases b; exact ih c
def insF (S : α → Option (α × ν)) (f : α) (v : α × ν) : α → Option (α × ν) := fun x => if x = f then some v else S x
theorem insF_ne {x f : α} {v : α × ν} (h : x ≠ f) : insF S f v x = S x := if_neg h
theorem insF_same {f : α} {v : α × ν} : insF S f v f = some v := if_pos rfl
theorem Clm.ins {f x e : α} {v : α × ν} (hf : S f = none) (h : Clm S x e) (n : e ≠ f) : Clm (insF S f v) x e := by
  induction h with
  | @here x h => exact .here (by rw [insF_ne n]; exact h)
  | @up x o e m a b ih =>
    have : x ≠ f := fun z => by subst z; rw [hf] at a; cases a
    exact .up (by rw [insF_ne this]; exact a) (ih n)
theorem Clm.ins_hit {f x r : α} {v : α × ν} (hf : S f = none) (h : Clm S x f) (hr : Clm (insF S f v) v.1 r) : Clm (insF S f v) x r := by
  induction h with
  | @here x h => exact .up (n := v.2) (by rw [insF_same]) hr
  | @up x o e m a b ih =>
    have : x ≠ e := fun z => by subst z; rw [hf] at a; cases a
    exact .up (by rw [insF_ne this]; exact a) (ih hf hr)
/-! ### the state -/
structure Tree (α ν φ : Type) where
  S : List (α × (α × ν))
  W : List (α × (α × Bool))
  P : List (φ × α)
def addK {β : Type} [DecidableEq β] (l : List β) (k : β) : List β := if k ∈ l then l else l ++ [k]
theorem lookA_mem' {κ β : Type} [DecidableEq κ] {c : List (κ × β)} {k : κ} {v : β} (h : lookA c k = some v) : (k, v) ∈ c := by
  induction c with
  | nil => cases h
  | cons x r ih =>
    rw [lookA_cons] at h
    by_cases e : x.1 = k
    · rw [if_pos e] at h
      cases h
      subst e
      exact List.mem_cons_self
    · rw [if_neg e] at h
      exact List.mem_cons_of_mem _ (ih h)
theorem lookA_none_iff {κ β : Type} [DecidableEq κ] {c : List (κ × β)} {k : κ} : lookA c k = none ↔ k ∉ c.map (·.1) := by
  constructor
  · intro h m
    induction c with
    | nil => cases m
    | cons x r ih =>
      rw [lookA_cons] at h
      by_cases e : x.1 = k
      · rw [if_pos e] at h; cases h
      · rw [if_neg e] at h
        rw [List.map_cons] at m
        rcases List.mem_cons.mp m with z | z
        · exact e z.symm
        · exact ih h z
  · intro h
    cases e : lookA c k with
    | none => rfl
    | some v => exact absurd (List.mem_map.mpr ⟨_, lookA_mem' e, rfl⟩) h
end
end KB
/-! KTs: a folder comes into another one: what holds behind it. -/
namespace KB
section
variable {α ν φ : Type} [DecidableEq α] [DecidableEq ν] [DecidableEq φ]
structure Okt (r : α) (t : Tree α ν φ) : Prop where
  kn : (t.S.map (·.1)).Nodup
  inj : ∀ x y v, lookA t.S x = some v → lookA t.S y = some v → x = y
  wn : (t.W.map (·.1)).Nodup
  dj : ∀ x, lookA t.S x ≠ none → lookA t.W x = none
  nf : ∀ a ∈ t.W, a.2.2 = false → a.2.1 ≠ r
  wt : ∀ x, ∃ e, Clm (lookA t.W) x e
  rs : lookA t.S r = none
  rw : lookA t.W r = none
  tm : ∀ x, ∃ e, Clm (lookA t.S) x e
theorem lookA_insF {ν : Type} {S : List (α × (α × ν))} {f : α} (h : lookA S f = none) (v : α × ν) : lookA (S ++ [(f, v)]) = insF (lookA S) f v := by
  funext x
  rw [lookA_snoc]
  unfold insF
  by_cases z : x = f
  · subst z; simp [h]
  · rw [if_neg z]
    have z2 : ¬ f = x := fun w => z w.symm
    cases lookA S x <;> simp [z2]
theorem Okt.put {r f o : α} {m : ν} {t : Tree α ν φ} (h : Okt r t) (hf : lookA t.S f = none) (hw : lookA t.W f = none) (nr : f ≠ r) (ho : Clm (lookA t.S) o r) (hn : ∀ x, lookA t.S x ≠ some (o, m)) : Okt r { t with S := t.S ++ [(f, (o, m))] } := by
  have ev : ∀ x v, insF (lookA t.S) f (o, m) x = some v → (x = f ∧ v = (o, m)) ∨ (x ≠ f ∧ lookA t.S x = some v) := fun x v e => by
    unfold insF at e
    split at e
    · rename_i z; cases e; exact .inl ⟨z, rfl⟩
    · rename_i z; exact .inr ⟨z, e⟩
  refine ⟨?_, fun x y v h1 h2 => ?_, h.wn, fun x hx => ?_, h.nf, h.wt, ?_, h.rw, fun x => ?_⟩
  · show ((t.S ++ [(f, (o, m))]).map (·.1)).Nodup
    rw [List.map_append]
    refine List.nodup_append.mpr ⟨h.kn, by simp, fun a ha b hb z => ?_⟩
    have hb : b = f := by simpa using hb
    subst hb
    exact lookA_none_iff.mp hf (z ▸ ha)
  · have h1 : lookA (t.S ++ [(f, (o, m))]) x = some v := h1
    have h2 : lookA (t.S ++ [(f, (o, m))]) y = some v := h2
    rw [lookA_insF hf] at h1 h2
    rcases ev _ _ h1 with ⟨a1, a2⟩ | ⟨a1, a2⟩
    · rcases ev _ _ h2 with ⟨b1, b2⟩ | ⟨b1, b2⟩
      · rw [a1, b1]
      · subst a2; exact absurd b2 (hn y)
    · rcases ev _ _ h2 with ⟨b1, b2⟩ | ⟨b1, b2⟩
      · subst b2; exact absurd a2 (hn x)
      · exact h.inj _ _ _ a2 b2
  · by_cases z : x = f
    · rw [z]; exact hw
    · refine h.dj x fun w => hx ?_
      show lookA (t.S ++ [(f, (o, m))]) x = none
      rw [lookA_insF hf, insF_ne z]; exact w
  · show lookA (t.S ++ [(f, (o, m))]) r = none
    rw [lookA_insF hf, insF_ne (fun z => nr z.symm)]; exact h.rs
  · show ∃ e, Clm (lookA (t.S ++ [(f, (o, m))])) x e
    rw [lookA_insF hf]
    obtain ⟨e, he⟩ := h.tm x
    by_cases z : e = f
    · subst z
      exact ⟨r, he.ins_hit hf (ho.ins hf fun z => nr z.symm)⟩
    · exact ⟨e, he.ins hf z⟩
end
end KB
/-! KTu: deeds on folders: what holds behind each. -/
namespace KB
section
variable {α ν φ : Type} [DecidableEq α] [DecidableEq ν] [DecidableEq φ]
variable {r : α} {t : Tree α ν φ} {le : ν × α → ν × α → Bool} {n : Nat}
/-- the way up, name by name -/
inductive Clp (S : α → Option (α × ν)) : α → List ν → List ν → Prop
  | here {x : α} {acc : List ν} : S x = none → Clp S x acc acc
  | up {x o : α} {m : ν} {acc res : List ν} : S x = some (o, m) → Clp S o (m :: acc) res → Clp S x acc res
theorem Clp.uniq {S : α → Option (α × ν)} {x : α} {acc res res' : List ν} (h : Clp S x acc res) (h' : Clp S x acc res') : res = res' := by
  induction h with
  | here h =>
    cases h' with
    | here _ => rfl
    | up a _ => rw [h] at a; cases a
  | up a _ ih =>
    cases h' with
    | here b => rw [a] at b; cases b
    | up b c => rw [a] at b; cases b; exact ih c
end
end KB
/-! KFm: dicts of one kind, and families of things that are reached through a dict. -/
namespace KB
open PySem PySem.Spec PyProof.Rows
open L2 hiding op_eqD op_neD call_listD
section
variable {κ β : Type} [DecidableEq κ] {f : κ → D} {g : β → D} {e : κ → DKey}
def kD (e : κ → DKey) (g : β → D) (kvs : List (κ × β)) : List (DKey × D) := kvs.map fun x => (e x.1, g x.2)
theorem lookA_kD (he : ∀ a b, e a = e b → a = b) (k : κ) : ∀ kvs : List (κ × β), lookA (kD e g kvs) (e k) = (lookA kvs k).map g
  | [] => rfl
  | x :: r => by
    unfold kD
    rw [List.map_cons, lookA_cons, lookA_cons]
    by_cases h : x.1 = k
    · subst h; simp
    · have h2 : ¬ e x.1 = e k := fun z => h (he _ _ z)
      simp only [h2, h, if_false]
      exact lookA_kD he k r
theorem putA_kD (he : ∀ a b, e a = e b → a = b) (k : κ) (v : β) (kvs : List (κ × β)) : putA (kD e g kvs) (e k) (g v) = kD e g (putA kvs k v) := by
  unfold putA
  rw [lookA_any, lookA_any, lookA_kD he, Option.isSome_map]
  split
  · unfold kD
    rw [List.map_map, List.map_map]
    refine List.map_congr_left fun x _ => ?_
    simp only [Function.comp]
    by_cases h : x.1 = k
    · subst h; simp
    · have h2 : ¬ e x.1 = e k := fun z => h (he _ _ z)
      rw [if_neg h2, if_neg h]
  · unfold kD
    rw [List.map_append]
    rfl
theorem putA_fresh {kvs : List (κ × β)} {k : κ} {v : β} (h : lookA kvs k = none) : putA kvs k v = kvs ++ [(k, v)] := by
  unfold putA
  rw [lookA_any, h]
  rfl
theorem kD_len (kvs : List (κ × β)) : (kD e g kvs).length = kvs.length := List.length_map _
end
section
variable {S : Addr → Prop} {C0 C : Cp} {L L' L1 : List Ent} {p q : Addr} {Q : DQ} {R : Cp → Prop} {κ β : Type} [DecidableEq κ] {f : κ → D} {g : β → D} {kvs : List (κ × β)} {k : κ} {v : β}
variable {e : κ → DKey}
theorem inKD_st {n : Bool} (he : ∀ a b, e a = e b → a = b) (h : St S C0 C L) (a : At L p (.dk (kD e g kvs))) (z : Q (.bl (if n then !(lookA kvs k).isSome else (lookA kvs k).isSome)) C) : inDR n (keyD (e k)) (.ptr p) C Q := by
  refine inKD (h.get a) ?_
  rw [lookA_kD he, Option.isSome_map]
  exact z
theorem getKD_st (he : ∀ a b, e a = e b → a = b) (h : St S C0 C L) (a : At L p (.dk (kD e g kvs))) (m : lookA kvs k = some v) (z : Q (g v) C) : getX (.ptr p) (keyD (e k)) C Q :=
  got_k (h.get a) (by rw [lookA_kD he, m]; rfl) z
theorem putKD_st (he : ∀ a b, e a = e b → a = b) (h : St S C0 C L) (u : Upd L p (.dk (kD e g kvs)) (.dk (kD e g (putA kvs k v))) L') (z : kvs.length < sizeLine) (r : ∀ C', St S C0 C' L' → R C') : setR (.ptr p) (keyD (e k)) (g v) C R := by
  refine put_k (h.get u.at) (e k) (by rw [kD_len]; exact z) ?_
  rw [putA_kD he]
  exact r _ (h.put u)
end
/-! ### families -/
section
variable {κ β : Type} [DecidableEq κ]
/-- a family: for each key a place, and what stands there -/
abbrev Fam (κ β : Type) := List (κ × (Addr × β))
def famL (cl : β → Cell) (I : Fam κ β) : List Ent := I.map fun x => (x.2.1, cl x.2.2, true)
/-- the dict that leads to it -/
def famA (I : Fam κ β) : List (κ × Addr) := I.map fun x => (x.1, x.2.1)
variable {cl : β → Cell} {I : Fam κ β} {k : κ} {a : Addr} {b b' : β} {L : List Ent}
theorem lookA_famA (k : κ) : ∀ I : Fam κ β, lookA (famA I) k = (lookA I k).map (·.1)
  | [] => rfl
  | x :: r => by
    unfold famA
    rw [List.map_cons, lookA_cons, lookA_cons]
    by_cases h : x.1 = k
    · rw [if_pos h, if_pos h]; rfl
    · rw [if_neg h, if_neg h]; exact lookA_famA k r
theorem fam_at : ∀ {I : Fam κ β}, lookA I k = some (a, b) → At (famL cl I ++ L) a (cl b)
  | [], h => by cases h
  | x :: r, h => by
    rw [lookA_cons] at h
    by_cases e : x.1 = k
    · rw [if_pos e] at h
      have e2 : x.2 = (a, b) := Option.some.inj h
      have : x = (k, a, b) := Prod.ext e e2
      subst this
      exact .here
    · rw [if_neg e] at h
      exact .there (fam_at h)
theorem lookA_app_none {κ β : Type} [DecidableEq κ] {I : List (κ × β)} {k j : κ} {v : β} (h : lookA I k = none) : lookA (I ++ [(k, v)]) j = if j = k then some v else lookA I j := by
  rw [lookA_snoc]
  by_cases z : j = k
  · subst z; simp [h]
  · have z2 : ¬ k = j := fun w => z w.symm
    cases lookA I j <;> simp [z, z2]
end
end KB
/-! KSk: sorted(xs, key=lambda p: r(p)), r a name of the def that holds one of three defs. -/
namespace KB
open PySem PySem.W PySem.Spec PyProof.Rows
open L2 hiding op_eqD op_neD call_listD
section
variable {prog : Program} {w : World} {A : Around} {s : Shared} {K : PySem.W.Frag} {f : Addr} {x q p : Str} {st : Stmt} {fd : FuncData} {v : Value} {e : Expr} {rp : Pos}
/-- what is asked of a def's text: one parameter, no other name of its own, a row that tells e -/
structure Def1 (x q : Str) (st : Stmt) (p : Str) (e : Expr) (rp : Pos) : Prop where
  body : defBody st = [.Return (some e) rp]
  bind : ∀ (kV doc pm : Value) (an : Option Addr) (cdv ct v : Value), bindArgs (PySem.W.fnOf x q (defArgs st) (defBody st) (defScope st) .none kV doc pm an cdv ct) ⟨[v], []⟩ = pure [(p, v)]
  loc : (defScope st).names.lookup p = some .local
  cell : ∀ x ∈ (defScope st).names, x.2 ≠ .cell
  co : (defScope st).isCoroutine = false
  gen : (defScope st).isGenerator = false
  kind : (defScope st).kind = .function
theorem def_callQ {Q : Value → Shared → Prop} (F : Fun K x q st f fd) (L : Def1 x q st p e rp) (kin : K.In s.heap) (hroom : A.depth < recursionLimit) (nl : s.heap.NoLimit)
    (h : ∀ (cdv : Value) (h1 : Heap), h1.Ns s.heap.objs.size (fun y => [(p, v)].reverse.lookup y) → (∀ b o, s.heap.get? b = some o → h1.get? b = some o) →
      wpAny (model prog w) (A.deeper (PySem.W.envX q (defScope st) s.heap.objs.size f cdv [])) (eval e (PySem.W.envX q (defScope st) s.heap.objs.size f cdv [])) Q (fun _ _ => False) { s with heap := h1, toks := s.toks + 1 }) :
    wpAny (model prog w) A (call (.ref f) [v]) Q (fun _ _ => False) s := by
  obtain ⟨oc, od, kV, doc, pm, an, cdv, ct, osl, rfl, lk, hcd⟩ := F.ex
  have rc : codeAny (model prog w) A (.call (.ref f) ⟨[v], []⟩) (fun r s' => ∃ u, r = .ok (.ret u) ∧ Q u s') s := by
    refine codeAny_call_function hroom (kin _ _ lk) rfl L.co L.gen rfl (PySem.W.codeRec_of kin hcd) ?_
    rw [L.bind]
    refine wpAny_pure (wpAny_newFunctionEnv L.cell (fun x hx => by rw [List.mem_singleton.mp hx]; exact L.loc) (fun g hns hsb => ⟨nl.fresh _ hsb, ?_⟩) L.kind)
    have kp : ∀ b o, s.heap.get? b = some o → g.get? b = some o := fun b o e => hsb.extBut b o (Nat.ne_of_lt (Heap.lt_size e)) (Heap.get?_push_of_some _ e)
    refine codeAny_func ?_
    rw [L.body]
    refine wpAny_execs_cons (wpAny_Return_some ?_)
    exact wpAny_mono (h cdv g hns kp) (fun u s' z => ⟨u, rfl, z⟩) fun _ _ z => z.elim
  refine wpAny_call (codeAny_mono rc fun r s' hq => ?_)
  obtain ⟨u, rfl, z⟩ := hq
  exact z
end
/-! ### the three texts -/
section
variable {prog : Program} {w : World} {A1 : Around} {env : Env} {g : Heap} {tk : Nat} {t : Addr} {its : Array Value} {p : Str} {s0 : Shared} {Q : Value → Shared → Prop} {u0 u1 : Value} {kj0 kj1 kc kt : Nat} {p1 p2 p3 p4 p5 p6 pc po pt q0 q1 : Pos} {d0 d1 : PyData}
/-- what a key's text ends in -/
def Ends (g : Heap) (s0 : Shared) (d : PyData) (Q : Value → Shared → Prop) : Prop := ∀ (u : Value) (g' : Heap) (tk' : Nat), (∀ b o, g.get? b = some o → g'.get? b = some o) → Reads g' u d [] → Q u { s0 with heap := g', toks := tk' }
theorem body_adr (hk : env.scope.kind = .function) (hl : env.kindOf p = some .local) (hn : g.Ns env.locals (fun y => [(p, .ref t)].reverse.lookup y)) (ht : IsTup g t its) (h0 : its[0]? = some u0) (r0 : Reads g u0 d0 []) (h : Ends g s0 d0 Q) (hd : (p == ("__debug__" : Str)) = false) :
    wpAny (model prog w) A1 (eval (.Subscript (.Name p p1) (.Constant (.int 0) kj0 p2) p3) env) Q (fun _ _ => False) { s0 with heap := g, toks := tk } := by
  have hz : 0 < its.size := by
    rcases Nat.lt_or_ge 0 its.size with z | z
    · exact z
    · rw [Array.getElem?_eq_none z] at h0; cases h0
  refine body_ix (j := 0) hk hl hn ht (by decide) (by decide) ?_ h0 (fun tk' => h _ _ _ (fun _ _ e => e) r0) hd
  unfold seqIndex?
  simp [hz]
theorem ix_at {k j : Nat} (hz : its[k]? = some u0) : seqIndex? (k : Int) its.size = some k := by
  have hz : k < its.size := by
    rcases Nat.lt_or_ge k its.size with z | z
    · exact z
    · rw [Array.getElem?_eq_none z] at hz; cases hz
  unfold seqIndex?
  have k0 : ¬ ((k : Int) < 0) := by omega
  have k1 : (0 : Int) ≤ (k : Int) := by omega
  have k2 : (k : Int) < (its.size : Int) := by omega
  simp only [k0, if_false, k1, k2, decide_true, Bool.and_self, if_true, Int.toNat_natCast]
theorem tup_end {v0 v1 : Value} {e0 e1 : PyData} (kp : ∀ b o, g.get? b = some o → g.get? b = some o) (r0 : Reads g v0 e0 []) (r1 : Reads g v1 e1 []) (h : Ends g s0 (.tuple [e0, e1]) Q) : Q (.ref g.objs.size) { s0 with heap := g.push { cls := .type "tuple", data := .seq ([v0, v1] : List Value).toArray }, toks := tk } := by
  refine h _ _ _ (fun b o e => Heap.get?_push_of_some _ e) ?_
  have kk : ∀ b o, g.get? b = some o → (g.push { cls := .type "tuple", data := .seq ([v0, v1] : List Value).toArray }).get? b = some o := fun b o e => Heap.get?_push_of_some _ e
  refine .tuple (Heap.get?_push_size _ rfl) rfl rfl ?_
  have q0 := PyProof.Rows.Reads.keeps kk r0
  have q1 := PyProof.Rows.Reads.keeps kk r1
  exact .cons q0 (.cons q1 .nil)
/-- (p[1] or "", p[0]) -/
theorem body_title (hk : env.scope.kind = .function) (hl : env.kindOf p = some .local) (hn : g.Ns env.locals (fun y => [(p, .ref t)].reverse.lookup y)) (ht : IsTup g t its) (h0 : its[0]? = some u0) (h1 : its[1]? = some u1) (r0 : Reads g u0 d0 [])
    (c : (u1 = .none ∧ d1 = .str "") ∨ ∃ (z : Str) (tz : Tok), u1 = .str z tz ∧ z.length ≤ sizeLine ∧ d1 = .str z) (h : Ends g s0 (.tuple [d1, d0]) Q) (hd : (p == ("__debug__" : Str)) = false) :
    wpAny (model prog w) A1 (eval (.Tuple [.BoolOp .Or [.Subscript (.Name p p1) (.Constant (.int 1) kj1 p2) p3, .Constant (.str "") kc pc] po, .Subscript (.Name p p4) (.Constant (.int 0) kj0 p5) p6] kt pt) env) Q (fun _ _ => False) { s0 with heap := g, toks := tk } := by
  refine wpAny_Tuple_spliced ?_
  show wpAny _ _ (spliced [(false, eval (.BoolOp .Or [.Subscript (.Name p p1) (.Constant (.int 1) kj1 p2) p3, .Constant (.str "") kc pc] po) env), (false, eval (.Subscript (.Name p p4) (.Constant (.int 0) kj0 p5) p6) env)]) _ _ _
  refine Calls.spliced_cons (wpAny_Or2 ?_)
  have rest : ∀ (v1 : Value) (tk1 : Nat), Reads g v1 d1 [] → wpAny (model prog w) A1 (spliced [(false, eval (.Subscript (.Name p p4) (.Constant (.int 0) kj0 p5) p6) env)]) (fun vs s₂ => (v1 :: vs).length ≤ sizeLine ∧ Q (.ref s₂.heap.objs.size) { s₂ with heap := s₂.heap.push { cls := .type "tuple", data := .seq (v1 :: vs).toArray } }) (fun _ _ => False) { s0 with heap := g, toks := tk1 } := by
    intro v1 tk1 r1
    refine Calls.spliced_cons (body_ix (j := 0) hk hl hn ht (by decide) (by decide) (ix_at (k := 0) (j := 0) h0) h0 (fun tk' => ?_) hd)
    refine Calls.spliced_nil ⟨by show (2 : Nat) ≤ sizeLine; rw [sizeLine_eq]; decide, ?_⟩
    exact tup_end (fun _ _ e => e) r1 r0 h
  refine body_ix (j := 1) hk hl hn ht (by decide) (by decide) (ix_at (k := 1) (j := 1) h1) h1 (fun tk' => ?_) hd
  rcases c with ⟨rfl, rfl⟩ | ⟨z, tz, rfl, hz, rfl⟩
  · refine truthy_none ?_
    rw [if_neg (by decide)]
    exact wpAny_Constant_str (rest _ _ (.str _ _))
  · have l63 := line63
    refine PySem.P.truthy_str (by omega) ?_
    by_cases e : (z.length : Int) != 0
    · rw [if_pos e]
      exact rest _ _ (.str _ _)
    · rw [if_neg e]
      have : z = ("" : Str) := by
        have e0 : z.length = 0 := by simpa using e
        have e1 : z.cps = #[] := Array.size_eq_zero_iff.mp e0
        cases z
        cases e1
        rfl
      subst this
      exact wpAny_Constant_str (rest _ _ (.str _ _))
/-- (0 - len(p[2]), p[0]) -/
theorem body_marks {a2 : Addr} {ms : Array Value} {mg mb : Str → Option Value} (hk : env.scope.kind = .function) (hl : env.kindOf p = some .local) (hn : g.Ns env.locals (fun y => [(p, .ref t)].reverse.lookup y)) (ht : IsTup g t its) (h0 : its[0]? = some u0) (h2 : its[2]? = some (.ref a2)) (hm2 : IsTup g a2 ms) (hz : (ms.size : Int) < 2 ^ 63) (r0 : Reads g u0 d0 [])
    (hg : env.kindOf "len" = some .globalImplicit) (eg : g.Ns env.globals mg) (eb : g.Ns env.builtins mb) (hm : mg "len" = none) (hb : mb "len" = some (.builtin "len"))
    (h : Ends g s0 (.tuple [.int (0 - (ms.size : Int)), d0]) Q) (hd : (p == ("__debug__" : Str)) = false) {kz : Nat} {pz pl pn : Pos} :
    wpAny (model prog w) A1 (eval (.Tuple [.BinOp (.Constant (.int 0) kz pz) .Sub (.Call (.Name "len" pl) [.Subscript (.Name p p1) (.Constant (.int 2) kj1 p2) p3] [] pn) po, .Subscript (.Name p p4) (.Constant (.int 0) kj0 p5) p6] kt pt) env) Q (fun _ _ => False) { s0 with heap := g, toks := tk } := by
  refine wpAny_Tuple_spliced ?_
  show wpAny _ _ (spliced [(false, eval (.BinOp (.Constant (.int 0) kz pz) .Sub (.Call (.Name "len" pl) [.Subscript (.Name p p1) (.Constant (.int 2) kj1 p2) p3] [] pn) po) env), (false, eval (.Subscript (.Name p p4) (.Constant (.int 0) kj0 p5) p6) env)]) _ _ _
  refine Calls.spliced_cons (wpAny_BinOp (wpAny_Constant_int ?_))
  refine wpAny_Call_Name_kw (Calls.Name_function_global hk hg (Calls.loadGlobal_builtin eg hm eb hb ?_) (by decide))
  refine PyProof.Rows.callWith_builtin1 ?_
  show wpAny _ _ (spliced [(false, eval (.Subscript (.Name p p1) (.Constant (.int 2) kj1 p2) p3) env)]) _ _ _
  refine Calls.spliced_cons ?_
  refine body_ix (j := 2) (s0 := s0) hk hl hn ht (by decide) (by decide) (ix_at (k := 2) (j := 2) h2) h2 (fun tk' => ?_) hd
  refine Calls.spliced_nil ?_
  refine len_tuple hm2 hz ?_
  refine PyProof.Rows.sub_int ?_
  refine Calls.spliced_cons (body_ix (j := 0) (s0 := s0) hk hl hn ht (by decide) (by decide) (ix_at (k := 0) (j := 0) h0) h0 (fun tk' => ?_) hd)
  refine Calls.spliced_nil ⟨by show (2 : Nat) ≤ sizeLine; rw [sizeLine_eq]; decide, ?_⟩
  exact tup_end (fun _ _ e => e) (.int _ _) r0 h
end
/-! ### the keys of a page -/
def keyA : D → D
  | .tup (a :: _) => a
  | _ => .non
def keyT : D → D
  | .tup (a :: .str l :: _) => .tup [.str l, a]
  | .tup (a :: _ :: _) => .tup [.str [], a]
  | _ => .non
def keyM : D → D
  | .tup (a :: _ :: .tup ms :: _) => .tup [.int (0 - (ms.length : Int)), a]
  | _ => .non
/-- a page: a form, a title or none, marks, the rest -/
def IsPg (x : D) : Prop := ∃ l b ms r, x = .tup (.str l :: b :: .tup ms :: r) ∧ (b = .non ∨ ∃ z, b = .str z ∧ z.length ≤ sizeLine)
/-- the def n, called, tells a key and changes nothing -/
def KeyRun (X : Cx) (n : Str) (kf : D → D) : Prop := ∃ f, PySem.W.nsIn X.K mainGlobals n = some (some (.ref f)) ∧ PySem.W.keepIn X.K (.ref f) = true ∧ ∀ (pins : List (Addr × Obj)) (σ : L2.St) (H : Hp) (s : Shared) (x : D) (v : V) (u : Value) (h : Heap) (tk : Nat) (A1 : Around), Inv X pins σ H s → IsPg x → Rep X.K H x v → RelV v u → (∀ b o, s.heap.get? b = some o → h.get? b = some o) → A1.depth < recursionLimit →
  wpAny (model X.prog X.w) A1 (call (.ref f) [u]) (PySem.W.KeyPure (toP (kf x)) { s with heap := h, toks := tk }) (fun _ _ => False) { s with heap := h, toks := tk }
section
variable {X : Cx} {f : Addr} {fd : FuncData} {x q n p : Str} {st : Stmt} {e : Expr} {rp : Pos} {pins : List (Addr × Obj)} {σ : L2.St} {H : Hp} {s : Shared} {l : List Nat} {b : D} {ms r : List D} {v : V} {u : Value}
/-- what stands where a page is read -/
theorem pg_read (I : Inv X pins σ H s) (hb : b = .non ∨ ∃ z, b = .str z ∧ z.length ≤ sizeLine) (rv : Rep X.K H (.tup (.str l :: b :: .tup ms :: r)) v) (ru : RelV v u) :
    ∃ (t a2 : Addr) (its : Array Value) (t0 : Tok) (u1 : Value) (mi : Array Value), u = .ref t ∧ IsTup s.heap t its ∧ its[0]? = some (.str ⟨l.toArray⟩ t0) ∧ its[1]? = some u1 ∧ its[2]? = some (.ref a2) ∧ IsTup s.heap a2 mi ∧ mi.size = ms.length ∧ mi.size ≤ sizeLine ∧
      ((u1 = .none ∧ b = .non) ∨ ∃ (z : List Nat) (tz : Tok), u1 = .str ⟨z.toArray⟩ tz ∧ z.length ≤ sizeLine ∧ b = .str z) := by
  obtain ⟨t, vs2, rfl, sq, rs⟩ := rv
  obtain rfl : u = Value.ref t := ru
  obtain ⟨it2, rr, pl, hz2⟩ := I.tuple sq
  obtain ⟨y0, e0, r0⟩ := rs.get (i := 0) rfl
  obtain ⟨y1, e1, r1⟩ := rs.get (i := 1) rfl
  obtain ⟨y2, e2, r2⟩ := rs.get (i := 2) rfl
  obtain ⟨w0, f0, g0⟩ := rr.get e0
  obtain ⟨w1, f1, g1⟩ := rr.get e1
  obtain ⟨w2, f2, g2⟩ := rr.get e2
  cases r0
  obtain ⟨t0, rfl⟩ := g0
  obtain ⟨a2, vs3, rfl, sq3, rs3⟩ := r2
  obtain rfl : w2 = Value.ref a2 := g2
  obtain ⟨it3, rr3, pl3, hz3⟩ := I.tuple sq3
  have hl3 : it3.length = ms.length := by rw [← rr3.length, ← rs3.length]
  refine ⟨t, a2, it2.toArray, t0, w1, it3.toArray, rfl, pl, by simpa using f0, by simpa using f1, by simpa using f2, pl3, by rw [List.size_toArray, hl3], by rw [List.size_toArray]; rw [← rr3.length]; exact hz3, ?_⟩
  rcases hb with rfl | ⟨z, rfl, hz⟩
  · cases r1
    cases g1
    exact .inl ⟨rfl, rfl⟩
  · cases r1
    obtain ⟨tz, rfl⟩ := g1
    exact .inr ⟨z, tz, rfl, hz, rfl⟩
variable {kj0 kj1 kc kt kz : Nat} {p1 p2 p3 p4 p5 p6 pc po pt pz pl pn : Pos}
theorem ends_pure {h g : Heap} {tk tk1 : Nat} {d : PyData} (kp : ∀ b o, h.get? b = some o → g.get? b = some o) : Ends g { s with heap := h, toks := tk } d (PySem.W.KeyPure d { s with heap := h, toks := tk }) := fun u g' tk' k r => ⟨g', tk', rfl, fun b o e => k b o (kp b o e), r⟩
theorem keyRun_adr (hn : PySem.W.nsIn X.K mainGlobals n = some (some (.ref f))) (F : Fun X.K x q st f fd) (L : Def1 x q st p (.Subscript (.Name p p1) (.Constant (.int 0) kj0 p2) p3) rp) (hd : (p == ("__debug__" : Str)) = false) : KeyRun X n keyA := by
  refine ⟨f, hn, F.kp, fun pins σ H s y v u h tk A1 I hp rv ru kp hr => ?_⟩
  obtain ⟨l, b, ms, r, rfl, hb⟩ := hp
  obtain ⟨t, a2, its, t0, u1, mi, rfl, pt, i0, i1, i2, p2, m1, m2, c⟩ := pg_read I hb rv ru
  refine def_callQ (s := { s with heap := h, toks := tk }) F L (I.kIn.keeps kp) hr (I.nolimit.keeps kp) fun cdv g hns kp2 => ?_
  refine body_adr (s0 := { s with heap := h, toks := tk }) L.kind L.loc hns ((pt.keeps kp).keeps kp2) i0 (.str _ _) ?_ hd
  exact ends_pure (tk1 := 0) kp2
theorem keyRun_title (hn : PySem.W.nsIn X.K mainGlobals n = some (some (.ref f))) (F : Fun X.K x q st f fd) (L : Def1 x q st p (.Tuple [.BoolOp .Or [.Subscript (.Name p p1) (.Constant (.int 1) kj1 p2) p3, .Constant (.str "") kc pc] po, .Subscript (.Name p p4) (.Constant (.int 0) kj0 p5) p6] kt pt) rp) (hd : (p == ("__debug__" : Str)) = false) : KeyRun X n keyT := by
  refine ⟨f, hn, F.kp, fun pins σ H s y v u h tk A1 I hp rv ru kp hr => ?_⟩
  obtain ⟨l, b, ms, r, rfl, hb⟩ := hp
  obtain ⟨t, a2, its, t0, u1, mi, rfl, pt, i0, i1, i2, p2, m1, m2, c⟩ := pg_read I hb rv ru
  refine def_callQ (s := { s with heap := h, toks := tk }) F L (I.kIn.keeps kp) hr (I.nolimit.keeps kp) fun cdv g hns kp2 => ?_
  rcases c with ⟨e, rfl⟩ | ⟨z, tz, e, hz, rfl⟩
  · refine body_title (s0 := { s with heap := h, toks := tk }) (d1 := .str "") L.kind L.loc hns ((pt.keeps kp).keeps kp2) i0 i1 (.str _ _) (.inl ⟨e, rfl⟩) ?_ hd
    exact ends_pure (tk1 := 0) kp2
  · refine body_title (s0 := { s with heap := h, toks := tk }) (d1 := .str ⟨z.toArray⟩) L.kind L.loc hns ((pt.keeps kp).keeps kp2) i0 i1 (.str _ _) (.inr ⟨_, tz, e, by show z.toArray.size ≤ sizeLine; rw [List.size_toArray]; exact hz, rfl⟩) ?_ hd
    exact ends_pure (tk1 := 0) kp2
theorem keyRun_marks (hn : PySem.W.nsIn X.K mainGlobals n = some (some (.ref f))) (F : Fun X.K x q st f fd) (L : Def1 x q st p (.Tuple [.BinOp (.Constant (.int 0) kz pz) .Sub (.Call (.Name "len" pl) [.Subscript (.Name p p1) (.Constant (.int 2) kj1 p2) p3] [] pn) po, .Subscript (.Name p p4) (.Constant (.int 0) kj0 p5) p6] kt pt) rp) (hl : (defScope st).names.lookup ("len" : Str) = some NameKind.globalImplicit) (hm : X.mg "len" = none) (hd : (p == ("__debug__" : Str)) = false) : KeyRun X n keyM := by
  refine ⟨f, hn, F.kp, fun pins σ H s y v u h tk A1 I hp rv ru kp hr => ?_⟩
  obtain ⟨l, b, ms, r, rfl, hb⟩ := hp
  obtain ⟨t, a2, its, t0, u1, mi, rfl, pt, i0, i1, i2, p2, m1, m2, c⟩ := pg_read I hb rv ru
  refine def_callQ (s := { s with heap := h, toks := tk }) F L (I.kIn.keeps kp) hr (I.nolimit.keeps kp) fun cdv g hns kp2 => ?_
  obtain ⟨mb, b1, b2⟩ := I.mod.blt
  have kp4 : ∀ b o, s.heap.get? b = some o → g.get? b = some o := fun b o eb => kp2 b o (kp b o eb)
  have l63 := line63
  refine body_marks (env := PySem.W.envX q (defScope st) h.objs.size f cdv []) (s0 := { s with heap := h, toks := tk }) (mg := X.mg) (mb := mb) L.kind L.loc hns (pt.keeps kp4) i0 i2 (p2.keeps kp4) (by omega) (.str _ _) hl ((I.mod.glob.keeps I.bk).keeps kp4) ((b1.keeps I.bk).keeps kp4) hm ((b2 "len" (by decide)).trans (by decide +kernel)) ?_ hd
  rw [m1]
  exact ends_pure (tk1 := 0) kp2
end
/-! ### sorted(xs, key=lambda p: r(p)) -/
def lookKf (tbl : List (Str × (D → D))) (n : Str) : Option (D → D) := (tbl.find? fun p => decide (p.1 = n)).map (·.2)
def KeysOk (X : Cx) (tbl : List (Str × (D → D))) : Prop := ∀ n kf, lookKf tbl n = some kf → KeyRun X n kf
theorem keys_nil {X : Cx} : KeysOk X [] := fun n F h => by cases h
theorem keys_cons {X : Cx} {n : Str} {kf : D → D} {tbl : List (Str × (D → D))} (h : KeyRun X n kf) (t : KeysOk X tbl) : KeysOk X ((n, kf) :: tbl) := fun m F e => by
  unfold lookKf at e
  rw [List.find?_cons] at e
  by_cases z : n = m
  · subst z
    simp only [decide_true, Option.map_some, Option.some.injEq] at e
    subst e
    exact h
  · simp only [z, decide_false] at e
    exact t m F e
def sortKfR (kf : D → D) : List D → Cp → DQ → Prop := fun ds C Q => ∃ d xs, ds = [d] ∧ collD C d xs ∧ KeyOk kf xs ∧ (∀ x ∈ xs, IsPg x) ∧ ∀ p, C p = none → Q (.ptr p) (up C p (.lst (xs.mergeSort (leK kf))))
section
variable {X : Cx} {B : Bs} {pos : Pos} {e : Expr} {tr : DA}
/-- a built-in called with keywords, the names' values at hand -/
def CallRKs (X : Cx) (f : Value) (ks : List Str) (r : L2.St → List V → List V → Hp → VK → Prop) : Prop :=
  ∀ (pins : List (Addr × Obj)) (s : Shared) (σ : L2.St) (H : Hp) (xs zs : List V) (us ws : List Value) (Q : VK), Inv X pins σ H s → Vals xs us → Vals zs ws → r σ xs zs H Q → wpAny (model X.prog X.w) X.A (call f us (ks.zip ws)) (EP X pins σ Q) X.xe s
theorem pe_callBKs {x : Str} {p : Pos} {es : List Expr} {kws : List Keyword} {t tk : TA} {id : String} {ks : List Str} {r : L2.St → List V → List V → Hp → VK → Prop} (hc : CallRKs X (.builtin id) ks r) (hg : Gl X x) (hm : X.mg x = none) (hv : bootBuiltins x = some (.builtin id)) (ha : PA X (e :: es) t) (hk : PK X kws tk) (hn : x ≠ "__name__" := by decide) (hdb : (x == ("__debug__" : Str)) = false := by decide)
    (he : backTo pos (starEach (e :: es) X.env) = (false, eval e X.env) :: backTo pos (starEach es X.env) := by rfl) (hpl : (backTo pos (starEach (e :: es) X.env)).any (·.1) = false := by rfl)
    (hall : (backToKw pos (keywordEach kws X.env)).all (·.1.isSome) = true := by rfl) (hnone : (backToKw pos (keywordEach kws X.env)).any (·.1.isNone) = false := by rfl) (hks : (backToKw pos (keywordEach kws X.env)).filterMap (·.1) = ks := by rfl) :
    PE X (.Call (.Name x p) (e :: es) kws pos) (fun σ H Q => t σ H fun vs H1 => tk σ H1 fun zs H2 => r σ vs zs H2 Q) := by
  refine ⟨fun pins s σ H Q I h => ?_⟩
  refine wpAny_Call_Name_kw (ld_blt I hg hm hv ?_ hn hdb)
  refine PyProof.Rows.callWith_kw (thn (ha.run pos pins s σ H _ I h) fun us s1 ⟨vs, H1, I1, r1, q1⟩ => thn (hk.run pos pins s1 σ H1 _ I1 q1) fun ws s2 ⟨zs, H2, I2, r2, q2⟩ => ?_) he hpl hall hnone
  rw [hks]
  exact hc pins s2 σ H2 vs zs us ws Q I2 r1 r2 q2
theorem call_sortKf {q p rk : Str} {params : Arguments} {body : Expr} {scope : Scope} {i : Nat} {p1 p2 p3 : Pos} {tbl : List (Str × (D → D))} (hB : B.P = X.prog ∧ B.w = X.w) (hr : RoomG 3 X.A) (hcalm : X.calm = true) (L : Lam1 params body scope p) (hb : body = .Call (.Name rk p1) [.Name p p2] [] p3) (hd : (p == ("__debug__" : Str)) = false) (hdr : (rk == ("__debug__" : Str)) = false) (hcd : (rk == ("__classdict__" : Str)) = false)
    (hfr : scope.names.lookup rk = some .free) (hcell : X.env.scope.names.lookup rk = some .cell ∨ X.env.scope.names.lookup rk = some .free) (hcl : (cloFrom X.env.cells scope.names []).lookup rk = X.env.cells.lookup rk) (hN : X.N[i]? = some rk) (T : KeysOk X tbl) :
    CallRKs X (.builtin "sorted") ["key"] (fun σ vs zs H Q => ∃ (f c1 : Addr) (pm ctv : Value) (m : Str) (kf : D → D) (a : Addr), zs = [V.ref f] ∧ H f = some (frzE (PySem.W.kla_obj "<lambda>" q params body scope (cloFrom X.env.cells scope.names []) pm c1 ctv)) ∧ CodeAt H q (.ref c1) ∧ σ[i]? = some (some (.ref a)) ∧ PySem.W.nsIn X.K mainGlobals m = some (some (.ref a)) ∧ lookKf tbl m = some kf ∧ lC X.K B (sortKfR kf) vs H Q) := by
  intro pins s σ H ys zs us wss Q I rx rz hh
  obtain ⟨f, c1, pm, ctv, m, kf, fa, ez, hf, hcode, hσ, hns, hkf, hh⟩ := hh
  subst ez
  obtain ⟨w1, rfl, b1⟩ := vals1 rz
  obtain rfl : w1 = Value.ref f := b1
  obtain ⟨ds, C, Qd, r, rl, ⟨d, xs, ee, hc, so, hx, hq⟩, kk⟩ := hh
  subst ee
  obtain ⟨v, r2, rfl, hv, hn⟩ := r
  cases hn
  obtain ⟨u, rfl, ru⟩ := vals1 rx
  obtain ⟨fk, hfk, hkeep, run⟩ := T m kf hkf
  have efk : fk = fa := by
    rw [hns] at hfk
    exact (Value.ref.inj (Option.some.inj (Option.some.inj hfk))).symm
  subst efk
  obtain ⟨ml, hml, hlk⟩ := I.loc
  have hvis : Vis X.env.scope rk := hcell.elim (fun z => .inr (.inl z)) fun z => .inr (.inr z)
  obtain ⟨ur, hur, hlook⟩ := hlk i rk (.ref fk) hN hσ hvis
  obtain rfl : ur = Value.ref fk := hur
  obtain ⟨cc, hcc, hcv⟩ : ∃ c, X.env.cells.lookup rk = some c ∧ s.heap.IsCell c (some (.ref fk)) := by
    rcases hlook with ⟨z, _⟩ | ⟨_, c, h1, h2⟩
    · have z : X.env.scope.names.lookup rk = some .local := z
      rcases hcell with w | w <;> (rw [w] at z; cases z)
    · exact ⟨c, h1, h2⟩
  show wpAny _ _ (call (.builtin "sorted") [u] [(Str.ofString "key", .ref f)]) _ _ _
  refine call_function_entry_kw kind_sorted plain_sorted entry_sorted (ksk_s1 _ _) ?_
  unfold Builtin.«sorted»
  refine wpAny_bind (m := checkCount "sorted" 1 1 _) (wpAny_pure ?_)
  refine wpAny_bind (collect_D (A := X.A.in1) hB (I.ok.hd hcalm) I rl hv ru hc fun its h' tk hz hk st => ?_)
  obtain ⟨vs, hr1, hr2⟩ := st
  have hl : its.length ≤ sizeLine := by rw [← hr2.length, ← hr1.length]; exact hz
  refine wpAny_bind (wpAny_newList ?_ hl)
  have hoL : (h'.push (seqObj "list" its.toArray 0)).get? h'.objs.size = some (seqObj "list" its.toArray 0) := Heap.get?_push_size _ rfl
  have I1 : Inv X pins σ H { s with heap := h', toks := tk } := I.kept hk
  have I2 : Inv X pins σ H { s with heap := h'.push (seqObj "list" its.toArray 0), toks := tk } := I1.kept fun b o e => Heap.get?_push_of_some _ e
  have er : W.EachIs (fun u d => ∃ v, Rep X.K H d v ∧ RelV v u) its xs := eachIs_of hr1 hr2 fun d v u _ a b => ⟨v, a, b⟩
  show wpAny _ _ _ _ _ { s with heap := h'.push (seqObj "list" its.toArray 0), toks := tk }
  refine wpAny_bind (wpAny_holding (wpAny_mono (W.list_sort_key_data (b := false) (bs := xs) (R := fun u d => ∃ v, Rep X.K H d v ∧ RelV v u) (fun x => toP (kf x)) (s := { s with heap := h'.push (seqObj "list" its.toArray 0), toks := tk }) hoL er so.al so.so hz (fun x hxm => ?_) (ksk_l1 _ _) (ksk_t1 _ _) (fun v x hR hxm h tk2 kp => ?_) (Q := fun v s' => v = .none ∧ ∃ out c g tk', s' = { s with heap := g, toks := tk' } ∧ W.KeepsBut h'.objs.size (h'.push (seqObj "list" its.toArray 0)) g ∧ g.get? h'.objs.size = some (seqObj "list" (List.toArray out) c) ∧ W.EachIs (fun u d => ∃ v, Rep X.K H d v ∧ RelV v u) out (xs.mergeSort (W.dataLe false fun x => toP (kf x)))) (fun out c g tk' kp e1 _ e2 => ⟨rfl, out, c, g, tk', rfl, kp, e1, e2⟩)) (fun v s' hs => ?_) fun _ _ z => z))
  · rw [depth_toP]
    have := (so.np x hxm).2
    have := room70 hr
    show X.A.units + 1 + 1 + _ < cLine
    omega
  · have hp := hx x hxm
    obtain ⟨vv, rv, rel⟩ := hR
    have nA : ∀ b o, (h'.get? b = some o) → h.get? b = some o := fun b o e => kp b o (Nat.ne_of_lt (Heap.lt_size e)) (Heap.get?_push_of_some _ e)
    have nS : ∀ b o, (s.heap.get? b = some o) → h.get? b = some o := fun b o e => nA b o (hk b o e)
    have fO : h'.get? f = some (PySem.W.kla_obj "<lambda>" q params body scope (cloFrom X.env.cells scope.names []) pm c1 ctv) := (I1.hok f _ hf).1
    obtain ⟨c0, oc, vs3, tt, ecc, q1, q2, q3⟩ := hcode
    cases ecc
    have cO : h'.get? c1 = some oc := (I1.hok c1 _ q1).1
    refine lam_call1 (s := { s with heap := h, toks := tk2 }) (A := X.A.in1.in1) L (nA _ _ fO) ⟨c1, oc, vs3, tt, rfl, nA _ _ cO, q2, q3⟩ ?_ (I1.nolimit.keeps nA) fun g hns2 kp2 => ?_
    · exact hr.depth
    · subst hb
      have kp3 : ∀ b o, s.heap.get? b = some o → g.get? b = some o := fun b o e => kp2 b o (nS b o e)
      refine wpAny_Call_Name_kw (wpAny_Name (wpAny_loadName_free L.kind hfr (hcl.trans hcc) (hcv.keeps kp3) ?_ hcd) hdr)
      refine PySem.W.callWith_K (h₀ := X.base) I.ok.mod.kin hkeep ?_ rfl rfl
      show wpAny _ _ (spliced [(false, eval (.Name p p2) _)]) _ _ _
      refine Calls.spliced_cons (wpAny_Name (wpAny_loadName_local L.kind L.loc hns2 (v := v) (by simp) ?_) hd)
      refine Calls.spliced_nil ⟨I.kIn.keeps kp3, ?_⟩
      refine wpAny_mono (run pins σ H s x vv v g (tk2 + 1) _ I hp rv rel kp3 ?_) (fun u s' z => ?_) fun _ _ z => z
      · exact (hr.toRoom.deeper (k := 2) X.env).depth
      · obtain ⟨g', tk', e, k, r⟩ := z
        exact ⟨g', tk', e, fun b o eb => k b o (kp2 b o eb), r⟩
  · obtain ⟨rfl, out, c, g, tk', rfl, kp, e1, e2⟩ := hs
    have egp : (W.dataLe false (fun x => toP (kf x)) : D → D → Bool) = leK kf := rfl
    rw [egp] at e2
    obtain ⟨ws, g1, g2⟩ := stand_of (X := X) (H := H) e2
    have hlen : ws.length ≤ sizeLine := by
      rw [← g1.length, List.length_mergeSort]
      exact hz
    have hfr : H h'.objs.size = none := I1.hok.fresh (Nat.le_refl _)
    obtain ⟨a1, a2⟩ := rl.newL (p := h'.objs.size) hfr g1
    refine wpAny_pure ⟨_, rfl, .ref h'.objs.size, upd H h'.objs.size (.lst ws), I1.laid (t' := tk') (h' := g) (fun b u e => kp b u (Nat.ne_of_lt (Heap.lt_size e)) (Heap.get?_push_of_some _ e)) (Nat.le_refl _)
      (show ObjOk X.prog X.w _ _ _ (.lst ws) from ⟨hlen, out, c, g2, e1⟩), rfl, kk _ _ _ _ a1 a2 (repP _) (hq _ (rl.fresh hfr))⟩
/-- sorted(xs, key=lambda p: r(p)), in the def n; r at i -/
def dSortKf (n q : Str) (tbl : List (Str × (D → D))) (i : Nat) (tr : DA) : DE := fun s C Q => tr s C fun ds C1 => (∃ P, C1 P = some (.tb n q)) ∧ ∃ m kf, s[i]? = some (some (.fn m)) ∧ lookKf tbl m = some kf ∧ sortKfR kf ds C1 Q
theorem j_sortKf {n q rk : Str} {c P : Addr} {params : Arguments} {scope : Scope} {i : Nat} {tbl : List (Str × (D → D))} {p1 p2 p3 lpos kpos np : Pos} {y : Str} (hB : B.P = X.prog ∧ B.w = X.w) (hr : RoomG 3 X.A) (hcalm : X.calm = true) (TB : LamX.TabB X.base X.mg c P) (TK : TabK X.K n P) (hcode : X.env.code = .ref c) (hq : X.env.qual ++ "<lambda>" = q)
    (L : Lam1 params (.Call (.Name rk p1) [.Name y p2] [] p3) scope y) (hdef : defaultsOf params X.env = ([], [])) (hd : (y == ("__debug__" : Str)) = false) (hdr : (rk == ("__debug__" : Str)) = false) (hcd : (rk == ("__classdict__" : Str)) = false)
    (hfr : scope.names.lookup rk = some .free) (hcell : X.env.scope.names.lookup rk = some .cell ∨ X.env.scope.names.lookup rk = some .free) (hfree : X.Ok → ∀ z ∈ scope.names, z.2 = .free → ∃ c, X.env.cells.lookup z.1 = some c) (hcl : (cloFrom X.env.cells scope.names []).lookup rk = X.env.cells.lookup rk) (hN : X.N[i]? = some rk) (T : KeysOk X tbl)
    (hm : X.mg "sorted" = none) (ha : JA X B [e] tr) (hg : Gl X "sorted" := by rfl)
    (he : backTo pos (starEach [e] X.env) = (false, eval e X.env) :: backTo pos (starEach [] X.env) := by rfl) (hpl : (backTo pos (starEach [e] X.env)).any (·.1) = false := by rfl)
    (hall : (backToKw pos (keywordEach [⟨some "key", .Lambda params (.Call (.Name rk p1) [.Name y p2] [] p3) scope lpos, kpos⟩] X.env)).all (·.1.isSome) = true := by rfl) (hnone : (backToKw pos (keywordEach [⟨some "key", .Lambda params (.Call (.Name rk p1) [.Name y p2] [] p3) scope lpos, kpos⟩] X.env)).any (·.1.isNone) = false := by rfl) (hks : (backToKw pos (keywordEach [⟨some "key", .Lambda params (.Call (.Name rk p1) [.Name y p2] [] p3) scope lpos, kpos⟩] X.env)).filterMap (·.1) = [("key" : Str)] := by rfl) :
    JE X B (.Call (.Name "sorted" np) [e] [⟨some "key", .Lambda params (.Call (.Name rk p1) [.Name y p2] [] p3) scope lpos, kpos⟩] pos) (dSortKf n q tbl i tr) := by
  subst hq
  refine PE.imp (pe_callBKs (call_sortKf (B := B) (q := X.env.qual ++ "<lambda>") hB hr hcalm L rfl hd hdr hcd hfr hcell hcl hN T) hg hm rfl ha (pk_cons (pe_lamK TB hcode hdef hfree) pk_nil) (he := he) (hpl := hpl) (hall := hall) (hnone := hnone) (hks := hks)) fun σ H Q h => ?_
  obtain ⟨sl, C, Qd, rs, rl, h, kk⟩ := h
  refine ⟨sl, C, _, rs, rl, h, fun vs ds H1 C1 st1 rl1 r q => ?_⟩
  obtain ⟨⟨P', hP'⟩, m, kf, hs, hkf, q⟩ := q
  obtain ⟨tk1, tf1⟩ := rl1.ok P' _ hP'
  have ep : P' = P := tk1.uniq TK
  subst ep
  refine ⟨tf1, fun f c1 pm ctv H2 t1 t2 t3 t4 => ?_⟩
  obtain ⟨rl2, st2⟩ := rl1.lam hP' t1 t2
  obtain ⟨v, e1, rf⟩ := rs.get hs
  obtain ⟨a, rfl, ea⟩ := (show ∃ a, v = .ref a ∧ PySem.W.nsIn X.K mainGlobals m = some (some (.ref a)) from rf)
  exact ⟨f, c1, pm, ctv, m, kf, a, rfl, t3, t4, e1, ea, hkf, ds, C1, Qd, r.mono t1.tx, rl2, q, fun v d H' C' st => kk v d H' C' ((st1.trans st2).trans st)⟩
theorem j_sortKf2 {n q rk : Str} {c P : Addr} {params : Arguments} {scope : Scope} {i : Nat} {tbl : List (Str × (D → D))} {p1 p2 p3 lpos kpos np : Pos} {y : Str} (hB : B.P = X.prog ∧ B.w = X.w) (hr : RoomG 3 X.A) (hcalm : X.calm = true) (TB : LamX.TabB X.base X.mg c P) (TK : TabK X.K n P) (hcode : X.env.code = .ref c) (hq : X.env.qual ++ "<lambda>" = q)
    (L : Lam1 params (.Call (.Name rk p1) [.Name y p2] [] p3) scope y) (hdef : defaultsOf params X.env = ([], [])) (hd : (y == ("__debug__" : Str)) = false) (hdr : (rk == ("__debug__" : Str)) = false) (hcd : (rk == ("__classdict__" : Str)) = false) (hyr : (rk == y) = false)
    (hnm : scope.names = [(y, .local), (rk, .free)]) (hcell : X.env.scope.names.lookup rk = some .cell ∨ X.env.scope.names.lookup rk = some .free) (hcs : (X.env.cells.lookup rk).isSome = true) (hN : X.N[i]? = some rk) (T : KeysOk X tbl)
    (hm : X.mg "sorted" = none) (ha : JA X B [e] tr) (hg : Gl X "sorted" := by rfl)
    (he : backTo pos (starEach [e] X.env) = (false, eval e X.env) :: backTo pos (starEach [] X.env) := by rfl) (hpl : (backTo pos (starEach [e] X.env)).any (·.1) = false := by rfl)
    (hall : (backToKw pos (keywordEach [⟨some "key", .Lambda params (.Call (.Name rk p1) [.Name y p2] [] p3) scope lpos, kpos⟩] X.env)).all (·.1.isSome) = true := by rfl) (hnone : (backToKw pos (keywordEach [⟨some "key", .Lambda params (.Call (.Name rk p1) [.Name y p2] [] p3) scope lpos, kpos⟩] X.env)).any (·.1.isNone) = false := by rfl) (hks : (backToKw pos (keywordEach [⟨some "key", .Lambda params (.Call (.Name rk p1) [.Name y p2] [] p3) scope lpos, kpos⟩] X.env)).filterMap (·.1) = [("key" : Str)] := by rfl) :
    JE X B (.Call (.Name "sorted" np) [e] [⟨some "key", .Lambda params (.Call (.Name rk p1) [.Name y p2] [] p3) scope lpos, kpos⟩] pos) (dSortKf n q tbl i tr) := by
  obtain ⟨cc, hcc⟩ := Option.isSome_iff_exists.mp hcs
  refine j_sortKf hB hr hcalm TB TK hcode hq L hdef hd hdr hcd ?_ hcell ?_ ?_ hN T hm ha hg he hpl hall hnone hks
  · rw [hnm, List.lookup_cons, hyr, List.lookup_cons, beq_self_eq_true]
  · intro _ z hz ez
    rw [hnm] at hz
    rcases List.mem_cons.mp hz with w | w
    · rw [w] at ez; cases ez
    · rw [List.mem_singleton.mp w]; exact ⟨cc, hcc⟩
  · rw [hnm, hcc]
    show (cloFrom X.env.cells [(y, NameKind.local), (rk, NameKind.free)] []).lookup rk = some cc
    have e : cloFrom X.env.cells [(y, NameKind.local), (rk, NameKind.free)] [] = [(rk, (X.env.cells.lookup rk).getD 0)] := rfl
    rw [e, hcc, List.lookup_cons, beq_self_eq_true]
    rfl
theorem dSortKf_p {n q : Str} {tbl : List (Str × (D → D))} {i : Nat} {s : Sl} {C : Cp} {Q : DQ} : dSortKf n q tbl i tr s C Q = tr s C fun ds C1 => (∃ P, C1 P = some (.tb n q)) ∧ ∃ m kf, s[i]? = some (some (.fn m)) ∧ lookKf tbl m = some kf ∧ sortKfR kf ds C1 Q := propext Iff.rfl
end
end KB
/-! KStp: which text stays when it is stripped. -/
namespace KB
open PySem PySem.Spec PyProof.Rows
open L2 hiding op_eqD op_neD call_listD
end KB
/-! KRp: x[k].replace(one sign, another one). -/
namespace KB
open PySem PySem.Spec PyProof.Rows
open L2 hiding op_eqD op_neD call_listD
def mapS (c d : Nat) (l : List Nat) : List Nat := l.map fun k => if k = c then d else k
theorem mapS_free (c d : Nat) : ∀ l : List Nat, c ∉ l → mapS c d l = l
  | [], _ => rfl
  | k :: r, h => by
    have h1 : ¬ k = c := fun e => h (e ▸ List.mem_cons_self ..)
    have h2 : c ∉ r := fun m => h (List.mem_cons_of_mem _ m)
    have := mapS_free c d r h2
    unfold mapS at this ⊢
    rw [List.map_cons, if_neg h1, this]
theorem mapS_join (c d : Nat) : ∀ parts : List Str, (∀ p ∈ parts, c ∉ p.cps.toList) → mapS c d (Str.join ⟨#[c]⟩ parts).cps.toList = (Str.join ⟨#[d]⟩ parts).cps.toList
  | [], _ => rfl
  | [p], h => mapS_free c d _ (h p (List.mem_singleton.mpr rfl))
  | p :: q :: r, h => by
    have ih := mapS_join c d (q :: r) fun a ha => h a (List.mem_cons_of_mem _ ha)
    show mapS c d (p ++ ⟨#[c]⟩ ++ Str.join ⟨#[c]⟩ (q :: r)).cps.toList = (p ++ ⟨#[d]⟩ ++ Str.join ⟨#[d]⟩ (q :: r)).cps.toList
    simp only [Str.cps_append, Array.toList_append]
    have e : ∀ a b : List Nat, mapS c d (a ++ b) = mapS c d a ++ mapS c d b := fun a b => List.map_append
    rw [e, e, ih, mapS_free c d _ (h p (List.mem_cons_self ..))]
    have : mapS c d [c] = [d] := by unfold mapS; simp
    rw [this]
theorem replace_map (x : Str) (c d : Nat) : (Txt.replace x ⟨#[c]⟩ ⟨#[d]⟩).cps.toList = mapS c d x.cps.toList := by
  rw [StrLaws.replace_one, ← mapS_join c d _ (StrLaws.split_free x c), StrLaws.join_split]
section
variable {M : Model} {A : Around} {E : Value → Shared → Prop} {s : Shared} {env : Env} {value : Expr} {k : Int} {kd : Nat} {p2 pos : Pos} {Q : Value → Shared → Prop}
/-- behind x[3] a token is out -/
theorem sub_toks (h : wpAny M A (eval (.Subscript value (.Constant (.int k) kd p2) pos) env) Q E s) : wpAny M A (eval (.Subscript value (.Constant (.int k) kd p2) pos) env) (fun a s' => 1 ≤ s'.toks ∧ Q a s') E s := fun Γ p hΓ => by
  have h0 := h Γ p hΓ
  rw [eval_Subscript, Sem.wp_bind'] at h0 ⊢
  refine Sem.wp_mono M Γ _ (fun o p1 s1 h1 => ?_) (fun _ _ _ x => x) _ _ h0
  rw [Sem.wp_bind', Sem.wp_holding] at h1 ⊢
  have h2 := Sem.wp_toks M Γ 1 (do standAt pos; let r ← subscripted (.Constant (.int k) kd p2) (← getitemInPython o) o (.int k s1.toks); letTemporaryGo value o r; pure r) (fun a _ s' => Q a s') (fun e _ s' => E e s') p1 { s1 with toks := s1.toks + 1 } (Nat.le_add_left 1 s1.toks) h1
  exact Sem.wp_mono M Γ (do standAt pos; let r ← subscripted (.Constant (.int k) kd p2) (← getitemInPython o) o (.int k s1.toks); letTemporaryGo value o r; pure r) (fun a p' s' x => x) (fun e p' s' x => x.2) _ _ h2
end
/-! ### data -/
/-- (x[k]).replace(y, z): y one sign, z one sign -/
def dRepl (c d : Nat) (to : DE) : DE := fun s C Q => to s C fun x C1 => ∃ l, x = .str l ∧ l.length ≤ 8000000 ∧ Q (.str (mapS c d l)) C1
theorem dRepl_p {c d : Nat} {to : DE} {s : Sl} {C : Cp} {Q : DQ} : dRepl c d to s C Q = to s C fun x C1 => ∃ l, x = .str l ∧ l.length ≤ 8000000 ∧ Q (.str (mapS c d l)) C1 := propext Iff.rfl
section
variable {X : Cx} {B : Bs} {value : Expr} {k : Int} {kd j0 j1 : Nat} {p2 sp apos pos c0 c1 : Pos} {y z : Str} {c d : Nat} {to : DE}
theorem j_repl (hy : y = ⟨#[c]⟩) (hz : z = ⟨#[d]⟩) (hcd : (c == d) = false) (ho : JE X B (.Subscript value (.Constant (.int k) kd p2) sp) to)
    (hst : starEach [.Constant (.str y) j0 c0, .Constant (.str z) j1 c1] X.env = [(false, eval (.Constant (.str y) j0 c0) X.env), (false, eval (.Constant (.str z) j1 c1) X.env)] := by rfl)
    (hbase : attributeBase (.Subscript value (.Constant (.int k) kd p2) sp) "replace" X.env (eval (.Subscript value (.Constant (.int k) kd p2) sp) X.env) = eval (.Subscript value (.Constant (.int k) kd p2) sp) X.env := by rfl) (hline : (apos.endLine == pos.line) = true := by rfl) :
    JE X B (.Call (.Attribute (.Subscript value (.Constant (.int k) kd p2) sp) "replace" apos) [.Constant (.str y) j0 c0, .Constant (.str z) j1 c1] [] pos) (dRepl c d to) := ⟨fun pins s σ H Q I h => by
  obtain ⟨sl, C, Qd, rs, rl, h, kk⟩ := h
  have hyz : (y == z) = false := by
    rw [hy, hz]
    refine beq_eq_false_iff_ne.mpr fun e => ?_
    have : c = d := by injection e with e; injection e with e; injection e
    rw [this] at hcd
    simp at hcd
  refine PySem.Call_method2 hbase hst hline (wpAny_mono (sub_toks (ho.run pins s σ H (fun v H' => ∃ l C', v = .str ⟨l.toArray⟩ ∧ l.length ≤ 8000000 ∧ Stp H C H' C' ∧ Rl X.K B H' C' ∧ Qd (.str (mapS c d l)) C') I ⟨sl, C, _, rs, rl, h, fun v d0 H' C' st rl' r q => ?_⟩)) (fun v s1 q => ?_) fun _ _ z => z)
  · obtain ⟨l, rfl, hl, q⟩ := q
    obtain rfl : v = .str ⟨l.toArray⟩ := r
    exact ⟨l, C', rfl, hl, st, rl', q⟩
  · obtain ⟨hk, v', H1, I1, r1, l, C', e1, hl, st, rl', q⟩ := q
    subst e1
    obtain ⟨tx, e2⟩ := r1
    subst e2
    refine ⟨"str", _, PySem.F.plainAttrs_str, PySem.F.slot_str_replace, PySem.F.type_str_replace, typeIs_str _ _ _, (fun _ e => nomatch e), Calls.callWith_builtin rfl (Calls.evalArgs_plain (Calls.spliced_cons ?_))⟩
    refine Calls.Constant_str (Calls.spliced_cons (Calls.Constant_str (Calls.spliced_nil ?_)))
    have lz : z.length = 1 := by rw [hz]; rfl
    have lx : (⟨l.toArray⟩ : Str).length = l.length := by show l.toArray.size = l.length; rw [List.size_toArray]
    refine PySem.SC.replace (by show s1.toks ≠ 0; omega) (by show s1.toks + 1 ≠ 0; omega) (by show s1.toks ≠ s1.toks + 1; omega) hyz (by rw [lz, lx]; omega) fun t' k => ⟨.str (Txt.replace ⟨l.toArray⟩ y z), H1, I1.tok k, ⟨t', rfl⟩, ?_⟩
    refine kk _ (.str (mapS c d l)) H1 C' st rl' ?_ q
    have e3 : Txt.replace ⟨l.toArray⟩ y z = ⟨(mapS c d l).toArray⟩ := by
      have := replace_map ⟨l.toArray⟩ c d
      rw [hy, hz]
      have e4 : (Txt.replace ⟨l.toArray⟩ ⟨#[c]⟩ ⟨#[d]⟩).cps = (mapS c d l).toArray := by
        rw [← Array.toArray_toList (xs := (Txt.replace ⟨l.toArray⟩ ⟨#[c]⟩ ⟨#[d]⟩).cps), this]
      exact (show ∀ (t : Str) (a : Array Nat), t.cps = a → t = ⟨a⟩ from fun t a e => by cases t; cases e; rfl) _ _ e4
    rw [e3]
    rfl⟩
end
end KB
/-! KXd: defs with defaults that raise, told where their code object lies. -/
namespace KB
open PySem PySem.Spec PyProof.Rows SeqAt
open L2 hiding op_eqD op_neD
section
variable {P : Program} {w : World} {K : PySem.W.Frag} {mg : Str → Option Value} {base : Heap} {f : Addr} {fd : FuncData} {ps : List Str} {sp : Sp} {dvs : List V}
theorem FnG.ofXDC {x q : Str} {st : Stmt} {N : List Str} {k : Nat} (F : FunE K x q st dvs f fd) (S : FnScope N ps (defScope st)) (len : ∀ vs H Q E, sp vs H Q E → vs.length = ps.length)
    (body : ∀ (cdv : Value), fd.code = cdv → ∀ (A : Around) (out : List Env) (s : Shared) (H : Hp) (vs : List V) (Q : VK) (E : XK), (A.deeper (envOfC q (defScope st) s.heap.objs.size f cdv)).guards = some [] → Room k (A.deeper (envOfC q (defScope st) s.heap.objs.size f cdv)) → sp vs H Q E →
      ∃ t, PSs (cxOf (L2.CX P w) P w K mg base N q (defScope st) f cdv A out s H E) (defBody st) t ∧ t { nx := fun _ H' => Q .non H', rt := Q } (start N vs) H) : FnG P w K mg base (L2.CX P w) (k + 1) f fd ps sp := by
  obtain ⟨oc, od, dV, kV, doc, pm, an, cdv, ct, osl, rfl, lk, hcd, _, _⟩ := F.ex
  refine ⟨len, fun A out s H as us vs Q E g hr e0 hb r hs => ?_⟩
  have n1 := len _ _ _ _ hs
  have old : ∀ b o, base.get? b = some o → s.heap.get? b = some o := fun b o e => (e0.bs b o e).1
  have kin : K.In s.heap := e0.mod.kin.keeps old
  have nol : s.heap.NoLimit := e0.mod.nolimit.keeps old
  have kinds : ∀ y ∈ ps.zip us, (defScope st).names.lookup y.1 = some .local ∨ ((defScope st).names.lookup y.1 = some .cell ∧ ((cellsFrom (s.heap.objs.size + 1) (defScope st).names []).lookup y.1).isSome = true) := by
    rintro ⟨n, v⟩ hy
    rcases S.par n (List.of_mem_zip hy).1 with z | z
    · exact .inl z
    · exact .inr ⟨z, PySem.W.cellsFrom_some _ _ _ (.inl z)⟩
  refine codeAny_call_function hr.depth (kin _ _ lk) rfl S.co S.gen rfl (PySem.W.codeRec_of kin hcd) (hb _ _ _ _ ?_)
  refine wpAny_newFunctionEnv_cells S.kind kinds fun env he s1 x => ?_
  subst he
  refine ⟨nol.keeps x.toInCall.keep, codeAny_func ?_⟩
  obtain ⟨t, ht, hq⟩ := body cdv rfl A out s H vs Q E g (hr.deeper _) hs
  have I : Inv (cxOf (L2.CX P w) P w K mg base N q (defScope st) f cdv A out s H E) [] (start N vs) H s1 := inv_start S hr.hd e0 n1 r x
  have fin : ∀ {s' : Shared} {σ' : L2.St} {H' : Hp} {v : V} {u : Value}, Inv (cxOf (L2.CX P w) P w K mg base N q (defScope st) f cdv A out s H E) [] σ' H' s' → RelV v u → Q v H' → CE out P w H s Q u s' := fun J rv z => ⟨_, _, J.os, J.bare, J.base, J.hok, rv, z⟩
  refine wpAny_mono (ht.run [] s1 (start N vs) H _ I hq) (fun fl s' hf => ?_) fun _ _ z => z
  match fl, hf with
  | .ret u, ⟨v, σ', H', J, rv, z⟩ => exact fin J rv z
  | .next, ⟨σ', H', J, z⟩ => exact fin (v := V.non) (u := Value.none) J rfl z
  | .brk, ⟨_, _, _, z⟩ => exact z.elim
  | .cont, ⟨_, _, _, z⟩ => exact z.elim
end
section
variable {P : Program} {w : World} {K : PySem.W.Frag} {mg : Str → Option Value} {base : Heap} {f : Addr} {fd : FuncData} {ps : List Str} {sp : Sp} {dvs : List V}
theorem fnok_ofXDC {x qual : Str} {st : Stmt} {N : List Str} {k n : Nat} {rd : DX → DS} (F : FunE K x qual st dvs f fd) (S : FnScope N ps (defScope st)) (hn : ps.length = n)
    (hbody : ∀ (cdv : Value), fd.code = cdv → ∀ (A : Around) (outer : List Env) (s : Shared) (H : Hp) (E : XK) (B : Bs) (W : DX), B.P = P → B.w = w → RoomG k (A.deeper (envOfC qual (defScope st) s.heap.objs.size f cdv)) →
      Takes (cxOf (L2.CX P w) P w K mg base N qual (defScope st) f cdv A outer s H E) (lX K B W) → PassesOwn (model P w) (cxOf (L2.CX P w) P w K mg base N qual (defScope st) f cdv A outer s H E).A (cxOf (L2.CX P w) P w K mg base N qual (defScope st) f cdv A outer s H E).env (cxOf (L2.CX P w) P w K mg base N qual (defScope st) f cdv A outer s H E).xe →
      JSs (cxOf (L2.CX P w) P w K mg base N qual (defScope st) f cdv A outer s H E) B (defBody st) (rd W)) : FnG P w K mg base (L2.CX P w) (k + 1) f fd ps (lSpX P w K n (runX n N.length rd)) := by
  refine FnG.ofXDC F S (fun vs H Q E h => h.1.trans hn.symm) (fun cdv hcv A outer s H vs Q E hg hr h => ?_)
  obtain ⟨hl, ds, C, Qd, Ed, r, ok, ⟨hl2, h⟩, k, kx⟩ := h
  have tk : Takes (cxOf (L2.CX P w) P w K mg base N qual (defScope st) f cdv A outer s H E) (lX K ⟨H, C, P, w⟩ fun x _ C' => ∃ C'', Sub C'' C' ∧ Ed x C'') := (takes_of (E := E) rfl rfl rfl rfl).imp fun cls d σ H' z => by
    obtain ⟨n, fs, sl, C', xr, rs, rl, C'', hs, q⟩ := z
    exact kx n fs cls d H' C'' (rl.st.less hs) ⟨fun p c e => rl.ok p c (hs p c e), rl.ti⟩ xr q
  refine ⟨_, hbody cdv hcv A outer s H E ⟨H, C, P, w⟩ _ rfl rfl ⟨hr, hg⟩ tk (passes_of rfl), ds.map some ++ List.replicate (N.length - ds.length) none, C, _, ?_, ⟨Stp.refl _ _, ok.1, ok.2⟩, h, ⟨fun σ sl H' C' st rl rs q => ?_, fun v d H' C' st rl r q => ?_, fun _ _ _ _ _ _ _ q => q.elim, fun _ _ _ _ _ _ _ q => q.elim⟩⟩
  · unfold L2.start
    rw [r.length]
    exact paired_append (reps_start r) (reps_none _)
  · obtain ⟨C'', hs, q⟩ := q
    exact k _ _ H' C'' (st.less hs) ⟨fun p c e => rl.ok p c (hs p c e), rl.ti⟩ repN q
  · obtain ⟨C'', hs, q⟩ := q
    exact k _ _ H' C'' (st.less hs) ⟨fun p c e => rl.ok p c (hs p c e), rl.ti⟩ r q
end
end KB
/-! KSv: readings' equations once more. -/
namespace KB
open PySem PySem.Spec PyProof.Rows
open L2 hiding op_eqD op_neD call_listD
end KB
/-! KTt: a text in a text. -/
namespace KB
open PySem PySem.Spec PyProof.Rows
open L2 hiding op_eqD op_neD call_listD
/-- whether a text stands somewhere in another one -/
def subL (a b : List Nat) : Bool := !(Builtin.Str.occurrences ⟨b.toArray⟩ ⟨a.toArray⟩ 0 (⟨b.toArray⟩ : Str).length 1).isEmpty
def inTR : D → D → Cp → DQ → Prop := fun x y C Q => ∃ a b, x = .str a ∧ y = .str b ∧ Q (.bl (subL a b)) C
section
variable {X : Cx} {B : Bs}
theorem op_inTD : OpD X B (compareOp .In) inTR := by
  intro pins s σ H x y v u Q I rx ry h
  obtain ⟨dx, dy, C, Qd, r1, r2, rl, ⟨c, l, e1, e2, h⟩, k⟩ := h
  subst e1 e2
  cases r1; cases r2
  exact op_in_str pins s σ H _ _ v u Q I rx ry ⟨_, _, rfl, rfl, k _ (.bl (subL c l)) H C (Stp.refl _ _) rl rfl h⟩
end
theorem inT_st {a b : List Nat} {C : Cp} {Q : DQ} (k : Q (.bl (subL a b)) C) : inTR (.str a) (.str b) C Q := ⟨a, b, rfl, rfl, k⟩
end KB
namespace K47
open PySem PySem.Spec PyProof.Rows KB
open L2 hiding op_eqD op_neD call_listD
def topS (i : Nat) : Stmt := PySem.Challenge.pw_keptpages_k47_searched_by_own_reading.main.body.getD i (.Pass ⟨0, 0, 0, 0⟩)
abbrev s__law_pot : Stmt := topS 34
theorem sc__law_pot : FnScope ["_law_script", "_law_k", "_law_cell", "_law_great"] ["_law_script", "_law_k"] (defScope s__law_pot) := ⟨rfl, rfl, rfl, by decide +kernel, rfl, by decide +kernel, by decide +kernel⟩
abbrev s__law_take : Stmt := topS 35
theorem sc__law_take : FnScope ["_law_pot_here", "_law_many", "_law_digit"] ["_law_pot_here", "_law_many"] (defScope s__law_take) := ⟨rfl, rfl, rfl, by decide +kernel, rfl, by decide +kernel, by decide +kernel⟩
abbrev s__law_some : Stmt := topS 37
theorem sc__law_some : FnScope ["_law_pot_here", "_law_row", "_law_upto", "_law_found", "_law_turn"] ["_law_pot_here", "_law_row", "_law_upto"] (defScope s__law_some) := ⟨rfl, rfl, rfl, by decide +kernel, rfl, by decide +kernel, by decide +kernel⟩
abbrev s__law_form : Stmt := topS 38
theorem sc__law_form : FnScope ["_law_pot_here", "_law_words_here", "_law_form_here", "_law_turn", "_law_kind", "_law_gate"] ["_law_pot_here", "_law_words_here"] (defScope s__law_form) := ⟨rfl, rfl, rfl, by decide +kernel, rfl, by decide +kernel, by decide +kernel⟩
abbrev s__law_title : Stmt := topS 39
theorem sc__law_title : FnScope ["_law_pot_here", "_law_words_here", "_law_found", "_law_turn", "_law_word"] ["_law_pot_here", "_law_words_here"] (defScope s__law_title) := ⟨rfl, rfl, rfl, by decide +kernel, rfl, by decide +kernel, by decide +kernel⟩
abbrev s__law_pages : Stmt := topS 42
theorem sc__law_pages : FnScope ["_law_pot_here", "_law_words_here", "_law_marks", "_law_folders_here", "_law_upto", "_law_found", "_law_turn", "_law_paths", "_law_form_here", "_law_title_here"] ["_law_pot_here", "_law_words_here", "_law_marks", "_law_folders_here", "_law_upto"] (defScope s__law_pages) := ⟨rfl, rfl, rfl, by decide +kernel, rfl, by decide +kernel, by decide +kernel⟩
abbrev s_Listing____init__ : Stmt := inClass (topS 32) 0
theorem sc_Listing____init__ : FnScope ["self", "folders", "pages", "pairs"] ["self", "folders", "pages", "pairs"] (defScope s_Listing____init__) := ⟨rfl, rfl, rfl, by decide +kernel, rfl, by decide +kernel, by decide +kernel⟩
abbrev s__law_words : Stmt := topS 36
theorem sc__law_words : FnScope ["_law_pot_here", "_law_many", "_law_k", "_law_signs", "_law_stem", "_law_at", "_law_first", "_law_step"] ["_law_pot_here", "_law_many"] (defScope s__law_words) := ⟨rfl, rfl, rfl, by decide +kernel, rfl, by decide +kernel, by decide +kernel⟩
abbrev s__law_folders : Stmt := topS 40
theorem sc__law_folders : FnScope ["_law_pot_here", "_law_words_here", "_law_upto", "_law_found", "_law_turn", "_law_path"] ["_law_pot_here", "_law_words_here", "_law_upto"] (defScope s__law_folders) := ⟨rfl, rfl, rfl, by decide +kernel, rfl, by decide +kernel, by decide +kernel⟩
abbrev s__law_pairs : Stmt := topS 41
theorem sc__law_pairs : FnScope ["_law_pot_here", "_law_marks", "_law_upto", "_law_found", "_law_turn", "_law_one", "_law_other"] ["_law_pot_here", "_law_marks", "_law_upto"] (defScope s__law_pairs) := ⟨rfl, rfl, rfl, by decide +kernel, rfl, by decide +kernel, by decide +kernel⟩
abbrev s_is_word : Stmt := topS 10
theorem sc_is_word : FnScope ["thing", "sign"] ["thing"] (defScope s_is_word) := ⟨rfl, rfl, rfl, by decide +kernel, rfl, by decide +kernel, by decide +kernel⟩
abbrev s_is_path : Stmt := topS 11
theorem sc_is_path : FnScope ["thing", "word"] ["thing"] (defScope s_is_path) := ⟨rfl, rfl, rfl, by decide +kernel, rfl, by decide +kernel, by decide +kernel⟩
abbrev s_path_in : Stmt := topS 13
theorem sc_path_in : FnScope ["text", "some"] ["text"] (defScope s_path_in) := ⟨rfl, rfl, rfl, by decide +kernel, rfl, by decide +kernel, by decide +kernel⟩
abbrev s_is_plain_word : Stmt := topS 14
theorem sc_is_plain_word : FnScope ["word"] ["word"] (defScope s_is_plain_word) := ⟨rfl, rfl, rfl, by decide +kernel, rfl, by decide +kernel, by decide +kernel⟩
abbrev s_is_search_word : Stmt := topS 15
theorem sc_is_search_word : FnScope ["thing"] ["thing"] (defScope s_is_search_word) := ⟨rfl, rfl, rfl, by decide +kernel, rfl, by decide +kernel, by decide +kernel⟩
abbrev s_look_at_words : Stmt := topS 22
theorem sc_look_at_words : FnScope ["rows", "row", "word"] ["rows"] (defScope s_look_at_words) := ⟨rfl, rfl, rfl, by decide +kernel, rfl, by decide +kernel, by decide +kernel⟩
abbrev s_Sought____init__ : Stmt := inClass (topS 17) 0
theorem sc_Sought____init__ : FnScope ["self", "listing"] ["self", "listing"] (defScope s_Sought____init__) := ⟨rfl, rfl, rfl, by decide +kernel, rfl, by decide +kernel, by decide +kernel⟩
abbrev s_address_key : Stmt := topS 18
abbrev s_title_key : Stmt := topS 19
abbrev s_marks_key : Stmt := topS 20
abbrev s_led_to : Stmt := topS 25
theorem sc_led_to : FnScope ["begun", "links", "met", "waiting", "here", "one", "other"] ["begun", "links"] (defScope s_led_to) := ⟨rfl, rfl, rfl, by decide +kernel, rfl, by decide +kernel, by decide +kernel⟩
abbrev s_inside : Stmt := topS 26
theorem sc_inside : FnScope ["pairs", "mark", "inner", "outer"] ["pairs", "mark"] (defScope s_inside) := ⟨rfl, rfl, rfl, by decide +kernel, rfl, by decide +kernel, by decide +kernel⟩
abbrev s_Listing__marked : Stmt := inClass (topS 32) 6
theorem sc_Listing__marked : FnScope ["self", "mark", "some", "page", "one"] ["self", "mark"] (defScope s_Listing__marked) := ⟨rfl, rfl, rfl, by decide +kernel, rfl, by decide +kernel, by decide +kernel⟩
abbrev s_Sought__bears : Stmt := inClass (topS 17) 1
theorem sc_Sought__bears : FnScope ["self", "form", "mark", "one"] ["self", "form", "mark"] (defScope s_Sought__bears) := ⟨rfl, rfl, rfl, by decide +kernel, rfl, by decide +kernel, by decide +kernel⟩
abbrev s_lies_within : Stmt := topS 16
theorem sc_lies_within : FnScope ["paths", "path", "one"] ["paths", "path"] (defScope s_lies_within) := ⟨rfl, rfl, rfl, by decide +kernel, rfl, by decide +kernel, by decide +kernel⟩
abbrev s_Sought__fits : Stmt := inClass (topS 17) 2
theorem sc_Sought__fits : FnScope ["self", "page", "word", "form", "called", "marks", "paths"] ["self", "page", "word"] (defScope s_Sought__fits) := ⟨rfl, rfl, rfl, by decide +kernel, rfl, by decide +kernel, by decide +kernel⟩
abbrev s_Sought__fits_row : Stmt := inClass (topS 17) 3
theorem sc_Sought__fits_row : FnScope ["self", "page", "row", "word"] ["self", "page", "row"] (defScope s_Sought__fits_row) := ⟨rfl, rfl, rfl, by decide +kernel, rfl, by decide +kernel, by decide +kernel⟩
abbrev s_search : Stmt := topS 23
theorem sc_search : FnScope ["listing", "rows", "order", "back", "most", "sought", "found", "rank", "forms", "page", "row"] ["listing", "rows", "order", "back", "most"] (defScope s_search) := ⟨rfl, rfl, rfl, by decide +kernel, rfl, by decide +kernel, by decide +kernel⟩
abbrev s__law_searched : Stmt := topS 48
theorem sc__law_searched : FnScope ["_law_pot_here", "_law_told", "_law_rows", "_law_ranked_by", "_law_turn_about", "_law_limit"] ["_law_pot_here", "_law_told", "_law_rows", "_law_ranked_by", "_law_turn_about", "_law_limit"] (defScope s__law_searched) := ⟨rfl, rfl, rfl, by decide +kernel, rfl, by decide +kernel, by decide +kernel⟩
abbrev s__law_inside : Stmt := topS 43
theorem sc__law_inside : FnScope ["_law_pairs_here", "_law_mark", "_law_found", "_law_turn", "_law_inner", "_law_outer"] ["_law_pairs_here", "_law_mark"] (defScope s__law_inside) := ⟨rfl, rfl, rfl, by decide +kernel, rfl, by decide +kernel, by decide +kernel⟩
abbrev s__law_fits : Stmt := topS 46
theorem sc__law_fits : FnScope ["_law_page", "_law_pairs_here", "_law_word", "_law_form_here", "_law_title_here", "_law_marks", "_law_paths", "_law_path", "_law_mark", "_law_part", "_law_one"] ["_law_page", "_law_pairs_here", "_law_word"] (defScope s__law_fits) := ⟨rfl, rfl, rfl, by decide +kernel, rfl, by decide +kernel, by decide +kernel⟩
abbrev s__law_due : Stmt := topS 47
theorem sc__law_due : FnScope ["_law_pages_here", "_law_pairs_here", "_law_rows", "_law_ranked_by", "_law_turn_about", "_law_limit", "_law_found", "_law_page", "_law_forms", "_law_rank", "_law_form_here", "_law_row", "_law_word"] ["_law_pages_here", "_law_pairs_here", "_law_rows", "_law_ranked_by", "_law_turn_about", "_law_limit"] (defScope s__law_due) := ⟨rfl, rfl, rfl, by decide +kernel, rfl, by decide +kernel, by decide +kernel⟩
abbrev s__law_piece : Stmt := topS 44
theorem sc__law_piece : FnScope ["_law_pot_here", "_law_text", "_law_some_here", "_law_word", "_law_at"] ["_law_pot_here", "_law_text"] (defScope s__law_piece) := ⟨rfl, rfl, rfl, by decide +kernel, rfl, by decide +kernel, by decide +kernel⟩
abbrev s__law_search_word : Stmt := topS 45
theorem sc__law_search_word : FnScope ["_law_pot_here", "_law_pages_here", "_law_folders_here", "_law_marks", "_law_words_here", "_law_way", "_law_page", "_law_found", "_law_path"] ["_law_pot_here", "_law_pages_here", "_law_folders_here", "_law_marks", "_law_words_here"] (defScope s__law_search_word) := ⟨rfl, rfl, rfl, by decide +kernel, rfl, by decide +kernel, by decide +kernel⟩
abbrev s_law : Stmt := topS 49
theorem sc_law : FnScope ["_law_script", "_law_k", "_law_pot_here", "_law_pages_here", "_law_told", "_law_turn", "_law_words_here", "_law_marks", "_law_folders_here", "_law_pairs_here", "_law_rows", "_law_row", "_law_limit", "_law_found", "_law_due_here", "_law_some_here", "_law_ranked_by", "_law_turn_about", "_law_word"] ["_law_script"] (defScope s_law) := ⟨rfl, rfl, rfl, by decide +kernel, rfl, by decide +kernel, by decide +kernel⟩
abbrev s_NoWord____init__ : Stmt := inClass (topS 3) 0
theorem sc_NoWord____init__ : FnScope ["self", "word"] ["self", "word"] (defScope s_NoWord____init__) := ⟨rfl, rfl, rfl, by decide +kernel, rfl, by decide +kernel, by decide +kernel⟩
abbrev s_NoOrder____init__ : Stmt := inClass (topS 4) 0
theorem sc_NoOrder____init__ : FnScope ["self", "order"] ["self", "order"] (defScope s_NoOrder____init__) := ⟨rfl, rfl, rfl, by decide +kernel, rfl, by decide +kernel, by decide +kernel⟩
def tb_ORDERS : List (List Nat × D) := [([97, 100, 100, 114, 101, 115, 115], .fn "address_key"), ([116, 105, 116, 108, 101], .fn "title_key"), ([109, 97, 114, 107, 115], .fn "marks_key")]
structure Env (w : World) (base : Heap) (K : PySem.W.Frag) (mg : Str → Option Value) where
  a__law_pot : Addr
  d__law_pot : FuncData
  F__law_pot : Fun K "_law_pot" "_law_pot" s__law_pot a__law_pot d__law_pot
  b__law_pot : Binds K d__law_pot ["_law_script", "_law_k"] []
  m__law_pot : mg "_law_pot" = some (.ref a__law_pot)
  a__law_take : Addr
  d__law_take : FuncData
  F__law_take : Fun K "_law_take" "_law_take" s__law_take a__law_take d__law_take
  b__law_take : Binds K d__law_take ["_law_pot_here", "_law_many"] []
  m__law_take : mg "_law_take" = some (.ref a__law_take)
  a__law_some : Addr
  d__law_some : FuncData
  F__law_some : Fun K "_law_some" "_law_some" s__law_some a__law_some d__law_some
  b__law_some : Binds K d__law_some ["_law_pot_here", "_law_row", "_law_upto"] []
  m__law_some : mg "_law_some" = some (.ref a__law_some)
  a__law_form : Addr
  d__law_form : FuncData
  F__law_form : Fun K "_law_form" "_law_form" s__law_form a__law_form d__law_form
  b__law_form : Binds K d__law_form ["_law_pot_here", "_law_words_here"] []
  m__law_form : mg "_law_form" = some (.ref a__law_form)
  a__law_title : Addr
  d__law_title : FuncData
  F__law_title : Fun K "_law_title" "_law_title" s__law_title a__law_title d__law_title
  b__law_title : Binds K d__law_title ["_law_pot_here", "_law_words_here"] []
  m__law_title : mg "_law_title" = some (.ref a__law_title)
  a__law_pages : Addr
  d__law_pages : FuncData
  F__law_pages : Fun K "_law_pages" "_law_pages" s__law_pages a__law_pages d__law_pages
  b__law_pages : Binds K d__law_pages ["_law_pot_here", "_law_words_here", "_law_marks", "_law_folders_here", "_law_upto"] []
  m__law_pages : mg "_law_pages" = some (.ref a__law_pages)
  a_Listing____init__ : Addr
  d_Listing____init__ : FuncData
  F_Listing____init__ : Fun K "__init__" "Listing.__init__" s_Listing____init__ a_Listing____init__ d_Listing____init__
  b_Listing____init__ : Binds K d_Listing____init__ ["self", "folders", "pages", "pairs"] []
  a__law_words : Addr
  d__law_words : FuncData
  F__law_words : Fun K "_law_words" "_law_words" s__law_words a__law_words d__law_words
  b__law_words : Binds K d__law_words ["_law_pot_here", "_law_many"] []
  m__law_words : mg "_law_words" = some (.ref a__law_words)
  a__law_folders : Addr
  d__law_folders : FuncData
  F__law_folders : Fun K "_law_folders" "_law_folders" s__law_folders a__law_folders d__law_folders
  b__law_folders : Binds K d__law_folders ["_law_pot_here", "_law_words_here", "_law_upto"] []
  m__law_folders : mg "_law_folders" = some (.ref a__law_folders)
  a__law_pairs : Addr
  d__law_pairs : FuncData
  F__law_pairs : Fun K "_law_pairs" "_law_pairs" s__law_pairs a__law_pairs d__law_pairs
  b__law_pairs : Binds K d__law_pairs ["_law_pot_here", "_law_marks", "_law_upto"] []
  m__law_pairs : mg "_law_pairs" = some (.ref a__law_pairs)
  a_is_word : Addr
  d_is_word : FuncData
  F_is_word : Fun K "is_word" "is_word" s_is_word a_is_word d_is_word
  b_is_word : Binds K d_is_word ["thing"] []
  m_is_word : mg "is_word" = some (.ref a_is_word)
  a_is_path : Addr
  d_is_path : FuncData
  F_is_path : Fun K "is_path" "is_path" s_is_path a_is_path d_is_path
  b_is_path : Binds K d_is_path ["thing"] []
  m_is_path : mg "is_path" = some (.ref a_is_path)
  a_path_in : Addr
  d_path_in : FuncData
  F_path_in : Fun K "path_in" "path_in" s_path_in a_path_in d_path_in
  b_path_in : Binds K d_path_in ["text"] []
  m_path_in : mg "path_in" = some (.ref a_path_in)
  a_is_plain_word : Addr
  d_is_plain_word : FuncData
  F_is_plain_word : Fun K "is_plain_word" "is_plain_word" s_is_plain_word a_is_plain_word d_is_plain_word
  b_is_plain_word : Binds K d_is_plain_word ["word"] []
  m_is_plain_word : mg "is_plain_word" = some (.ref a_is_plain_word)
  a_is_search_word : Addr
  d_is_search_word : FuncData
  F_is_search_word : Fun K "is_search_word" "is_search_word" s_is_search_word a_is_search_word d_is_search_word
  b_is_search_word : Binds K d_is_search_word ["thing"] []
  m_is_search_word : mg "is_search_word" = some (.ref a_is_search_word)
  a_look_at_words : Addr
  d_look_at_words : FuncData
  F_look_at_words : Fun K "look_at_words" "look_at_words" s_look_at_words a_look_at_words d_look_at_words
  b_look_at_words : Binds K d_look_at_words ["rows"] []
  m_look_at_words : mg "look_at_words" = some (.ref a_look_at_words)
  a_Sought____init__ : Addr
  d_Sought____init__ : FuncData
  F_Sought____init__ : Fun K "__init__" "Sought.__init__" s_Sought____init__ a_Sought____init__ d_Sought____init__
  b_Sought____init__ : Binds K d_Sought____init__ ["self", "listing"] []
  a_address_key : Addr
  d_address_key : FuncData
  F_address_key : Fun K "address_key" "address_key" s_address_key a_address_key d_address_key
  b_address_key : Binds K d_address_key ["page"] []
  m_address_key : mg "address_key" = some (.ref a_address_key)
  g_address_key : PySem.W.nsIn K mainGlobals "address_key" = some (some (.ref a_address_key))
  a_title_key : Addr
  d_title_key : FuncData
  F_title_key : Fun K "title_key" "title_key" s_title_key a_title_key d_title_key
  b_title_key : Binds K d_title_key ["page"] []
  m_title_key : mg "title_key" = some (.ref a_title_key)
  g_title_key : PySem.W.nsIn K mainGlobals "title_key" = some (some (.ref a_title_key))
  a_marks_key : Addr
  d_marks_key : FuncData
  F_marks_key : Fun K "marks_key" "marks_key" s_marks_key a_marks_key d_marks_key
  b_marks_key : Binds K d_marks_key ["page"] []
  m_marks_key : mg "marks_key" = some (.ref a_marks_key)
  g_marks_key : PySem.W.nsIn K mainGlobals "marks_key" = some (some (.ref a_marks_key))
  a_led_to : Addr
  d_led_to : FuncData
  F_led_to : Fun K "led_to" "led_to" s_led_to a_led_to d_led_to
  b_led_to : Binds K d_led_to ["begun", "links"] []
  m_led_to : mg "led_to" = some (.ref a_led_to)
  a_inside : Addr
  d_inside : FuncData
  F_inside : Fun K "inside" "inside" s_inside a_inside d_inside
  b_inside : Binds K d_inside ["pairs", "mark"] []
  m_inside : mg "inside" = some (.ref a_inside)
  a_Listing__marked : Addr
  d_Listing__marked : FuncData
  F_Listing__marked : Fun K "marked" "Listing.marked" s_Listing__marked a_Listing__marked d_Listing__marked
  b_Listing__marked : Binds K d_Listing__marked ["self", "mark"] []
  a_Sought__bears : Addr
  d_Sought__bears : FuncData
  F_Sought__bears : Fun K "bears" "Sought.bears" s_Sought__bears a_Sought__bears d_Sought__bears
  b_Sought__bears : Binds K d_Sought__bears ["self", "form", "mark"] []
  a_lies_within : Addr
  d_lies_within : FuncData
  F_lies_within : Fun K "lies_within" "lies_within" s_lies_within a_lies_within d_lies_within
  b_lies_within : Binds K d_lies_within ["paths", "path"] []
  m_lies_within : mg "lies_within" = some (.ref a_lies_within)
  a_Sought__fits : Addr
  d_Sought__fits : FuncData
  F_Sought__fits : Fun K "fits" "Sought.fits" s_Sought__fits a_Sought__fits d_Sought__fits
  b_Sought__fits : Binds K d_Sought__fits ["self", "page", "word"] []
  a_Sought__fits_row : Addr
  d_Sought__fits_row : FuncData
  F_Sought__fits_row : Fun K "fits_row" "Sought.fits_row" s_Sought__fits_row a_Sought__fits_row d_Sought__fits_row
  b_Sought__fits_row : Binds K d_Sought__fits_row ["self", "page", "row"] []
  a_search : Addr
  d_search : FuncData
  F_search : FunE K "search" "search" s_search [.str ⟨[97, 100, 100, 114, 101, 115, 115].toArray⟩, .bl false, .non] a_search d_search
  ds_search_2 : List Value
  v_search_2 : Vals [.str ⟨[97, 100, 100, 114, 101, 115, 115].toArray⟩, .bl false, .non] ds_search_2
  b_search_2 : Binds K d_search ["listing", "rows", "order", "back", "most"] ds_search_2
  ds_search_5 : List Value
  v_search_5 : Vals [] ds_search_5
  b_search_5 : Binds K d_search ["listing", "rows", "order", "back", "most"] ds_search_5
  kw_search_0 : KwB K d_search ["listing", "rows", "order", "back", "most"] 2 ["order"] [.p 0, .p 1, .k 0, .d 1, .d 2] [.str ⟨[97, 100, 100, 114, 101, 115, 115].toArray⟩, .bl false, .non]
  kw_search_1 : KwB K d_search ["listing", "rows", "order", "back", "most"] 2 ["most", "back"] [.p 0, .p 1, .d 0, .k 1, .k 0] [.str ⟨[97, 100, 100, 114, 101, 115, 115].toArray⟩, .bl false, .non]
  m_search : mg "search" = some (.ref a_search)
  a__law_searched : Addr
  d__law_searched : FuncData
  F__law_searched : Fun K "_law_searched" "_law_searched" s__law_searched a__law_searched d__law_searched
  b__law_searched : Binds K d__law_searched ["_law_pot_here", "_law_told", "_law_rows", "_law_ranked_by", "_law_turn_about", "_law_limit"] []
  m__law_searched : mg "_law_searched" = some (.ref a__law_searched)
  a__law_inside : Addr
  d__law_inside : FuncData
  F__law_inside : Fun K "_law_inside" "_law_inside" s__law_inside a__law_inside d__law_inside
  b__law_inside : Binds K d__law_inside ["_law_pairs_here", "_law_mark"] []
  m__law_inside : mg "_law_inside" = some (.ref a__law_inside)
  a__law_fits : Addr
  d__law_fits : FuncData
  F__law_fits : Fun K "_law_fits" "_law_fits" s__law_fits a__law_fits d__law_fits
  b__law_fits : Binds K d__law_fits ["_law_page", "_law_pairs_here", "_law_word"] []
  m__law_fits : mg "_law_fits" = some (.ref a__law_fits)
  a__law_due : Addr
  d__law_due : FuncData
  F__law_due : Fun K "_law_due" "_law_due" s__law_due a__law_due d__law_due
  b__law_due : Binds K d__law_due ["_law_pages_here", "_law_pairs_here", "_law_rows", "_law_ranked_by", "_law_turn_about", "_law_limit"] []
  m__law_due : mg "_law_due" = some (.ref a__law_due)
  a__law_piece : Addr
  d__law_piece : FuncData
  F__law_piece : Fun K "_law_piece" "_law_piece" s__law_piece a__law_piece d__law_piece
  b__law_piece : Binds K d__law_piece ["_law_pot_here", "_law_text"] []
  m__law_piece : mg "_law_piece" = some (.ref a__law_piece)
  a__law_search_word : Addr
  d__law_search_word : FuncData
  F__law_search_word : Fun K "_law_search_word" "_law_search_word" s__law_search_word a__law_search_word d__law_search_word
  b__law_search_word : Binds K d__law_search_word ["_law_pot_here", "_law_pages_here", "_law_folders_here", "_law_marks", "_law_words_here"] []
  m__law_search_word : mg "_law_search_word" = some (.ref a__law_search_word)
  a_law : Addr
  d_law : FuncData
  F_law : Fun K "law" "law" s_law a_law d_law
  b_law : Binds K d_law ["_law_script"] []
  m_law : mg "law" = some (.ref a_law)
  a_NoWord____init__ : Addr
  d_NoWord____init__ : FuncData
  F_NoWord____init__ : Fun K "__init__" "NoWord.__init__" s_NoWord____init__ a_NoWord____init__ d_NoWord____init__
  b_NoWord____init__ : Binds K d_NoWord____init__ ["self", "word"] []
  a_NoOrder____init__ : Addr
  d_NoOrder____init__ : FuncData
  F_NoOrder____init__ : Fun K "__init__" "NoOrder.__init__" s_NoOrder____init__ a_NoOrder____init__ d_NoOrder____init__
  b_NoOrder____init__ : Binds K d_NoOrder____init__ ["self", "order"] []
  C_Listing : Addr
  cn_Listing : ClsN K "Listing" C_Listing
  mc_Listing : mg "Listing" = some (.ref C_Listing)
  C_Sought : Addr
  cn_Sought : ClsN K "Sought" C_Sought
  mc_Sought : mg "Sought" = some (.ref C_Sought)
  C_NoWord : Addr
  xn_NoWord : PySem.W.nsIn K mainGlobals "NoWord" = some (some (.ref C_NoWord))
  mc_NoWord : mg "NoWord" = some (.ref C_NoWord)
  xf_NoWord : ExcF K C_NoWord
  C_NoOrder : Addr
  xn_NoOrder : PySem.W.nsIn K mainGlobals "NoOrder" = some (some (.ref C_NoOrder))
  mc_NoOrder : mg "NoOrder" = some (.ref C_NoOrder)
  xf_NoOrder : ExcF K C_NoOrder
  C_KeptError : Addr
  xn_KeptError : PySem.W.nsIn K mainGlobals "KeptError" = some (some (.ref C_KeptError))
  mc_KeptError : mg "KeptError" = some (.ref C_KeptError)
  xf_KeptError : ExcF K C_KeptError
  T_NoWord : OexC K C_NoWord
  ic_NoWord : PySem.W.findIn K (.ref C_NoWord) "__init__" = some (some (.ref a_NoWord____init__))
  ti_NoWord : PySem.W.typeIn K (.ref a_NoWord____init__) = some (.type "function")
  no_NoWord_word : PySem.W.findIn K (.ref C_NoWord) "word" = some none
  T_NoOrder : OexC K C_NoOrder
  ic_NoOrder : PySem.W.findIn K (.ref C_NoOrder) "__init__" = some (some (.ref a_NoOrder____init__))
  ti_NoOrder : PySem.W.typeIn K (.ref a_NoOrder____init__) = some (.type "function")
  no_NoOrder_order : PySem.W.findIn K (.ref C_NoOrder) "order" = some none
  kr : PySem.W.readsIn K C_KeptError (.type "type") = true
  kg : PySem.W.specialIn K (.ref C_KeptError) "__getattribute__" = some (some (.builtin "type.__getattribute__"))
  kf : PySem.W.findCls K (.ref C_KeptError) (.type "type") "__init__" = some (.val (.builtin "ValueError.__init__"))
  mk_Listing : Mk K C_Listing a_Listing____init__
  mk_Sought : Mk K C_Sought a_Sought____init__
  na_Listing_folders : NoAttr K C_Listing "folders"
  na_Listing_pages : NoAttr K C_Listing "pages"
  na_Listing_pairs : NoAttr K C_Listing "pairs"
  na_Sought_bearers : NoAttr K C_Sought "bearers"
  na_Sought_sought_in : NoAttr K C_Sought "sought_in"
  mt_Listing_marked : Meth K C_Listing "marked" a_Listing__marked
  mt_Sought_bears : Meth K C_Sought "bears" a_Sought__bears
  mt_Sought_fits : Meth K C_Sought "fits" a_Sought__fits
  mt_Sought_fits_row : Meth K C_Sought "fits_row" a_Sought__fits_row
  z_abs : mg "abs" = none
  z_all : mg "all" = none
  z_any : mg "any" = none
  z_dict : mg "dict" = none
  z_int : mg "int" = none
  z_isinstance : mg "isinstance" = none
  z_len : mg "len" = none
  z_list : mg "list" = none
  z_max : mg "max" = none
  z_min : mg "min" = none
  z_range : mg "range" = none
  z_sorted : mg "sorted" = none
  z_str : mg "str" = none
  z_tuple : mg "tuple" = none
  t_MOST_SIGNS : Tok
  c_MOST_SIGNS : mg "MOST_SIGNS" = some (.int 12 t_MOST_SIGNS)
  t_WORD_SIGNS : Tok
  c_WORD_SIGNS : mg "WORD_SIGNS" = some (.str (PySem.Str.ofString "abcdefghijklmnopqrstuvwxyz0123456789-") t_WORD_SIGNS)
  A_ORDERS : Addr
  v_ORDERS : KTab K w A_ORDERS tb_ORDERS
  c_ORDERS : mg "ORDERS" = some (.ref A_ORDERS)
  lmc0_search : Addr
  lmP0_search : Addr
  lmTB_search : LamX.TabB base mg lmc0_search lmP0_search
  lmTK_search : TabK K "search" lmP0_search
  lmc_search : d_search.code = .ref lmc0_search
  nd : PySem.W.nsIn K PySem.cStatics "sys.int_max_str_digits" = some none
section
variable {P : Program} {w : World} {K : PySem.W.Frag} {mg : Str → Option Value} {base : Heap}
theorem okI_NoWord {P : Program} {w : World} {base : Heap} (E : Env w base K mg) (k : Nat) : FnG P w K mg base CX0 (k + 1) E.a_NoWord____init__ E.d_NoWord____init__ ["self", "word"] (spI E.C_NoWord 1 ["word"]) := init1_of E.F_NoWord____init__ sc_NoWord____init__ E.T_NoWord E.no_NoWord_word fun cdv A out s H Eo => pss_cons (ps_expr (pe_keinit rfl E.mc_KeptError E.kr E.kg E.kf (pa_cons (pe_var (i := 0) rfl (.inl rfl)) (pa_cons pe_str pa_nil)))) (pss_one (ps_ost (pe_var (i := 0) rfl (.inl rfl)) (pe_var (i := 1) rfl (.inl rfl))))
theorem okI_NoOrder {P : Program} {w : World} {base : Heap} (E : Env w base K mg) (k : Nat) : FnG P w K mg base CX0 (k + 1) E.a_NoOrder____init__ E.d_NoOrder____init__ ["self", "order"] (spI E.C_NoOrder 1 ["order"]) := init1_of E.F_NoOrder____init__ sc_NoOrder____init__ E.T_NoOrder E.no_NoOrder_order fun cdv A out s H Eo => pss_cons (ps_expr (pe_keinit rfl E.mc_KeptError E.kr E.kg E.kf (pa_cons (pe_var (i := 0) rfl (.inl rfl)) (pa_cons pe_str pa_nil)))) (pss_one (ps_ost (pe_var (i := 0) rfl (.inl rfl)) (pe_var (i := 1) rfl (.inl rfl))))
def r__law_pot_1 : DS := dSeq (dAsg (dOp mulD (dOp modD (dCB absR (dCons (dVar 2) (dNil))) (dCB intLR (dCons (dOp addD (dC (.str [49])) (dOp mulSD (dC (.str [48])) (dC (.int 900)))) (dNil)))) (dCB intR (dCons (dOp (geD) (dCB absR (dCons (dVar 2) (dNil))) (dOp powE (dC (.int 10)) (dC (.int 18)))) (dNil)))) (gNm 3))
  (dRet (dLst (dCons (dVar 3) (dCons (dOp modD (dOp mulD (dOp addD (dOp addD (dOp modD (dVar 2) (dC (.int 2305843009213693951))) (dOp mulD (dOp mulD (dC (.int 7919)) (dVar 1)) (dVar 1))) (dC (.int 11))) (dC (.int 48271))) (dC (.int 2305843009213693951))) (dNil)))))
def r__law_pot : DS := dSeq (dAsg (dOp addD (dOp mulD (dC (.int 3)) (dVar 1)) (dCB (lenR) (dCons (dVar 0) (dNil)))) (gNm 2))
  (dSeq (dIf (dTest (dOp (ltD) (dVar 1) (dCB (lenR) (dCons (dVar 0) (dNil))))) (dAsg (dOp ixD (dVar 0) (dVar 1)) (gNm 2)) (dNext))
  (r__law_pot_1))
def D__law_pot : DSp := runD 2 4 r__law_pot
theorem ok__law_pot {P : Program} {w : World} {base : Heap} (E : Env w base K mg) (k : Nat) : FnG P w K mg base CX0 (k + 1) E.a__law_pot E.d__law_pot ["_law_script", "_law_k"] (lSp P w K 2 D__law_pot) := fnok_of E.F__law_pot sc__law_pot rfl (fun cdv A outer s H Eo B hP hw hr => by
  subst hP hw
  have hB : B.P = B.P ∧ B.w = B.w := ⟨rfl, rfl⟩
  unfold r__law_pot
  unfold r__law_pot_1
  exact jss_cons (js_set (i := 2) sc__law_pot.nd (j_op op_addD (j_op op_mulD (j_int) (jv 1)) (j_callB (call_lenD0) E.z_len bt_len (jas_cons (jv 0) (jas_nil)))))
    (jss_cons (js_if (jt_cmp (op_ltD) (jv 1) (j_callB (call_lenD0) E.z_len bt_len (jas_cons (jv 0) (jas_nil)))) (jss_one (js_set (i := 2) sc__law_pot.nd (j_ix (jv 0) (jv 1)))) (jss_nil))
    (jss_cons (js_set (i := 3) sc__law_pot.nd (j_op op_mulD (j_op op_modD (j_callB call_absD E.z_abs bt_abs (jas_cons (jv 2) (jas_nil))) (j_callTy (call_intLD E.nd) E.z_int bt_int (jas_cons (j_op op_addD (j_str [49]) (j_op op_mulSD (j_str [48]) (j_int))) (jas_nil)))) (j_callTy call_intD E.z_int bt_int (jas_cons (j_cmp (op_geD) (j_callB call_absD E.z_abs bt_abs (jas_cons (jv 2) (jas_nil))) (j_op op_powE (j_int) (j_int))) (jas_nil)))))
    (jss_one (js_ret (j_lst (jas_cons (jv 3) (jas_cons (j_op op_modD (j_op op_mulD (j_op op_addD (j_op op_addD (j_op op_modD (jv 2) (j_int)) (j_op op_mulD (j_op op_mulD (j_int) (jv 1)) (jv 1))) (j_int)) (j_int)) (j_int)) (jas_nil)))))))))
def r__law_take_1 : DS := dSeq (dSetI (dVar 0) (dC (.int 1)) (dOp modD (dOp addD (dOp mulD (dOp ixD (dVar 0) (dC (.int 1))) (dC (.int 1181783497276652981))) (dC (.int 12345678910987))) (dC (.int 2305843009213693951))))
  (dRet (dOp modD (dOp fdivD (dOp modD (dOp mulD (dOp fdivD (dOp ixD (dVar 0) (dC (.int 1))) (dC (.int 65537))) (dOp addD (dOp modD (dOp ixD (dVar 0) (dC (.int 1))) (dC (.int 65537))) (dC (.int 3)))) (dC (.int 2305843009213693921))) (dC (.int 97))) (dVar 1)))
def r__law_take : DS := dSeq (dIf (dTest (dOp (gtD) (dOp ixD (dVar 0) (dC (.int 0))) (dC (.int 0)))) (dSeq (dAsg (dOp modD (dOp ixD (dVar 0) (dC (.int 0))) (dVar 1)) (gNm 2))
  (dSeq (dSetI (dVar 0) (dC (.int 0)) (dOp fdivD (dOp ixD (dVar 0) (dC (.int 0))) (dVar 1)))
  (dRet (dVar 2)))) (dNext))
  (r__law_take_1)
def D__law_take : DSp := runD 2 3 r__law_take
theorem ok__law_take {P : Program} {w : World} {base : Heap} (E : Env w base K mg) (k : Nat) : FnG P w K mg base CX0 (k + 1) E.a__law_take E.d__law_take ["_law_pot_here", "_law_many"] (lSp P w K 2 D__law_take) := fnok_of E.F__law_take sc__law_take rfl (fun cdv A outer s H Eo B hP hw hr => by
  subst hP hw
  have hB : B.P = B.P ∧ B.w = B.w := ⟨rfl, rfl⟩
  unfold r__law_take
  unfold r__law_take_1
  exact jss_cons (js_if (jt_cmp (op_gtD) (j_ix (jv 0) (j_int)) (j_int)) (jss_cons (js_set (i := 2) sc__law_take.nd (j_op op_modD (j_ix (jv 0) (j_int)) (jv 1)))
    (jss_cons (js_sset hB (room20 hr) (jv 0) (j_int) (j_op op_fdivD (j_ix (jv 0) (j_int)) (jv 1)))
    (jss_one (js_ret (jv 2))))) (jss_nil))
    (jss_cons (js_sset hB (room20 hr) (jv 0) (j_int) (j_op op_modD (j_op op_addD (j_op op_mulD (j_ix (jv 0) (j_int)) (j_int)) (j_int)) (j_int)))
    (jss_one (js_ret (j_op op_modD (j_op op_fdivD (j_op op_modD (j_op op_mulD (j_op op_fdivD (j_ix (jv 0) (j_int)) (j_int)) (j_op op_addD (j_op op_modD (j_ix (jv 0) (j_int)) (j_int)) (j_int))) (j_int)) (j_int)) (jv 1))))))
def l__law_some_1 : DS := dIf (dTest (dOp (eqR true) (dVar 1) (dLst (dNil)))) (dSetI (dVar 3) (dOp ixD (dVar 1) (dCall D__law_take [] (dCons (dVar 0) (dCons (dCB (lenR) (dCons (dVar 1) (dNil))) (dNil))))) (dC (.bl true))) (dNext)
def r__law_some_1 : DS := dRet (dCB tupleR (dCons (dCB sortedR (dCons (dVar 3) (dNil))) (dNil)))
def r__law_some : DS := dSeq (dAsg (dAlt (dEmp) (dEmpG)) (gNm 3))
  (dSeq (dFor (dRng1 (dCons (dCall D__law_take [] (dCons (dVar 0) (dCons (dOp addD (dVar 2) (dC (.int 1))) (dNil)))) (dNil))) (gNm 4) (l__law_some_1))
  (r__law_some_1))
def D__law_some : DSp := runD 3 5 r__law_some
theorem ok__law_some {P : Program} {w : World} {base : Heap} (E : Env w base K mg) (k : Nat) : FnG P w K mg base CX0 (k + 2) E.a__law_some E.d__law_some ["_law_pot_here", "_law_row", "_law_upto"] (lSp P w K 3 D__law_some) := fnok_of E.F__law_some sc__law_some rfl (fun cdv A outer s H Eo B hP hw hr => by
  subst hP hw
  have hB : B.P = B.P ∧ B.w = B.w := ⟨rfl, rfl⟩
  unfold r__law_some
  unfold r__law_some_1
  unfold l__law_some_1
  exact jss_cons (js_set (i := 3) sc__law_some.nd (j_alt (j_emp) (j_empG hB)))
    (jss_cons (js_for PassesOwn.never rfl (ji_range1 E.z_range (jas_cons (j_call [] (ok__law_take E k) (hr.mono (by omega)) E.m__law_take E.F__law_take.kp E.b__law_take (fun _ _ _ _ q => q.1) .nil (fun _ => .nil) (jas_cons (jv 0) (jas_cons (j_op op_addD (jv 2) (j_int)) (jas_nil)))) (jas_nil))) (jg_name (i := 4) sc__law_some.nd) (jss_one (js_if (jt_cmp (op_neD (room70 hr)) (jv 1) (j_lst (jas_nil))) (jss_one (js_sset hB (room20 hr) (jv 3) (j_ix (jv 1) (j_call [] (ok__law_take E k) (hr.mono (by omega)) E.m__law_take E.F__law_take.kp E.b__law_take (fun _ _ _ _ q => q.1) .nil (fun _ => .nil) (jas_cons (jv 0) (jas_cons (j_callB (call_lenD0) E.z_len bt_len (jas_cons (jv 1) (jas_nil))) (jas_nil))))) (j_bl))) (jss_nil))))
    (jss_one (js_ret (j_callTy call_tupleD E.z_tuple bt_tuple (jas_cons (j_callB (call_sortedD hB (room70 hr) rfl) E.z_sorted bt_sorted (jas_cons (jv 3) (jas_nil))) (jas_nil)))))))
def l__law_form_1 : DS := dAsg (dOp addD (dOp addD (dVar 2) (dC (.str [47]))) (dOp ixD (dVar 1) (dCall D__law_take [] (dCons (dVar 0) (dCons (dCB (lenR) (dCons (dVar 1) (dNil))) (dNil)))))) (gNm 2)
def r__law_form_1 : DS := dRet (dVar 2)
def r__law_form_2 : DS := dSeq (dIf (dTest (dOp (eqR false) (dCall D__law_take [] (dCons (dVar 0) (dCons (dC (.int 3)) (dNil)))) (dC (.int 0)))) (dAsg (dOp addD (dOp addD (dVar 2) (dC (.str [63]))) (dOp ixD (dVar 1) (dCall D__law_take [] (dCons (dVar 0) (dCons (dCB (lenR) (dCons (dVar 1) (dNil))) (dNil)))))) (gNm 2)) (dNext))
  (r__law_form_1)
def r__law_form : DS := dSeq (dPar 4 5 (dCons (dOp ixD (dLst (dCons (dC (.str [108, 101, 97, 102])) (dCons (dC (.str [115, 101, 97, 108])) (dNil)))) (dCall D__law_take [] (dCons (dVar 0) (dCons (dC (.int 2)) (dNil))))) (dCons (dOp ixD (dLst (dCons (dC (.str [])) (dCons (dOp addD (dC (.str [58])) (dCB (strR) (dCons (dOp addD (dC (.int 1000)) (dCall D__law_take [] (dCons (dVar 0) (dCons (dC (.int 9000)) (dNil))))) (dNil)))) (dNil)))) (dCall D__law_take [] (dCons (dVar 0) (dCons (dC (.int 2)) (dNil))))) (dNil))))
  (dSeq (dAsg (dOp addD (dOp addD (dOp addD (dOp addD (dOp addD (dVar 4) (dC (.str [58, 47, 47]))) (dOp ixD (dVar 1) (dCall D__law_take [] (dCons (dVar 0) (dCons (dCB (lenR) (dCons (dVar 1) (dNil))) (dNil)))))) (dC (.str [46]))) (dOp ixD (dVar 1) (dCall D__law_take [] (dCons (dVar 0) (dCons (dCB (lenR) (dCons (dVar 1) (dNil))) (dNil)))))) (dVar 5)) (gNm 2))
  (dSeq (dFor (dRng1 (dCons (dCall D__law_take [] (dCons (dVar 0) (dCons (dC (.int 3)) (dNil)))) (dNil))) (gNm 3) (l__law_form_1))
  (r__law_form_2)))
def D__law_form : DSp := runD 2 6 r__law_form
theorem ok__law_form {P : Program} {w : World} {base : Heap} (E : Env w base K mg) (k : Nat) : FnG P w K mg base CX0 (k + 2) E.a__law_form E.d__law_form ["_law_pot_here", "_law_words_here"] (lSp P w K 2 D__law_form) := fnok_of E.F__law_form sc__law_form rfl (fun cdv A outer s H Eo B hP hw hr => by
  subst hP hw
  have hB : B.P = B.P ∧ B.w = B.w := ⟨rfl, rfl⟩
  unfold r__law_form
  unfold r__law_form_2
  unfold r__law_form_1
  unfold l__law_form_1
  exact jss_cons (js_par (i := 4) (j := 5) rfl sc__law_form.nd (jas_cons (j_ix (j_lst (jas_cons (j_str [108, 101, 97, 102]) (jas_cons (j_str [115, 101, 97, 108]) (jas_nil)))) (j_call [] (ok__law_take E k) (hr.mono (by omega)) E.m__law_take E.F__law_take.kp E.b__law_take (fun _ _ _ _ q => q.1) .nil (fun _ => .nil) (jas_cons (jv 0) (jas_cons (j_int) (jas_nil))))) (jas_cons (j_ix (j_lst (jas_cons (j_str []) (jas_cons (j_op op_addD (j_str [58]) (j_callTy (call_strD) E.z_str bt_str (jas_cons (j_op op_addD (j_int) (j_call [] (ok__law_take E k) (hr.mono (by omega)) E.m__law_take E.F__law_take.kp E.b__law_take (fun _ _ _ _ q => q.1) .nil (fun _ => .nil) (jas_cons (jv 0) (jas_cons (j_int) (jas_nil))))) (jas_nil)))) (jas_nil)))) (j_call [] (ok__law_take E k) (hr.mono (by omega)) E.m__law_take E.F__law_take.kp E.b__law_take (fun _ _ _ _ q => q.1) .nil (fun _ => .nil) (jas_cons (jv 0) (jas_cons (j_int) (jas_nil))))) (jas_nil))))
    (jss_cons (js_set (i := 2) sc__law_form.nd (j_op op_addD (j_op op_addD (j_op op_addD (j_op op_addD (j_op op_addD (jv 4) (j_str [58, 47, 47])) (j_ix (jv 1) (j_call [] (ok__law_take E k) (hr.mono (by omega)) E.m__law_take E.F__law_take.kp E.b__law_take (fun _ _ _ _ q => q.1) .nil (fun _ => .nil) (jas_cons (jv 0) (jas_cons (j_callB (call_lenD0) E.z_len bt_len (jas_cons (jv 1) (jas_nil))) (jas_nil)))))) (j_str [46])) (j_ix (jv 1) (j_call [] (ok__law_take E k) (hr.mono (by omega)) E.m__law_take E.F__law_take.kp E.b__law_take (fun _ _ _ _ q => q.1) .nil (fun _ => .nil) (jas_cons (jv 0) (jas_cons (j_callB (call_lenD0) E.z_len bt_len (jas_cons (jv 1) (jas_nil))) (jas_nil)))))) (jv 5)))
    (jss_cons (js_for PassesOwn.never rfl (ji_range1 E.z_range (jas_cons (j_call [] (ok__law_take E k) (hr.mono (by omega)) E.m__law_take E.F__law_take.kp E.b__law_take (fun _ _ _ _ q => q.1) .nil (fun _ => .nil) (jas_cons (jv 0) (jas_cons (j_int) (jas_nil)))) (jas_nil))) (jg_name (i := 3) sc__law_form.nd) (jss_one (js_set (i := 2) sc__law_form.nd (j_op op_addD (j_op op_addD (jv 2) (j_str [47])) (j_ix (jv 1) (j_call [] (ok__law_take E k) (hr.mono (by omega)) E.m__law_take E.F__law_take.kp E.b__law_take (fun _ _ _ _ q => q.1) .nil (fun _ => .nil) (jas_cons (jv 0) (jas_cons (j_callB (call_lenD0) E.z_len bt_len (jas_cons (jv 1) (jas_nil))) (jas_nil)))))))))
    (jss_cons (js_if (jt_cmp (op_eqD (room70 hr)) (j_call [] (ok__law_take E k) (hr.mono (by omega)) E.m__law_take E.F__law_take.kp E.b__law_take (fun _ _ _ _ q => q.1) .nil (fun _ => .nil) (jas_cons (jv 0) (jas_cons (j_int) (jas_nil)))) (j_int)) (jss_one (js_set (i := 2) sc__law_form.nd (j_op op_addD (j_op op_addD (jv 2) (j_str [63])) (j_ix (jv 1) (j_call [] (ok__law_take E k) (hr.mono (by omega)) E.m__law_take E.F__law_take.kp E.b__law_take (fun _ _ _ _ q => q.1) .nil (fun _ => .nil) (jas_cons (jv 0) (jas_cons (j_callB (call_lenD0) E.z_len bt_len (jas_cons (jv 1) (jas_nil))) (jas_nil)))))))) (jss_nil))
    (jss_one (js_ret (jv 2)))))))
def l__law_title_1 : DS := dSeq (dAsg (dOp ixD (dVar 1) (dCall D__law_take [] (dCons (dVar 0) (dCons (dCB (lenR) (dCons (dVar 1) (dNil))) (dNil))))) (gNm 4))
  (dDrop (dBM "list" appendR (dVar 2) (dCons (dOp ixD (dLst (dCons (dVar 4) (dCons (dBM0 "str" upperR (dVar 4)) (dNil)))) (dCall D__law_take [] (dCons (dVar 0) (dCons (dC (.int 2)) (dNil))))) (dNil))))
def r__law_title_1 : DS := dRet (dIfE (dTest (dOp (eqR true) (dVar 2) (dLst (dNil)))) (dBM "str" joinR (dC (.str [32])) (dCons (dVar 2) (dNil))) (dC .non))
def r__law_title : DS := dSeq (dAsg (dLst (dNil)) (gNm 2))
  (dSeq (dFor (dRng1 (dCons (dCall D__law_take [] (dCons (dVar 0) (dCons (dC (.int 4)) (dNil)))) (dNil))) (gNm 3) (l__law_title_1))
  (r__law_title_1))
def D__law_title : DSp := runD 2 5 r__law_title
theorem ok__law_title {P : Program} {w : World} {base : Heap} (E : Env w base K mg) (k : Nat) : FnG P w K mg base CX0 (k + 2) E.a__law_title E.d__law_title ["_law_pot_here", "_law_words_here"] (lSp P w K 2 D__law_title) := fnok_of E.F__law_title sc__law_title rfl (fun cdv A outer s H Eo B hP hw hr => by
  subst hP hw
  have hB : B.P = B.P ∧ B.w = B.w := ⟨rfl, rfl⟩
  unfold r__law_title
  unfold r__law_title_1
  unfold l__law_title_1
  exact jss_cons (js_set (i := 2) sc__law_title.nd (j_lst (jas_nil)))
    (jss_cons (js_for PassesOwn.never rfl (ji_range1 E.z_range (jas_cons (j_call [] (ok__law_take E k) (hr.mono (by omega)) E.m__law_take E.F__law_take.kp E.b__law_take (fun _ _ _ _ q => q.1) .nil (fun _ => .nil) (jas_cons (jv 0) (jas_cons (j_int) (jas_nil)))) (jas_nil))) (jg_name (i := 3) sc__law_title.nd) (jss_cons (js_set (i := 4) sc__law_title.nd (j_ix (jv 1) (j_call [] (ok__law_take E k) (hr.mono (by omega)) E.m__law_take E.F__law_take.kp E.b__law_take (fun _ _ _ _ q => q.1) .nil (fun _ => .nil) (jas_cons (jv 0) (jas_cons (j_callB (call_lenD0) E.z_len bt_len (jas_cons (jv 1) (jas_nil))) (jas_nil))))))
    (jss_one (js_expr (j_bm PySem.F.plainAttrs_list PySem.F.slot_list_append PySem.F.type_list_append mt_appendD (jv 2) (jas_cons (j_ix (j_lst (jas_cons (jv 4) (jas_cons (j_bm0 PySem.F.plainAttrs_str PySem.F.slot_str_upper PySem.F.type_str_upper mt_upperD (jv 4)) (jas_nil)))) (j_call [] (ok__law_take E k) (hr.mono (by omega)) E.m__law_take E.F__law_take.kp E.b__law_take (fun _ _ _ _ q => q.1) .nil (fun _ => .nil) (jas_cons (jv 0) (jas_cons (j_int) (jas_nil))))) (jas_nil)))))))
    (jss_one (js_ret (j_ifExp (jt_cmp (op_neD (room70 hr)) (jv 2) (j_lst (jas_nil))) (j_bm PySem.F.plainAttrs_str PySem.F.slot_str_join PySem.F.type_str_join mt_joinD (j_str [32]) (jas_cons (jv 2) (jas_nil))) (j_non))))))
def l__law_pages_1 : DS := dSeq (dPar 8 9 (dCons (dCall D__law_form [] (dCons (dVar 0) (dCons (dVar 1) (dNil)))) (dCons (dCall D__law_title [] (dCons (dVar 0) (dCons (dVar 1) (dNil)))) (dNil))))
  (dSeq (dAsg (dCall D__law_some [] (dCons (dVar 0) (dCons (dOp addD (dLst (dCons (dTup (dNil)) (dNil))) (dCB (listR) (dCons (dVar 3) (dNil)))) (dCons (dC (.int 3)) (dNil))))) (gNm 7))
  (dSetI (dVar 5) (dVar 8) (dTup (dCons (dVar 8) (dCons (dVar 9) (dCons (dCall D__law_some [] (dCons (dVar 0) (dCons (dVar 2) (dCons (dC (.int 3)) (dNil))))) (dCons (dIfE (dTest (dOp (eqR true) (dVar 7) (dTup (dNil)))) (dVar 7) (dTup (dCons (dTup (dNil)) (dNil)))) (dNil))))))))
def r__law_pages_1 : DS := dRet (dCB tupleR (dCons (dLc (dOver (dCB sortedR (dCons (dVar 5) (dNil)))) (gNm 8) (dYes) (dGetI (dVar 5) (dVar 8)) [8]) (dNil)))
def r__law_pages : DS := dSeq (dAsg (dAlt (dEmp) (dEmpG)) (gNm 5))
  (dSeq (dFor (dRng1 (dCons (dCall D__law_take [] (dCons (dVar 0) (dCons (dOp addD (dVar 4) (dC (.int 1))) (dNil)))) (dNil))) (gNm 6) (l__law_pages_1))
  (r__law_pages_1))
def D__law_pages : DSp := runD 5 10 r__law_pages
theorem ok__law_pages {P : Program} {w : World} {base : Heap} (E : Env w base K mg) (k : Nat) : FnG P w K mg base CX0 (k + 3) E.a__law_pages E.d__law_pages ["_law_pot_here", "_law_words_here", "_law_marks", "_law_folders_here", "_law_upto"] (lSp P w K 5 D__law_pages) := fnok_of E.F__law_pages sc__law_pages rfl (fun cdv A outer s H Eo B hP hw hr => by
  subst hP hw
  have hB : B.P = B.P ∧ B.w = B.w := ⟨rfl, rfl⟩
  unfold r__law_pages
  unfold r__law_pages_1
  unfold l__law_pages_1
  exact jss_cons (js_set (i := 5) sc__law_pages.nd (j_alt (j_emp) (j_empG hB)))
    (jss_cons (js_for PassesOwn.never rfl (ji_range1 E.z_range (jas_cons (j_call [] (ok__law_take E k) (hr.mono (by omega)) E.m__law_take E.F__law_take.kp E.b__law_take (fun _ _ _ _ q => q.1) .nil (fun _ => .nil) (jas_cons (jv 0) (jas_cons (j_op op_addD (jv 4) (j_int)) (jas_nil)))) (jas_nil))) (jg_name (i := 6) sc__law_pages.nd) (jss_cons (js_par (i := 8) (j := 9) rfl sc__law_pages.nd (jas_cons (j_call [] (ok__law_form E k) (hr.mono (by omega)) E.m__law_form E.F__law_form.kp E.b__law_form (fun _ _ _ _ q => q.1) .nil (fun _ => .nil) (jas_cons (jv 0) (jas_cons (jv 1) (jas_nil)))) (jas_cons (j_call [] (ok__law_title E k) (hr.mono (by omega)) E.m__law_title E.F__law_title.kp E.b__law_title (fun _ _ _ _ q => q.1) .nil (fun _ => .nil) (jas_cons (jv 0) (jas_cons (jv 1) (jas_nil)))) (jas_nil))))
    (jss_cons (js_set (i := 7) sc__law_pages.nd (j_call [] (ok__law_some E k) (hr.mono (by omega)) E.m__law_some E.F__law_some.kp E.b__law_some (fun _ _ _ _ q => q.1) .nil (fun _ => .nil) (jas_cons (jv 0) (jas_cons (j_op op_addD (j_lst (jas_cons (j_tup (jas_nil)) (jas_nil))) (j_callTy (KB.call_listD) E.z_list bt_list (jas_cons (jv 3) (jas_nil)))) (jas_cons (j_int) (jas_nil))))))
    (jss_one (js_sset hB (room20 hr) (jv 5) (jv 8) (j_tup (jas_cons (jv 8) (jas_cons (jv 9) (jas_cons (j_call [] (ok__law_some E k) (hr.mono (by omega)) E.m__law_some E.F__law_some.kp E.b__law_some (fun _ _ _ _ q => q.1) .nil (fun _ => .nil) (jas_cons (jv 0) (jas_cons (jv 2) (jas_cons (j_int) (jas_nil))))) (jas_cons (j_ifExp (jt_cmp (op_neD (room70 hr)) (jv 7) (j_tup (jas_nil))) (jv 7) (j_tup (jas_cons (j_tup (jas_nil)) (jas_nil)))) (jas_nil)))))))))))
    (jss_one (js_ret (j_callTy call_tupleD E.z_tuple bt_tuple (jas_cons (j_lc [("_law_form_here", 8)] rfl sc__law_pages.nd (ji_list (j_callB (call_sortedD hB (room70 hr) rfl) E.z_sorted bt_sorted (jas_cons (jv 5) (jas_nil)))) (gl_name) (fun _ _ _ _ _ => pg_name (i := 8) sc__law_pages.nd rfl (.inl rfl)) (fun _ _ _ _ _ => jts_nil) (fun _ _ _ _ _ => j_dget hB (room20 hr) (jv 5) (jv 8)) (ok := by kernel_rfl)) (jas_nil)))))))
def r_Listing____init__ : DS := dSeq (dSetF "Listing" "folders" (dVar 0) (dVar 1))
  (dSeq (dSetF "Listing" "pages" (dVar 0) (dVar 2))
  (dSetF "Listing" "pairs" (dVar 0) (dVar 3)))
def D_Listing____init__ : DSp := runD 4 4 r_Listing____init__
theorem ok_Listing____init__ {P : Program} {w : World} {base : Heap} (E : Env w base K mg) (k : Nat) : FnG P w K mg base CX0 (k + 1) E.a_Listing____init__ E.d_Listing____init__ ["self", "folders", "pages", "pairs"] (lSp P w K 4 D_Listing____init__) := fnok_of E.F_Listing____init__ sc_Listing____init__ rfl (fun cdv A outer s H Eo B hP hw hr => by
  subst hP hw
  have hB : B.P = B.P ∧ B.w = B.w := ⟨rfl, rfl⟩
  unfold r_Listing____init__
  exact jss_cons (js_fset E.cn_Listing E.na_Listing_folders (jv 0) (jv 1))
    (jss_cons (js_fset E.cn_Listing E.na_Listing_pages (jv 0) (jv 2))
    (jss_one (js_fset E.cn_Listing E.na_Listing_pairs (jv 0) (jv 3)))))
def l__law_words_1 : DS := dAsg (dOp addD (dVar 4) (dOp ixD (dVar 3) (dCall D__law_take [] (dCons (dVar 0) (dCons (dC (.int 37)) (dNil)))))) (gNm 4)
def r__law_words_1 : DS := dSeq (dAsg (dTup (dCons (dCall D__law_take [] (dCons (dVar 0) (dCons (dOp addD (dCB (lenR) (dCons (dVar 4) (dNil))) (dC (.int 1))) (dNil)))) (dCons (dCall D__law_take [] (dCons (dVar 0) (dCons (dC (.int 37)) (dNil)))) (dCons (dOp addD (dC (.int 1)) (dCall D__law_take [] (dCons (dVar 0) (dCons (dC (.int 36)) (dNil))))) (dNil))))) (gTp 3 (gCn (gNm 5) (gCn (gNm 6) (gCn (gNm 7) (gNl))))))
  (dRet (dLc (dRng1 (dCons (dVar 1) (dNil))) (gNm 2) (dYes) (dOp addD (dOp addD (dSl (dVar 4) (dNoP) (dPart (dVar 5))) (dOp ixD (dVar 3) (dOp modD (dOp addD (dVar 6) (dOp mulD (dVar 7) (dVar 2))) (dC (.int 37))))) (dSl (dVar 4) (dPart (dVar 5)) (dNoP))) [2]))
def r__law_words : DS := dSeq (dAsg (dTup (dCons (dC (.str [97, 98, 99, 100, 101, 102, 103, 104, 105, 106, 107, 108, 109, 110, 111, 112, 113, 114, 115, 116, 117, 118, 119, 120, 121, 122, 48, 49, 50, 51, 52, 53, 54, 55, 56, 57, 45])) (dCons (dC (.str [])) (dNil)))) (gTp 2 (gCn (gNm 3) (gCn (gNm 4) (gNl)))))
  (dSeq (dFor (dRng1 (dCons (dCall D__law_take [] (dCons (dVar 0) (dCons (dC (.int 12)) (dNil)))) (dNil))) (gNm 2) (l__law_words_1))
  (r__law_words_1))
def D__law_words : DSp := runD 2 8 r__law_words
theorem ok__law_words {P : Program} {w : World} {base : Heap} (E : Env w base K mg) (k : Nat) : FnG P w K mg base CX0 (k + 2) E.a__law_words E.d__law_words ["_law_pot_here", "_law_many"] (lSp P w K 2 D__law_words) := fnok_of E.F__law_words sc__law_words rfl (fun cdv A outer s H Eo B hP hw hr => by
  subst hP hw
  have hB : B.P = B.P ∧ B.w = B.w := ⟨rfl, rfl⟩
  unfold r__law_words
  unfold r__law_words_1
  unfold l__law_words_1
  exact jss_cons (js_asg (j_tup (jas_cons (j_str [97, 98, 99, 100, 101, 102, 103, 104, 105, 106, 107, 108, 109, 110, 111, 112, 113, 114, 115, 116, 117, 118, 119, 120, 121, 122, 48, 49, 50, 51, 52, 53, 54, 55, 56, 57, 45]) (jas_cons (j_str []) (jas_nil)))) (jg_tup rfl (jgs_cons (jg_name (i := 3) sc__law_words.nd) (jgs_cons (jg_name (i := 4) sc__law_words.nd) (jgs_nil)))))
    (jss_cons (js_for PassesOwn.never rfl (ji_range1 E.z_range (jas_cons (j_call [] (ok__law_take E k) (hr.mono (by omega)) E.m__law_take E.F__law_take.kp E.b__law_take (fun _ _ _ _ q => q.1) .nil (fun _ => .nil) (jas_cons (jv 0) (jas_cons (j_int) (jas_nil)))) (jas_nil))) (jg_name (i := 2) sc__law_words.nd) (jss_one (js_set (i := 4) sc__law_words.nd (j_op op_addD (jv 4) (j_ix (jv 3) (j_call [] (ok__law_take E k) (hr.mono (by omega)) E.m__law_take E.F__law_take.kp E.b__law_take (fun _ _ _ _ q => q.1) .nil (fun _ => .nil) (jas_cons (jv 0) (jas_cons (j_int) (jas_nil)))))))))
    (jss_cons (js_asg (j_tup (jas_cons (j_call [] (ok__law_take E k) (hr.mono (by omega)) E.m__law_take E.F__law_take.kp E.b__law_take (fun _ _ _ _ q => q.1) .nil (fun _ => .nil) (jas_cons (jv 0) (jas_cons (j_op op_addD (j_callB (call_lenD0) E.z_len bt_len (jas_cons (jv 4) (jas_nil))) (j_int)) (jas_nil)))) (jas_cons (j_call [] (ok__law_take E k) (hr.mono (by omega)) E.m__law_take E.F__law_take.kp E.b__law_take (fun _ _ _ _ q => q.1) .nil (fun _ => .nil) (jas_cons (jv 0) (jas_cons (j_int) (jas_nil)))) (jas_cons (j_op op_addD (j_int) (j_call [] (ok__law_take E k) (hr.mono (by omega)) E.m__law_take E.F__law_take.kp E.b__law_take (fun _ _ _ _ q => q.1) .nil (fun _ => .nil) (jas_cons (jv 0) (jas_cons (j_int) (jas_nil))))) (jas_nil))))) (jg_tup rfl (jgs_cons (jg_name (i := 5) sc__law_words.nd) (jgs_cons (jg_name (i := 6) sc__law_words.nd) (jgs_cons (jg_name (i := 7) sc__law_words.nd) (jgs_nil))))))
    (jss_one (js_ret (j_lc [("_law_k", 2)] rfl sc__law_words.nd (ji_range1 E.z_range (jas_cons (jv 1) (jas_nil))) (gl_name) (fun _ _ _ _ _ => pg_name (i := 2) sc__law_words.nd rfl (.inl rfl)) (fun _ _ _ _ _ => jts_nil) (fun _ _ _ _ _ => j_op op_addD (j_op op_addD (j_slice (jv 4) (jo_none) (jo_some (jv 5))) (j_ix (jv 3) (j_op op_modD (j_op op_addD (jv 6) (j_op op_mulD (jv 7) (jv 2))) (j_int)))) (j_slice (jv 4) (jo_some (jv 5)) (jo_none))) (ok := by kernel_rfl)))))))
def l__law_folders_1 : DS := dSeq (dAsg (dOp addD (dOp ixD (dVar 3) (dCall D__law_take [] (dCons (dVar 0) (dCons (dCB (lenR) (dCons (dVar 3) (dNil))) (dNil))))) (dTup (dCons (dOp ixD (dVar 1) (dCall D__law_take [] (dCons (dVar 0) (dCons (dCB (lenR) (dCons (dVar 1) (dNil))) (dNil))))) (dNil)))) (gNm 5))
  (dIf (dTest (dOp (inR true) (dVar 5) (dVar 3))) (dDrop (dBM "list" appendR (dVar 3) (dCons (dVar 5) (dNil)))) (dNext))
def r__law_folders_1 : DS := dRet (dCB tupleR (dCons (dSl (dCB sortedR (dCons (dVar 3) (dNil))) (dPart (dC (.int 1))) (dNoP)) (dNil)))
def r__law_folders : DS := dSeq (dAsg (dLst (dCons (dTup (dNil)) (dNil))) (gNm 3))
  (dSeq (dFor (dRng1 (dCons (dCall D__law_take [] (dCons (dVar 0) (dCons (dOp addD (dVar 2) (dC (.int 1))) (dNil)))) (dNil))) (gNm 4) (l__law_folders_1))
  (r__law_folders_1))
def D__law_folders : DSp := runD 3 6 r__law_folders
theorem ok__law_folders {P : Program} {w : World} {base : Heap} (E : Env w base K mg) (k : Nat) : FnG P w K mg base CX0 (k + 2) E.a__law_folders E.d__law_folders ["_law_pot_here", "_law_words_here", "_law_upto"] (lSp P w K 3 D__law_folders) := fnok_of E.F__law_folders sc__law_folders rfl (fun cdv A outer s H Eo B hP hw hr => by
  subst hP hw
  have hB : B.P = B.P ∧ B.w = B.w := ⟨rfl, rfl⟩
  unfold r__law_folders
  unfold r__law_folders_1
  unfold l__law_folders_1
  exact jss_cons (js_set (i := 3) sc__law_folders.nd (j_lst (jas_cons (j_tup (jas_nil)) (jas_nil))))
    (jss_cons (js_for PassesOwn.never rfl (ji_range1 E.z_range (jas_cons (j_call [] (ok__law_take E k) (hr.mono (by omega)) E.m__law_take E.F__law_take.kp E.b__law_take (fun _ _ _ _ q => q.1) .nil (fun _ => .nil) (jas_cons (jv 0) (jas_cons (j_op op_addD (jv 2) (j_int)) (jas_nil)))) (jas_nil))) (jg_name (i := 4) sc__law_folders.nd) (jss_cons (js_set (i := 5) sc__law_folders.nd (j_op op_addD (j_ix (jv 3) (j_call [] (ok__law_take E k) (hr.mono (by omega)) E.m__law_take E.F__law_take.kp E.b__law_take (fun _ _ _ _ q => q.1) .nil (fun _ => .nil) (jas_cons (jv 0) (jas_cons (j_callB (call_lenD0) E.z_len bt_len (jas_cons (jv 3) (jas_nil))) (jas_nil))))) (j_tup (jas_cons (j_ix (jv 1) (j_call [] (ok__law_take E k) (hr.mono (by omega)) E.m__law_take E.F__law_take.kp E.b__law_take (fun _ _ _ _ q => q.1) .nil (fun _ => .nil) (jas_cons (jv 0) (jas_cons (j_callB (call_lenD0) E.z_len bt_len (jas_cons (jv 1) (jas_nil))) (jas_nil))))) (jas_nil)))))
    (jss_one (js_if (jt_cmp (op_niD (room80 hr)) (jv 5) (jv 3)) (jss_one (js_expr (j_bm PySem.F.plainAttrs_list PySem.F.slot_list_append PySem.F.type_list_append mt_appendD (jv 3) (jas_cons (jv 5) (jas_nil))))) (jss_nil)))))
    (jss_one (js_ret (j_callTy call_tupleD E.z_tuple bt_tuple (jas_cons (j_slice (j_callB (call_sortedD hB (room70 hr) rfl) E.z_sorted bt_sorted (jas_cons (jv 3) (jas_nil))) (jo_some (j_int)) (jo_none)) (jas_nil)))))))
def l__law_pairs_1 : DS := dSeq (dPar 5 6 (dCons (dCall D__law_take [] (dCons (dVar 0) (dCons (dCB (lenR) (dCons (dVar 1) (dNil))) (dNil)))) (dCons (dCall D__law_take [] (dCons (dVar 0) (dCons (dCB (lenR) (dCons (dVar 1) (dNil))) (dNil)))) (dNil))))
  (dIf (dTest (dOp (eqR true) (dVar 5) (dVar 6))) (dSetI (dVar 3) (dTup (dCons (dOp ixD (dVar 1) (dCB min2R (dCons (dVar 5) (dCons (dVar 6) (dNil))))) (dCons (dOp ixD (dVar 1) (dCB max2R (dCons (dVar 5) (dCons (dVar 6) (dNil))))) (dNil)))) (dC (.bl true))) (dNext))
def r__law_pairs_1 : DS := dRet (dCB tupleR (dCons (dCB sortedR (dCons (dVar 3) (dNil))) (dNil)))
def r__law_pairs : DS := dSeq (dAsg (dAlt (dEmp) (dEmpG)) (gNm 3))
  (dSeq (dFor (dRng1 (dCons (dCall D__law_take [] (dCons (dVar 0) (dCons (dOp addD (dVar 2) (dC (.int 1))) (dNil)))) (dNil))) (gNm 4) (l__law_pairs_1))
  (r__law_pairs_1))
def D__law_pairs : DSp := runD 3 7 r__law_pairs
theorem ok__law_pairs {P : Program} {w : World} {base : Heap} (E : Env w base K mg) (k : Nat) : FnG P w K mg base CX0 (k + 2) E.a__law_pairs E.d__law_pairs ["_law_pot_here", "_law_marks", "_law_upto"] (lSp P w K 3 D__law_pairs) := fnok_of E.F__law_pairs sc__law_pairs rfl (fun cdv A outer s H Eo B hP hw hr => by
  subst hP hw
  have hB : B.P = B.P ∧ B.w = B.w := ⟨rfl, rfl⟩
  unfold r__law_pairs
  unfold r__law_pairs_1
  unfold l__law_pairs_1
  exact jss_cons (js_set (i := 3) sc__law_pairs.nd (j_alt (j_emp) (j_empG hB)))
    (jss_cons (js_for PassesOwn.never rfl (ji_range1 E.z_range (jas_cons (j_call [] (ok__law_take E k) (hr.mono (by omega)) E.m__law_take E.F__law_take.kp E.b__law_take (fun _ _ _ _ q => q.1) .nil (fun _ => .nil) (jas_cons (jv 0) (jas_cons (j_op op_addD (jv 2) (j_int)) (jas_nil)))) (jas_nil))) (jg_name (i := 4) sc__law_pairs.nd) (jss_cons (js_par (i := 5) (j := 6) rfl sc__law_pairs.nd (jas_cons (j_call [] (ok__law_take E k) (hr.mono (by omega)) E.m__law_take E.F__law_take.kp E.b__law_take (fun _ _ _ _ q => q.1) .nil (fun _ => .nil) (jas_cons (jv 0) (jas_cons (j_callB (call_lenD0) E.z_len bt_len (jas_cons (jv 1) (jas_nil))) (jas_nil)))) (jas_cons (j_call [] (ok__law_take E k) (hr.mono (by omega)) E.m__law_take E.F__law_take.kp E.b__law_take (fun _ _ _ _ q => q.1) .nil (fun _ => .nil) (jas_cons (jv 0) (jas_cons (j_callB (call_lenD0) E.z_len bt_len (jas_cons (jv 1) (jas_nil))) (jas_nil)))) (jas_nil))))
    (jss_one (js_if (jt_cmp (op_neD (room70 hr)) (jv 5) (jv 6)) (jss_one (js_sset hB (room20 hr) (jv 3) (j_tup (jas_cons (j_ix (jv 1) (j_callB (call_min2D rfl) E.z_min bt_min (jas_cons (jv 5) (jas_cons (jv 6) (jas_nil))))) (jas_cons (j_ix (jv 1) (j_callB (call_max2D rfl) E.z_max bt_max (jas_cons (jv 5) (jas_cons (jv 6) (jas_nil))))) (jas_nil)))) (j_bl))) (jss_nil)))))
    (jss_one (js_ret (j_callTy call_tupleD E.z_tuple bt_tuple (jas_cons (j_callB (call_sortedD hB (room70 hr) rfl) E.z_sorted bt_sorted (jas_cons (jv 3) (jas_nil))) (jas_nil)))))))
def r_is_word_1 : DS := dRet (dCB allR (dCons (dLc (dOverS (dVar 0)) (gNm 1) (dYes) (dOp (inSR false) (dVar 1) (dC (.str [97, 98, 99, 100, 101, 102, 103, 104, 105, 106, 107, 108, 109, 110, 111, 112, 113, 114, 115, 116, 117, 118, 119, 120, 121, 122, 48, 49, 50, 51, 52, 53, 54, 55, 56, 57, 45]))) [1]) (dNil)))
def r_is_word : DS := dSeq (dIf (dOr (dNot (dTru (dCB isiR (dCons (dVar 0) (dCons (dC (.ty "str")) dNil))))) (dNot (dTest (dChain (leD) (leD) (dC (.int 1)) (dCB (lenR) (dCons (dVar 0) (dNil))) (dC (.int 12)))))) (dRet (dC (.bl false))) (dNext))
  (r_is_word_1)
def D_is_word : DSp := runD 1 2 r_is_word
theorem ok_is_word {P : Program} {w : World} {base : Heap} (E : Env w base K mg) (k : Nat) : FnG P w K mg base CX0 (k + 1) E.a_is_word E.d_is_word ["thing"] (lSp P w K 1 D_is_word) := fnok_of E.F_is_word sc_is_word rfl (fun cdv A outer s H Eo B hP hw hr => by
  subst hP hw
  have hB : B.P = B.P ∧ B.w = B.w := ⟨rfl, rfl⟩
  unfold r_is_word
  unfold r_is_word_1
  exact jss_cons (js_if (jt_w (jw_or (jt_not (jt_tru (j_callB call_isiD E.z_isinstance bt_isinstance (jas_cons (jv 0) (jas_cons (j_tyName "str" E.z_str bt_str) jas_nil))))) (jw_or1 (jt_not (jt_chain (op_leD) (op_leD) (j_int) (j_callB (call_lenD0) E.z_len bt_len (jas_cons (jv 0) (jas_nil))) (j_globI E.c_MOST_SIGNS)))))) (jss_one (js_ret (j_bl))) (jss_nil))
    (jss_one (js_ret (j_callB (call_allD rfl) E.z_all bt_all (jas_cons (j_lc [("sign", 1)] rfl sc_is_word.nd (ji_str (jv 0)) (gl_name) (fun _ _ _ _ _ => pg_name (i := 1) sc_is_word.nd rfl (.inl rfl)) (fun _ _ _ _ _ => jts_nil) (fun _ _ _ _ _ => j_cmp (op_inSD) (jv 1) (j_globS [97, 98, 99, 100, 101, 102, 103, 104, 105, 106, 107, 108, 109, 110, 111, 112, 113, 114, 115, 116, 117, 118, 119, 120, 121, 122, 48, 49, 50, 51, 52, 53, 54, 55, 56, 57, 45] E.c_WORD_SIGNS)) (ok := by kernel_rfl)) (jas_nil))))))
def r_is_path : DS := dRet (dAndT (dCB isiR (dCons (dVar 0) (dCons (dC (.ty "tuple")) dNil))) (dCB allR (dCons (dLc (dOverT (dVar 0)) (gNm 1) (dYes) (dCall D_is_word [] (dCons (dVar 1) (dNil))) [1]) (dNil))))
def D_is_path : DSp := runD 1 2 r_is_path
theorem ok_is_path {P : Program} {w : World} {base : Heap} (E : Env w base K mg) (k : Nat) : FnG P w K mg base CX0 (k + 2) E.a_is_path E.d_is_path ["thing"] (lSp P w K 1 D_is_path) := fnok_of E.F_is_path sc_is_path rfl (fun cdv A outer s H Eo B hP hw hr => by
  subst hP hw
  have hB : B.P = B.P ∧ B.w = B.w := ⟨rfl, rfl⟩
  unfold r_is_path
  exact jss_one (js_ret (j_and (j_callB call_isiD E.z_isinstance bt_isinstance (jas_cons (jv 0) (jas_cons (j_tyName "tuple" E.z_tuple bt_tuple) jas_nil))) (j_one (j_callB (call_allD rfl) E.z_all bt_all (jas_cons (j_lc [("word", 1)] rfl sc_is_path.nd (ji_tup (jv 0)) (gl_name) (fun _ _ _ _ _ => pg_name (i := 1) sc_is_path.nd rfl (.inl rfl)) (fun _ _ _ _ _ => jts_nil) (fun _ _ _ _ _ => j_call [] (ok_is_word E k) (hr.mono (by omega)) E.m_is_word E.F_is_word.kp E.b_is_word (fun _ _ _ _ q => q.1) .nil (fun _ => .nil) (jas_cons (jv 1) (jas_nil))) (ok := by kernel_rfl)) (jas_nil)))))))
def r_path_in_1 : DS := dRet (dVar 1)
def r_path_in_2 : DS := dSeq (dAsg (dCB tupleR (dCons (dBM "str" splitR (dVar 0) (dCons (dC (.str [47])) (dNil))) (dNil))) (gNm 1))
  (dSeq (dIf (dNot (dTru (dCall D_is_path [] (dCons (dVar 1) (dNil))))) (dRet (dC .non)) (dNext))
  (r_path_in_1))
def r_path_in : DS := dSeq (dIf (dTest (dOp (eqR false) (dVar 0) (dC (.str [])))) (dRet (dTup (dNil))) (dNext))
  (r_path_in_2)
def D_path_in : DSp := runD 1 2 r_path_in
theorem ok_path_in {P : Program} {w : World} {base : Heap} (E : Env w base K mg) (k : Nat) : FnG P w K mg base CX0 (k + 3) E.a_path_in E.d_path_in ["text"] (lSp P w K 1 D_path_in) := fnok_of E.F_path_in sc_path_in rfl (fun cdv A outer s H Eo B hP hw hr => by
  subst hP hw
  have hB : B.P = B.P ∧ B.w = B.w := ⟨rfl, rfl⟩
  unfold r_path_in
  unfold r_path_in_2
  unfold r_path_in_1
  exact jss_cons (js_if (jt_cmp (op_eqD (room70 hr)) (jv 0) (j_str [])) (jss_one (js_ret (j_tup (jas_nil)))) (jss_nil))
    (jss_cons (js_set (i := 1) sc_path_in.nd (j_callTy call_tupleD E.z_tuple bt_tuple (jas_cons (j_bm PySem.F.plainAttrs_str PySem.F.slot_str_split PySem.F.type_str_split mt_splitD (jv 0) (jas_cons (j_str [47]) (jas_nil))) (jas_nil))))
    (jss_cons (js_if (jt_not (jt_tru (j_call [] (ok_is_path E k) (hr.mono (by omega)) E.m_is_path E.F_is_path.kp E.b_is_path (fun _ _ _ _ q => q.1) .nil (fun _ => .nil) (jas_cons (jv 1) (jas_nil))))) (jss_one (js_ret (j_non))) (jss_nil))
    (jss_one (js_ret (jv 1))))))
def r_is_plain_word_1 : DS := dRet (dC (.bl true))
def r_is_plain_word_2 : DS := dSeq (dIf (dTru (dBM "str" startsR (dVar 0) (dCons (dC (.str [47])) (dNil)))) (dRet (dOp (isNR true) (dCall D_path_in [] (dCons (dSl (dVar 0) (dPart (dC (.int 1))) (dNoP)) (dNil))) (dC .non))) (dNext))
  (r_is_plain_word_1)
def r_is_plain_word_3 : DS := dSeq (dIf (dTru (dBM "str" startsR (dVar 0) (dCons (dC (.str [43])) (dNil)))) (dRet (dCall D_is_word [] (dCons (dSl (dVar 0) (dPart (dC (.int 1))) (dNoP)) (dNil)))) (dNext))
  (r_is_plain_word_2)
def r_is_plain_word : DS := dSeq (dIf (dOr (dTest (dOp (eqR false) (dVar 0) (dC (.str [])))) (dOr (dTest (dOp (eqR false) (dVar 0) (dC (.str [124])))) (dOr (dTest (dOp (inSR false) (dC (.str [32])) (dVar 0))) (dTru (dBM "str" startsR (dVar 0) (dCons (dC (.str [45])) (dNil))))))) (dRet (dC (.bl false))) (dNext))
  (r_is_plain_word_3)
def D_is_plain_word : DSp := runD 1 1 r_is_plain_word
theorem ok_is_plain_word {P : Program} {w : World} {base : Heap} (E : Env w base K mg) (k : Nat) : FnG P w K mg base CX0 (k + 4) E.a_is_plain_word E.d_is_plain_word ["word"] (lSp P w K 1 D_is_plain_word) := fnok_of E.F_is_plain_word sc_is_plain_word rfl (fun cdv A outer s H Eo B hP hw hr => by
  subst hP hw
  have hB : B.P = B.P ∧ B.w = B.w := ⟨rfl, rfl⟩
  unfold r_is_plain_word
  unfold r_is_plain_word_3
  unfold r_is_plain_word_2
  unfold r_is_plain_word_1
  exact jss_cons (js_if (jt_w (jw_or (jt_cmp (op_eqD (room70 hr)) (jv 0) (j_str [])) (jw_or (jt_cmp (op_eqD (room70 hr)) (jv 0) (j_str [124])) (jw_or (jt_cmp (op_inSD) (j_str [32]) (jv 0)) (jw_or1 (jt_tru (j_bm PySem.F.plainAttrs_str PySem.F.slot_str_startswith PySem.F.type_str_startswith mt_startsD (jv 0) (jas_cons (j_str [45]) (jas_nil))))))))) (jss_one (js_ret (j_bl))) (jss_nil))
    (jss_cons (js_if (jt_tru (j_bm PySem.F.plainAttrs_str PySem.F.slot_str_startswith PySem.F.type_str_startswith mt_startsD (jv 0) (jas_cons (j_str [43]) (jas_nil)))) (jss_one (js_ret (j_call [] (ok_is_word E k) (hr.mono (by omega)) E.m_is_word E.F_is_word.kp E.b_is_word (fun _ _ _ _ q => q.1) .nil (fun _ => .nil) (jas_cons (j_slice (jv 0) (jo_some (j_int)) (jo_none)) (jas_nil))))) (jss_nil))
    (jss_cons (js_if (jt_tru (j_bm PySem.F.plainAttrs_str PySem.F.slot_str_startswith PySem.F.type_str_startswith mt_startsD (jv 0) (jas_cons (j_str [47]) (jas_nil)))) (jss_one (js_ret (j_cmp (op_isNND) (j_call [] (ok_path_in E k) (hr.mono (by omega)) E.m_path_in E.F_path_in.kp E.b_path_in (fun _ _ _ _ q => q.1) .nil (fun _ => .nil) (jas_cons (j_slice (jv 0) (jo_some (j_int)) (jo_none)) (jas_nil))) (j_non)))) (jss_nil))
    (jss_one (js_ret (j_bl))))))
def r_is_search_word_1 : DS := dRet (dCall D_is_plain_word [] (dCons (dVar 0) (dNil)))
def r_is_search_word_2 : DS := dSeq (dIf (dTru (dBM "str" startsR (dVar 0) (dCons (dC (.str [45])) (dNil)))) (dRet (dCall D_is_plain_word [] (dCons (dSl (dVar 0) (dPart (dC (.int 1))) (dNoP)) (dNil)))) (dNext))
  (r_is_search_word_1)
def r_is_search_word : DS := dSeq (dIf (dNot (dTru (dCB isiR (dCons (dVar 0) (dCons (dC (.ty "str")) dNil))))) (dRet (dC (.bl false))) (dNext))
  (r_is_search_word_2)
def D_is_search_word : DSp := runD 1 1 r_is_search_word
theorem ok_is_search_word {P : Program} {w : World} {base : Heap} (E : Env w base K mg) (k : Nat) : FnG P w K mg base CX0 (k + 5) E.a_is_search_word E.d_is_search_word ["thing"] (lSp P w K 1 D_is_search_word) := fnok_of E.F_is_search_word sc_is_search_word rfl (fun cdv A outer s H Eo B hP hw hr => by
  subst hP hw
  have hB : B.P = B.P ∧ B.w = B.w := ⟨rfl, rfl⟩
  unfold r_is_search_word
  unfold r_is_search_word_2
  unfold r_is_search_word_1
  exact jss_cons (js_if (jt_not (jt_tru (j_callB call_isiD E.z_isinstance bt_isinstance (jas_cons (jv 0) (jas_cons (j_tyName "str" E.z_str bt_str) jas_nil))))) (jss_one (js_ret (j_bl))) (jss_nil))
    (jss_cons (js_if (jt_tru (j_bm PySem.F.plainAttrs_str PySem.F.slot_str_startswith PySem.F.type_str_startswith mt_startsD (jv 0) (jas_cons (j_str [45]) (jas_nil)))) (jss_one (js_ret (j_call [] (ok_is_plain_word E k) (hr.mono (by omega)) E.m_is_plain_word E.F_is_plain_word.kp E.b_is_plain_word (fun _ _ _ _ q => q.1) .nil (fun _ => .nil) (jas_cons (j_slice (jv 0) (jo_some (j_int)) (jo_none)) (jas_nil))))) (jss_nil))
    (jss_one (js_ret (j_call [] (ok_is_plain_word E k) (hr.mono (by omega)) E.m_is_plain_word E.F_is_plain_word.kp E.b_is_plain_word (fun _ _ _ _ q => q.1) .nil (fun _ => .nil) (jas_cons (jv 0) (jas_nil)))))))
def l_look_at_words_1 (W : DX) : DS := dIf (dNot (dTru (dCall D_is_search_word [] (dCons (dVar 2) (dNil))))) (dRaise "NoWord" ["word"] (dCons (dVar 2) (dNil)) W) (dNext)
def l_look_at_words_2 (W : DX) : DS := dFor (dOverT (dVar 1)) (gNm 2) (l_look_at_words_1 W)
def r_look_at_words (W : DX) : DS := dFor (dOverT (dVar 0)) (gNm 1) (l_look_at_words_2 W)
def D_look_at_words : DSp := runX 1 3 r_look_at_words
theorem ok_look_at_words {P : Program} {w : World} {base : Heap} (E : Env w base K mg) (k : Nat) : FnG P w K mg base (L2.CX P w) (k + 6) E.a_look_at_words E.d_look_at_words ["rows"] (lSpX P w K 1 D_look_at_words) := fnok_ofX E.F_look_at_words sc_look_at_words rfl (fun cdv A outer s H Eo B W hP hw hr tk ps => by
  subst hP hw
  have hB : B.P = B.P ∧ B.w = B.w := ⟨rfl, rfl⟩
  unfold r_look_at_words
  unfold l_look_at_words_2
  unfold l_look_at_words_1
  exact jss_one (js_for ps rfl (ji_tup (jv 0)) (jg_name (i := 1) sc_look_at_words.nd) (jss_one (js_for ps rfl (ji_tup (jv 1)) (jg_name (i := 2) sc_look_at_words.nd) (jss_one (js_if (jt_not (jt_tru (j_call [] (ok_is_search_word E k) (hr.mono (by omega)) E.m_is_search_word E.F_is_search_word.kp E.b_is_search_word (fun _ _ _ _ q => q.1) .nil (fun _ => .nil) (jas_cons (jv 2) (jas_nil))))) (jss_one (js_raise rfl tk E.xn_NoWord E.T_NoWord E.ic_NoWord E.ti_NoWord (okI_NoWord E k) (hr.mono (by omega)) E.b_NoWord____init__ E.mc_NoWord (jas_cons (jv 2) (jas_nil)))) (jss_nil)))))))
def r_Sought____init__ : DS := dSeq (dSetF "Sought" "sought_in" (dVar 0) (dVar 1))
  (dSetF "Sought" "bearers" (dVar 0) (dAlt (dEmp) (dEmpG)))
def D_Sought____init__ : DSp := runD 2 2 r_Sought____init__
theorem ok_Sought____init__ {P : Program} {w : World} {base : Heap} (E : Env w base K mg) (k : Nat) : FnG P w K mg base CX0 (k + 1) E.a_Sought____init__ E.d_Sought____init__ ["self", "listing"] (lSp P w K 2 D_Sought____init__) := fnok_of E.F_Sought____init__ sc_Sought____init__ rfl (fun cdv A outer s H Eo B hP hw hr => by
  subst hP hw
  have hB : B.P = B.P ∧ B.w = B.w := ⟨rfl, rfl⟩
  unfold r_Sought____init__
  exact jss_cons (js_fset E.cn_Sought E.na_Sought_sought_in (jv 0) (jv 1))
    (jss_one (js_fset E.cn_Sought E.na_Sought_bearers (jv 0) (j_alt (j_emp) (j_empG hB)))))
def l_led_to_1 : DS := dIf (dAnd (dTest (dOp (eqR false) (dVar 5) (dVar 4))) (dTest (dOp (inDR true) (dVar 6) (dVar 2)))) (dSeq (dSetI (dVar 2) (dVar 6) (dC (.bl true)))
  (dDrop (dBM "list" appendR (dVar 3) (dCons (dVar 6) (dNil))))) (dNext)
def l_led_to_2 : DS := dSeq (dAsg (dBM0 "list" popR (dVar 3)) (gNm 4))
  (dFor (dOver (dVar 1)) (gTp 2 (gCn (gNm 5) (gCn (gNm 6) (gNl)))) (l_led_to_1))
def r_led_to_1 : DS := dRet (dCB tupleR (dCons (dCB sortedR (dCons (dVar 2) (dNil))) (dNil)))
def r_led_to : DS := dSeq (dAsg (dDisp ((dVar 0, dC (.bl true)) :: ([]))) (gNm 2))
  (dSeq (dAsg (dLst (dCons (dVar 0) (dNil))) (gNm 3))
  (dSeq (dWhile (dTest (dOp (eqZR true) (dVar 3) (dLst (dNil)))) (l_led_to_2))
  (r_led_to_1)))
def D_led_to : DSp := runD 2 7 r_led_to
theorem ok_led_to {P : Program} {w : World} {base : Heap} (E : Env w base K mg) (k : Nat) : FnG P w K mg base CX0 (k + 1) E.a_led_to E.d_led_to ["begun", "links"] (lSp P w K 2 D_led_to) := fnok_of E.F_led_to sc_led_to rfl (fun cdv A outer s H Eo B hP hw hr => by
  subst hP hw
  have hB : B.P = B.P ∧ B.w = B.w := ⟨rfl, rfl⟩
  unfold r_led_to
  unfold r_led_to_1
  unfold l_led_to_2
  unfold l_led_to_1
  exact jss_cons (js_set (i := 2) sc_led_to.nd (j_disp (jps_cons (jv 0) (j_bl) (jps_nil))))
    (jss_cons (js_set (i := 3) sc_led_to.nd (j_lst (jas_cons (jv 0) (jas_nil))))
    (jss_cons (js_while PassesOwn.never (jt_cmp (op_neZ (room70 hr)) (jv 3) (j_lst (jas_nil))) (jss_cons (js_set (i := 4) sc_led_to.nd (j_bm0 PySem.F.plainAttrs_list PySem.F.slot_list_pop PySem.F.type_list_pop mt_popD (jv 3)))
    (jss_one (js_for PassesOwn.never rfl (ji_list (jv 1)) (jg_tup rfl (jgs_cons (jg_name (i := 5) sc_led_to.nd) (jgs_cons (jg_name (i := 6) sc_led_to.nd) (jgs_nil)))) (jss_one (js_if (jt_w (jw_and (jt_cmp (op_eqD (room70 hr)) (jv 5) (jv 4)) (jw_and1 (jt_cmp (op_niKD hB (room20 hr)) (jv 6) (jv 2))))) (jss_cons (js_sset hB (room20 hr) (jv 2) (jv 6) (j_bl))
    (jss_one (js_expr (j_bm PySem.F.plainAttrs_list PySem.F.slot_list_append PySem.F.type_list_append mt_appendD (jv 3) (jas_cons (jv 6) (jas_nil)))))) (jss_nil)))))))
    (jss_one (js_ret (j_callTy call_tupleD E.z_tuple bt_tuple (jas_cons (j_callB (call_sortedD hB (room70 hr) rfl) E.z_sorted bt_sorted (jas_cons (jv 2) (jas_nil))) (jas_nil))))))))
def r_inside : DS := dRet (dCall D_led_to [] (dCons (dVar 1) (dCons (dLc (dOverT (dVar 0)) (gTp 2 (gCn (gNm 2) (gCn (gNm 3) (gNl)))) (dYes) (dTup (dCons (dVar 3) (dCons (dVar 2) (dNil)))) [2, 3]) (dNil))))
def D_inside : DSp := runD 2 4 r_inside
theorem ok_inside {P : Program} {w : World} {base : Heap} (E : Env w base K mg) (k : Nat) : FnG P w K mg base CX0 (k + 2) E.a_inside E.d_inside ["pairs", "mark"] (lSp P w K 2 D_inside) := fnok_of E.F_inside sc_inside rfl (fun cdv A outer s H Eo B hP hw hr => by
  subst hP hw
  have hB : B.P = B.P ∧ B.w = B.w := ⟨rfl, rfl⟩
  unfold r_inside
  exact jss_one (js_ret (j_call [] (ok_led_to E k) (hr.mono (by omega)) E.m_led_to E.F_led_to.kp E.b_led_to (fun _ _ _ _ q => q.1) .nil (fun _ => .nil) (jas_cons (jv 1) (jas_cons (j_lc [("inner", 2), ("outer", 3)] rfl sc_inside.nd (ji_tup (jv 0)) (gl_tup (gls_cons (gl_name) (gls_cons (gl_name) (gls_nil)))) (fun _ _ _ _ _ => pg_tup rfl (pgs_cons (pg_name (i := 2) sc_inside.nd rfl (.inl rfl)) (pgs_cons (pg_name (i := 3) sc_inside.nd rfl (.inl rfl)) (pgs_nil)))) (fun _ _ _ _ _ => jts_nil) (fun _ _ _ _ _ => j_tup (jas_cons (jv 3) (jas_cons (jv 2) (jas_nil)))) (ok := by kernel_rfl)) (jas_nil))))))
def r_Listing__marked : DS := dSeq (dAsg (dCall D_inside [] (dCons (dFld "Listing" "pairs" (dVar 0)) (dCons (dVar 1) (dNil)))) (gNm 2))
  (dRet (dCB tupleR (dCons (dLc (dOverT (dFld "Listing" "pages" (dVar 0))) (gNm 3) (dTru (dCB anyR (dCons (dLc (dAltI (dOverS (dOp ixD (dVar 3) (dC (.int 2)))) (dOverT (dOp ixD (dVar 3) (dC (.int 2))))) (gNm 4) (dYes) (dOp (inR false) (dVar 4) (dVar 2)) [4]) (dNil)))) (dOp ixD (dVar 3) (dC (.int 0))) [3]) (dNil))))
def D_Listing__marked : DSp := runD 2 5 r_Listing__marked
theorem ok_Listing__marked {P : Program} {w : World} {base : Heap} (E : Env w base K mg) (k : Nat) : FnG P w K mg base CX0 (k + 3) E.a_Listing__marked E.d_Listing__marked ["self", "mark"] (lSp P w K 2 D_Listing__marked) := fnok_of E.F_Listing__marked sc_Listing__marked rfl (fun cdv A outer s H Eo B hP hw hr => by
  subst hP hw
  have hB : B.P = B.P ∧ B.w = B.w := ⟨rfl, rfl⟩
  unfold r_Listing__marked
  exact jss_cons (js_set (i := 2) sc_Listing__marked.nd (j_call [] (ok_inside E k) (hr.mono (by omega)) E.m_inside E.F_inside.kp E.b_inside (fun _ _ _ _ q => q.1) .nil (fun _ => .nil) (jas_cons (j_fld E.cn_Listing E.na_Listing_pairs (jv 0)) (jas_cons (jv 1) (jas_nil)))))
    (jss_one (js_ret (j_callTy call_tupleD E.z_tuple bt_tuple (jas_cons (j_lc [("page", 3)] rfl sc_Listing__marked.nd (ji_tup (j_fld E.cn_Listing E.na_Listing_pages (jv 0))) (gl_name) (fun _ _ _ _ _ => pg_name (i := 3) sc_Listing__marked.nd rfl (.inl rfl)) (fun _ _ _ _ _ => jts_one (jt_tru (j_callB (call_anyD rfl) E.z_any bt_any (jas_cons (j_lc [("one", 4)] rfl sc_Listing__marked.nd (ji_alt (ji_str (j_ix (jv 3) (j_int))) (ji_tup (j_ix (jv 3) (j_int)))) (gl_name) (fun _ _ _ _ _ => pg_name (i := 4) sc_Listing__marked.nd rfl (.inl rfl)) (fun _ _ _ _ _ => jts_nil) (fun _ _ _ _ _ => j_cmp (op_inD (room80 hr)) (jv 4) (jv 2)) (ok := by kernel_rfl)) (jas_nil))))) (fun _ _ _ _ _ => j_ix (jv 3) (j_int)) (ok := by kernel_rfl)) (jas_nil))))))
def r_Sought__bears_1 : DS := dRet (dOp (inDR false) (dVar 1) (dGetI (dFld "Sought" "bearers" (dVar 0)) (dVar 2)))
def r_Sought__bears : DS := dSeq (dIf (dTest (dOp (inDR true) (dVar 2) (dFld "Sought" "bearers" (dVar 0)))) (dSetI (dFld "Sought" "bearers" (dVar 0)) (dVar 2) (dCB (altR (dictPR) (dictGR)) (dCons (dLc (dOverT (dMeth "Listing" "marked" D_Listing__marked [] (dFld "Sought" "sought_in" (dVar 0)) (dCons (dVar 2) (dNil)))) (gNm 3) (dYes) (dTup (dCons (dVar 3) (dCons (dC (.bl true)) (dNil)))) [3]) (dNil)))) (dNext))
  (r_Sought__bears_1)
def D_Sought__bears : DSp := runD 3 4 r_Sought__bears
theorem ok_Sought__bears {P : Program} {w : World} {base : Heap} (E : Env w base K mg) (k : Nat) : FnG P w K mg base CX0 (k + 4) E.a_Sought__bears E.d_Sought__bears ["self", "form", "mark"] (lSp P w K 3 D_Sought__bears) := fnok_of E.F_Sought__bears sc_Sought__bears rfl (fun cdv A outer s H Eo B hP hw hr => by
  subst hP hw
  have hB : B.P = B.P ∧ B.w = B.w := ⟨rfl, rfl⟩
  unfold r_Sought__bears
  unfold r_Sought__bears_1
  exact jss_cons (js_if (jt_cmp (op_niKD hB (room20 hr)) (jv 2) (j_fld E.cn_Sought E.na_Sought_bearers (jv 0))) (jss_one (js_sset hB (room20 hr) (j_fld E.cn_Sought E.na_Sought_bearers (jv 0)) (jv 2) (j_callTy (call_alt (call_dictPD rfl) (call_dictGD rfl hB (room20 hr))) E.z_dict bt_dict (jas_cons (j_lc [("one", 3)] rfl sc_Sought__bears.nd (ji_tup (j_meth [] E.cn_Listing E.mt_Listing_marked (ok_Listing__marked E k) (hr.mono (by omega)) E.b_Listing__marked (fun _ _ _ _ q => q.1) .nil (fun _ => .nil) (j_fld E.cn_Sought E.na_Sought_sought_in (jv 0)) (jas_cons (jv 2) (jas_nil)))) (gl_name) (fun _ _ _ _ _ => pg_name (i := 3) sc_Sought__bears.nd rfl (.inl rfl)) (fun _ _ _ _ _ => jts_nil) (fun _ _ _ _ _ => j_tup (jas_cons (jv 3) (jas_cons (j_bl) (jas_nil)))) (ok := by kernel_rfl)) (jas_nil))))) (jss_nil))
    (jss_one (js_ret (j_cmp (op_inKD hB (room20 hr)) (jv 1) (j_dget hB (room20 hr) (j_fld E.cn_Sought E.na_Sought_bearers (jv 0)) (jv 2))))))
def r_lies_within : DS := dRet (dCB anyR (dCons (dLc (dAltI (dOverS (dVar 0)) (dOverT (dVar 0))) (gNm 2) (dYes) (dOp (eqR false) (dSl (dVar 2) (dNoP) (dPart (dCB (lenR) (dCons (dVar 1) (dNil))))) (dVar 1)) [2]) (dNil)))
def D_lies_within : DSp := runD 2 3 r_lies_within
theorem ok_lies_within {P : Program} {w : World} {base : Heap} (E : Env w base K mg) (k : Nat) : FnG P w K mg base CX0 (k + 1) E.a_lies_within E.d_lies_within ["paths", "path"] (lSp P w K 2 D_lies_within) := fnok_of E.F_lies_within sc_lies_within rfl (fun cdv A outer s H Eo B hP hw hr => by
  subst hP hw
  have hB : B.P = B.P ∧ B.w = B.w := ⟨rfl, rfl⟩
  unfold r_lies_within
  exact jss_one (js_ret (j_callB (call_anyD rfl) E.z_any bt_any (jas_cons (j_lc [("one", 2)] rfl sc_lies_within.nd (ji_alt (ji_str (jv 0)) (ji_tup (jv 0))) (gl_name) (fun _ _ _ _ _ => pg_name (i := 2) sc_lies_within.nd rfl (.inl rfl)) (fun _ _ _ _ _ => jts_nil) (fun _ _ _ _ _ => j_cmp (op_eqD (room70 hr)) (j_slice (jv 2) (jo_none) (jo_some (j_callB (call_lenD0) E.z_len bt_len (jas_cons (jv 1) (jas_nil))))) (jv 1)) (ok := by kernel_rfl)) (jas_nil)))))
def r_Sought__fits_1 (F : DSp) : DS := dRet (dOrT (dOp (inTR) (dVar 2) (dVar 3)) (dAndT (dOp (isNR true) (dVar 4) (dC .non)) (dOp (inTR) (dVar 2) (dBM0 "str" lowerR (dVar 4)))))
def r_Sought__fits_2 (F : DSp) : DS := dSeq (dIf (dTru (dBM "str" startsR (dVar 2) (dCons (dC (.str [47])) (dNil)))) (dRet (dCall D_lies_within [] (dCons (dVar 6) (dCons (dCall D_path_in [] (dCons (dSl (dVar 2) (dPart (dC (.int 1))) (dNoP)) (dNil))) (dNil))))) (dNext))
  ((r_Sought__fits_1 F))
def r_Sought__fits_3 (F : DSp) : DS := dSeq (dIf (dTru (dBM "str" startsR (dVar 2) (dCons (dC (.str [43])) (dNil)))) (dRet (dMeth "Sought" "bears" D_Sought__bears [] (dVar 0) (dCons (dVar 3) (dCons (dSl (dVar 2) (dPart (dC (.int 1))) (dNoP)) (dNil))))) (dNext))
  ((r_Sought__fits_2 F))
def r_Sought__fits (F : DSp) : DS := dSeq (dAsg (dVar 1) (gTp 4 (gCn (gNm 3) (gCn (gNm 4) (gCn (gNm 5) (gCn (gNm 6) (gNl)))))))
  (dSeq (dIf (dTru (dBM "str" startsR (dVar 2) (dCons (dC (.str [45])) (dNil)))) (dRet (dNotT (dMeth "Sought" "fits" F [] (dVar 0) (dCons (dVar 1) (dCons (dSl (dVar 2) (dPart (dC (.int 1))) (dNoP)) (dNil)))))) (dNext))
  ((r_Sought__fits_3 F)))
def DO_Sought__fits : Nat → DSp
  | 0 => fun _ _ _ _ => False
  | n + 1 => runD 3 7 (r_Sought__fits (DO_Sought__fits n))
theorem DO_len_Sought__fits : ∀ i ds C Q E, DO_Sought__fits i ds C Q E → ds.length = 3
  | 0, _, _, _, _, h => h.elim
  | _ + 1, _, _, _, _, h => h.1
def D_Sought__fits : DSp := DO_Sought__fits 4
theorem okS_Sought__fits {P : Program} {w : World} {base : Heap} (E : Env w base K mg) (F : DSp) (m k : Nat) (hm : 4 ≤ m) (hl : ∀ ds C Q E, F ds C Q E → ds.length = 3) (hF : FnG P w K mg base CX0 (k + m) E.a_Sought__fits E.d_Sought__fits ["self", "page", "word"] (lSp P w K 3 F)) : FnG P w K mg base CX0 (k + m + 1) E.a_Sought__fits E.d_Sought__fits ["self", "page", "word"] (lSp P w K 3 (runD 3 7 (r_Sought__fits F))) := fnok_of E.F_Sought__fits sc_Sought__fits rfl (fun cdv A outer s H Eo B hP hw hr => by
  subst hP hw
  have hB : B.P = B.P ∧ B.w = B.w := ⟨rfl, rfl⟩
  unfold r_Sought__fits
  unfold r_Sought__fits_3
  unfold r_Sought__fits_2
  unfold r_Sought__fits_1
  exact jss_cons (js_asg (jv 1) (jg_tup rfl (jgs_cons (jg_name (i := 3) sc_Sought__fits.nd) (jgs_cons (jg_name (i := 4) sc_Sought__fits.nd) (jgs_cons (jg_name (i := 5) sc_Sought__fits.nd) (jgs_cons (jg_name (i := 6) sc_Sought__fits.nd) (jgs_nil)))))))
    (jss_cons (js_if (jt_tru (j_bm PySem.F.plainAttrs_str PySem.F.slot_str_startswith PySem.F.type_str_startswith mt_startsD (jv 2) (jas_cons (j_str [45]) (jas_nil)))) (jss_one (js_ret (j_not (j_meth [] E.cn_Sought E.mt_Sought_fits hF (hr.mono (by omega)) E.b_Sought__fits hl .nil (fun _ => .nil) (jv 0) (jas_cons (jv 1) (jas_cons (j_slice (jv 2) (jo_some (j_int)) (jo_none)) (jas_nil))))))) (jss_nil))
    (jss_cons (js_if (jt_tru (j_bm PySem.F.plainAttrs_str PySem.F.slot_str_startswith PySem.F.type_str_startswith mt_startsD (jv 2) (jas_cons (j_str [43]) (jas_nil)))) (jss_one (js_ret (j_meth [] E.cn_Sought E.mt_Sought_bears (ok_Sought__bears E k) (hr.mono (by omega)) E.b_Sought__bears (fun _ _ _ _ q => q.1) .nil (fun _ => .nil) (jv 0) (jas_cons (jv 3) (jas_cons (j_slice (jv 2) (jo_some (j_int)) (jo_none)) (jas_nil)))))) (jss_nil))
    (jss_cons (js_if (jt_tru (j_bm PySem.F.plainAttrs_str PySem.F.slot_str_startswith PySem.F.type_str_startswith mt_startsD (jv 2) (jas_cons (j_str [47]) (jas_nil)))) (jss_one (js_ret (j_call [] (ok_lies_within E k) (hr.mono (by omega)) E.m_lies_within E.F_lies_within.kp E.b_lies_within (fun _ _ _ _ q => q.1) .nil (fun _ => .nil) (jas_cons (jv 6) (jas_cons (j_call [] (ok_path_in E k) (hr.mono (by omega)) E.m_path_in E.F_path_in.kp E.b_path_in (fun _ _ _ _ q => q.1) .nil (fun _ => .nil) (jas_cons (j_slice (jv 2) (jo_some (j_int)) (jo_none)) (jas_nil))) (jas_nil)))))) (jss_nil))
    (jss_one (js_ret (j_or (j_cmp (op_inTD) (jv 2) (jv 3)) (j_one (j_and (j_cmp (op_isNND) (jv 4) (j_non)) (j_one (j_cmp (op_inTD) (jv 2) (j_bm0 PySem.F.plainAttrs_str PySem.F.slot_str_lower PySem.F.type_str_lower mt_lowerD (jv 4)))))))))))))
theorem okO_Sought__fits {P : Program} {w : World} {base : Heap} (E : Env w base K mg) (k : Nat) : ∀ i, FnG P w K mg base CX0 (k + (4 + i)) E.a_Sought__fits E.d_Sought__fits ["self", "page", "word"] (lSp P w K 3 (DO_Sought__fits i))
  | 0 => ⟨fun vs H Q E h => (lSp_false h).elim, fun A out s H as us vs Q E g r e b rv h => (lSp_false h).elim⟩
  | i + 1 => okS_Sought__fits E (DO_Sought__fits i) (4 + i) k (by omega) (DO_len_Sought__fits i) (okO_Sought__fits E k i)
theorem ok_Sought__fits {P : Program} {w : World} {base : Heap} (E : Env w base K mg) (k : Nat) : FnG P w K mg base CX0 (k + 8) E.a_Sought__fits E.d_Sought__fits ["self", "page", "word"] (lSp P w K 3 D_Sought__fits) := okO_Sought__fits E k 4
def r_Sought__fits_row : DS := dRet (dCB allR (dCons (dLc (dOverT (dVar 2)) (gNm 3) (dYes) (dMeth "Sought" "fits" D_Sought__fits [] (dVar 0) (dCons (dVar 1) (dCons (dVar 3) (dNil)))) [3]) (dNil)))
def D_Sought__fits_row : DSp := runD 3 4 r_Sought__fits_row
theorem ok_Sought__fits_row {P : Program} {w : World} {base : Heap} (E : Env w base K mg) (k : Nat) : FnG P w K mg base CX0 (k + 9) E.a_Sought__fits_row E.d_Sought__fits_row ["self", "page", "row"] (lSp P w K 3 D_Sought__fits_row) := fnok_of E.F_Sought__fits_row sc_Sought__fits_row rfl (fun cdv A outer s H Eo B hP hw hr => by
  subst hP hw
  have hB : B.P = B.P ∧ B.w = B.w := ⟨rfl, rfl⟩
  unfold r_Sought__fits_row
  exact jss_one (js_ret (j_callB (call_allD rfl) E.z_all bt_all (jas_cons (j_lc [("word", 3)] rfl sc_Sought__fits_row.nd (ji_tup (jv 2)) (gl_name) (fun _ _ _ _ _ => pg_name (i := 3) sc_Sought__fits_row.nd rfl (.inl rfl)) (fun _ _ _ _ _ => jts_nil) (fun _ _ _ _ _ => j_meth [] E.cn_Sought E.mt_Sought_fits (ok_Sought__fits E k) (hr.mono (by omega)) E.b_Sought__fits (fun _ _ _ _ q => q.1) .nil (fun _ => .nil) (jv 0) (jas_cons (jv 1) (jas_cons (jv 3) (jas_nil)))) (ok := by kernel_rfl)) (jas_nil)))))
def r_search_1 (W : DX) : DS := dRet (dCB tupleR (dCons (dVar 8) (dNil)))
def r_search_2 (W : DX) : DS := dSeq (dIf (dTest (dOp (isNR true) (dVar 4) (dC .non))) (dAsg (dSl (dVar 8) (dNoP) (dPart (dVar 4))) (gNm 8)) (dNext))
  (r_search_1 W)
def r_search_3 (W : DX) : DS := dSeq (dAsg (dMake "Sought" D_Sought____init__ [] (dCons (dVar 0) (dNil))) (gNm 5))
  (dSeq (dAsg (dLc (dOverT (dFld "Listing" "pages" (dVar 0))) (gNm 9) (dTru (dCB anyR (dCons (dLc (dOverT (dVar 1)) (gNm 10) (dYes) (dMeth "Sought" "fits_row" D_Sought__fits_row [] (dVar 5) (dCons (dVar 9) (dCons (dVar 10) (dNil)))) [10]) (dNil)))) (dVar 9) [9]) (gNm 6))
  (dSeq (dAsg (dKItem tb_ORDERS (dVar 2)) (gNm 7))
  (dSeq (dAsg (dLc (dOver (dSortKf "search" "search.<locals>.<lambda>" [("address_key", keyA), ("title_key", keyT), ("marks_key", keyM)] 7 (dCons (dVar 6) (dNil)))) (gNm 9) (dYes) (dOp ixD (dVar 9) (dC (.int 0))) [9]) (gNm 8))
  (dSeq (dIf (dTru (dVar 3)) (dDrop (dBM0 "list" revR (dVar 8))) (dNext))
  (r_search_2 W)))))
def r_search (W : DX) : DS := dSeq (dDrop (dCallX D_look_at_words [] (dCons (dVar 1) (dNil)) W))
  (dSeq (dIf (dOr (dNot (dTru (dCB isiR (dCons (dVar 2) (dCons (dC (.ty "str")) dNil))))) (dTest (dKIn true tb_ORDERS (dVar 2)))) (dRaise "NoOrder" ["order"] (dCons (dVar 2) (dNil)) W) (dNext))
  (r_search_3 W))
def D_search : DSp := runX 5 11 r_search
theorem ok_search {P : Program} {w : World} {base : Heap} (E : Env w base K mg) (k : Nat) : FnG P w K mg base (L2.CX P w) (k + 14) E.a_search E.d_search ["listing", "rows", "order", "back", "most"] (lSpX P w K 5 D_search) := fnok_ofXDC E.F_search sc_search rfl (fun cdv hcv A outer s H Eo B W hP hw hr tk ps => by
  subst hP hw
  have hB : B.P = B.P ∧ B.w = B.w := ⟨rfl, rfl⟩
  unfold r_search
  unfold r_search_3
  unfold r_search_2
  unfold r_search_1
  exact jss_cons (js_expr (j_callX tk [] (ok_look_at_words E k) (hr.mono (by omega)) E.m_look_at_words E.F_look_at_words.kp E.b_look_at_words (fun _ _ _ _ q => q.1) .nil (fun _ => .nil) (jas_cons (jv 1) (jas_nil))))
    (jss_cons (js_if (jt_w (jw_or (jt_not (jt_tru (j_callB call_isiD E.z_isinstance bt_isinstance (jas_cons (jv 2) (jas_cons (j_tyName "str" E.z_str bt_str) jas_nil))))) (jw_or1 (jt_knin E.v_ORDERS E.c_ORDERS (jv 2))))) (jss_one (js_raise rfl tk E.xn_NoOrder E.T_NoOrder E.ic_NoOrder E.ti_NoOrder (okI_NoOrder E k) (hr.mono (by omega)) E.b_NoOrder____init__ E.mc_NoOrder (jas_cons (jv 2) (jas_nil)))) (jss_nil))
    (jss_cons (js_set (i := 5) sc_search.nd (j_make [] E.cn_Sought E.mk_Sought (ok_Sought____init__ E k) (hr.mono (by omega)) E.mc_Sought E.b_Sought____init__ (fun _ _ _ _ q => q.1) .nil (fun _ => .nil) (jas_cons (jv 0) (jas_nil))))
    (jss_cons (js_setLc (i := 6) [("page", 9)] rfl sc_search.nd (ji_tup (j_fld E.cn_Listing E.na_Listing_pages (jv 0))) (gl_name) (fun _ _ _ _ _ => pg_name (i := 9) sc_search.nd rfl (.inr rfl)) (fun _ _ _ _ _ => jts_one (jt_tru (j_callB (call_anyD rfl) E.z_any bt_any (jas_cons (j_lc [("row", 10)] rfl sc_search.nd (ji_tup (jv 1)) (gl_name) (fun _ _ _ _ _ => pg_name (i := 10) sc_search.nd rfl (.inl rfl)) (fun _ _ _ _ _ => jts_nil) (fun _ _ _ _ _ => j_meth [] E.cn_Sought E.mt_Sought_fits_row (ok_Sought__fits_row E k) (hr.mono (by omega)) E.b_Sought__fits_row (fun _ _ _ _ q => q.1) .nil (fun _ => .nil) (jv 5) (jas_cons (jv 9) (jas_cons (jv 10) (jas_nil)))) (ok := by kernel_rfl)) (jas_nil))))) (fun _ _ _ _ _ => jv 9) (ok := by kernel_rfl) (by rfl))
    (jss_cons (js_set (i := 7) sc_search.nd (j_kitem E.v_ORDERS E.c_ORDERS (jv 2)))
    (jss_cons (js_setLc (i := 8) [("page", 9)] rfl sc_search.nd (ji_list (j_sortKf2 (n := "search") (q := "search.<locals>.<lambda>") hB (hr.mono (by omega)) rfl E.lmTB_search E.lmTK_search (hcv.symm.trans E.lmc_search) rfl ⟨fun q cl pm cv ctv v => rfl, rfl, by decide, rfl, rfl, rfl⟩ rfl (by decide) (by decide) (by decide) (by decide) rfl (.inl rfl) rfl rfl (keys_cons (keyRun_adr E.g_address_key E.F_address_key ⟨rfl, fun _ _ _ _ _ _ _ => rfl, rfl, by decide, rfl, rfl, rfl⟩ (by decide)) (keys_cons (keyRun_title E.g_title_key E.F_title_key ⟨rfl, fun _ _ _ _ _ _ _ => rfl, rfl, by decide, rfl, rfl, rfl⟩ (by decide)) (keys_cons (keyRun_marks E.g_marks_key E.F_marks_key ⟨rfl, fun _ _ _ _ _ _ _ => rfl, rfl, by decide, rfl, rfl, rfl⟩ rfl E.z_len (by decide)) (keys_nil)))) E.z_sorted (jas_cons (jv 6) (jas_nil)))) (gl_name) (fun _ _ _ _ _ => pg_name (i := 9) sc_search.nd rfl (.inl rfl)) (fun _ _ _ _ _ => jts_nil) (fun _ _ _ _ _ => j_ix (jv 9) (j_int)) (ok := by kernel_rfl) (by rfl))
    (jss_cons (js_if (jt_tru (jv 3)) (jss_one (js_expr (j_bm0 PySem.F.plainAttrs_list PySem.F.slot_list_reverse PySem.F.type_list_reverse mt_revD (jv 8)))) (jss_nil))
    (jss_cons (js_if (jt_cmp (op_isNND) (jv 4) (j_non)) (jss_one (js_set (i := 8) sc_search.nd (j_slice (jv 8) (jo_none) (jo_some (jv 4))))) (jss_nil))
    (jss_one (js_ret (j_callTy call_tupleD E.z_tuple bt_tuple (jas_cons (jv 8) (jas_nil)))))))))))))
def r__law_searched_1 : DS := dRet (dCallX D_search [] (dCons (dVar 1) (dCons (dVar 2) (dCons (dVar 3) (dCons (dVar 4) (dCons (dVar 5) (dNil)))))) (fun _ _ _ => False))
def r__law_searched_2 : DS := dSeq (dIf (dTest (dOp (eqR false) (dVar 3) (dC (.str [97, 100, 100, 114, 101, 115, 115])))) (dRet (dCallW D_search 2 2 [.p 0, .p 1, .d 0, .k 1, .k 0] [.str [97, 100, 100, 114, 101, 115, 115], .bl false, .non] (dCons (dVar 1) (dCons (dVar 2) (dNil))) (dCons (dVar 5) (dCons (dVar 4) (dNil))) (fun _ _ _ => False))) (dNext))
  (r__law_searched_1)
def r__law_searched_3 : DS := dSeq (dIf (dAnd (dNot (dTru (dVar 4))) (dTest (dOp (isNR false) (dVar 5) (dC .non)))) (dRet (dCallW D_search 2 1 [.p 0, .p 1, .k 0, .d 1, .d 2] [.str [97, 100, 100, 114, 101, 115, 115], .bl false, .non] (dCons (dVar 1) (dCons (dVar 2) (dNil))) (dCons (dVar 3) (dNil)) (fun _ _ _ => False))) (dNext))
  (r__law_searched_2)
def r__law_searched : DS := dSeq (dIf (dAnd (dTest (dOp (eqR false) (dVar 3) (dC (.str [97, 100, 100, 114, 101, 115, 115])))) (dAnd (dNot (dTru (dVar 4))) (dAnd (dTest (dOp (isNR false) (dVar 5) (dC .non))) (dTest (dOp (eqR false) (dCall D__law_take [] (dCons (dVar 0) (dCons (dC (.int 2)) (dNil)))) (dC (.int 0))))))) (dRet (dCallX D_search [.str [97, 100, 100, 114, 101, 115, 115], .bl false, .non] (dCons (dVar 1) (dCons (dVar 2) (dNil))) (fun _ _ _ => False))) (dNext))
  (r__law_searched_3)
def D__law_searched : DSp := runD 6 6 r__law_searched
theorem ok__law_searched {P : Program} {w : World} {base : Heap} (E : Env w base K mg) (k : Nat) : FnG P w K mg base CX0 (k + 15) E.a__law_searched E.d__law_searched ["_law_pot_here", "_law_told", "_law_rows", "_law_ranked_by", "_law_turn_about", "_law_limit"] (lSp P w K 6 D__law_searched) := fnok_of E.F__law_searched sc__law_searched rfl (fun cdv A outer s H Eo B hP hw hr => by
  subst hP hw
  have hB : B.P = B.P ∧ B.w = B.w := ⟨rfl, rfl⟩
  unfold r__law_searched
  unfold r__law_searched_3
  unfold r__law_searched_2
  unfold r__law_searched_1
  exact jss_cons (js_if (jt_w (jw_and (jt_cmp (op_eqD (room70 hr)) (jv 3) (j_str [97, 100, 100, 114, 101, 115, 115])) (jw_and (jt_not (jt_tru (jv 4))) (jw_and (jt_cmp (op_isND) (jv 5) (j_non)) (jw_and1 (jt_cmp (op_eqD (room70 hr)) (j_call [] (ok__law_take E k) (hr.mono (by omega)) E.m__law_take E.F__law_take.kp E.b__law_take (fun _ _ _ _ q => q.1) .nil (fun _ => .nil) (jas_cons (jv 0) (jas_cons (j_int) (jas_nil)))) (j_int))))))) (jss_one (js_ret (j_callX takesF [.str [97, 100, 100, 114, 101, 115, 115], .bl false, .non] (ok_search E k) (hr.mono (by omega)) E.m_search E.F_search.kp E.b_search_2 (fun _ _ _ _ q => q.1) E.v_search_2 (fun _ => .cons rfl (.cons rfl (.cons rfl (.nil)))) (jas_cons (jv 1) (jas_cons (jv 2) (jas_nil)))))) (jss_nil))
    (jss_cons (js_if (jt_w (jw_and (jt_not (jt_tru (jv 4))) (jw_and1 (jt_cmp (op_isND) (jv 5) (j_non))))) (jss_one (js_ret (j_callWX takesF [.str [97, 100, 100, 114, 101, 115, 115], .bl false, .non] (ok_search E k) (hr.mono (by omega)) E.m_search E.F_search.kp E.kw_search_0 (fun _ _ _ _ q => q.1) (fun _ => .cons rfl (.cons rfl (.cons rfl (.nil)))) (jas_cons (jv 1) (jas_cons (jv 2) (jas_nil))) (jk_cons (jv 3) (jk_nil))))) (jss_nil))
    (jss_cons (js_if (jt_cmp (op_eqD (room70 hr)) (jv 3) (j_str [97, 100, 100, 114, 101, 115, 115])) (jss_one (js_ret (j_callWX takesF [.str [97, 100, 100, 114, 101, 115, 115], .bl false, .non] (ok_search E k) (hr.mono (by omega)) E.m_search E.F_search.kp E.kw_search_1 (fun _ _ _ _ q => q.1) (fun _ => .cons rfl (.cons rfl (.cons rfl (.nil)))) (jas_cons (jv 1) (jas_cons (jv 2) (jas_nil))) (jk_cons (jv 5) (jk_cons (jv 4) (jk_nil)))))) (jss_nil))
    (jss_one (js_ret (j_callX takesF [] (ok_search E k) (hr.mono (by omega)) E.m_search E.F_search.kp E.b_search_5 (fun _ _ _ _ q => q.1) E.v_search_5 (fun _ => .nil) (jas_cons (jv 1) (jas_cons (jv 2) (jas_cons (jv 3) (jas_cons (jv 4) (jas_cons (jv 5) (jas_nil))))))))))))
def l__law_inside_1 : DS := dIf (dAnd (dTest (dOp (inR false) (dVar 5) (dVar 2))) (dTest (dOp (inR true) (dVar 4) (dVar 2)))) (dDrop (dBM "list" appendR (dVar 2) (dCons (dVar 4) (dNil)))) (dNext)
def l__law_inside_2 : DS := dFor (dOverT (dVar 0)) (gTp 2 (gCn (gNm 4) (gCn (gNm 5) (gNl)))) (l__law_inside_1)
def r__law_inside_1 : DS := dRet (dVar 2)
def r__law_inside : DS := dSeq (dAsg (dLst (dCons (dVar 1) (dNil))) (gNm 2))
  (dSeq (dFor (dOverT (dVar 0)) (gNm 3) (l__law_inside_2))
  (r__law_inside_1))
def D__law_inside : DSp := runD 2 6 r__law_inside
theorem ok__law_inside {P : Program} {w : World} {base : Heap} (E : Env w base K mg) (k : Nat) : FnG P w K mg base CX0 (k + 1) E.a__law_inside E.d__law_inside ["_law_pairs_here", "_law_mark"] (lSp P w K 2 D__law_inside) := fnok_of E.F__law_inside sc__law_inside rfl (fun cdv A outer s H Eo B hP hw hr => by
  subst hP hw
  have hB : B.P = B.P ∧ B.w = B.w := ⟨rfl, rfl⟩
  unfold r__law_inside
  unfold r__law_inside_1
  unfold l__law_inside_2
  unfold l__law_inside_1
  exact jss_cons (js_set (i := 2) sc__law_inside.nd (j_lst (jas_cons (jv 1) (jas_nil))))
    (jss_cons (js_for PassesOwn.never rfl (ji_tup (jv 0)) (jg_name (i := 3) sc__law_inside.nd) (jss_one (js_for PassesOwn.never rfl (ji_tup (jv 0)) (jg_tup rfl (jgs_cons (jg_name (i := 4) sc__law_inside.nd) (jgs_cons (jg_name (i := 5) sc__law_inside.nd) (jgs_nil)))) (jss_one (js_if (jt_w (jw_and (jt_cmp (op_inD (room80 hr)) (jv 5) (jv 2)) (jw_and1 (jt_cmp (op_niD (room80 hr)) (jv 4) (jv 2))))) (jss_one (js_expr (j_bm PySem.F.plainAttrs_list PySem.F.slot_list_append PySem.F.type_list_append mt_appendD (jv 2) (jas_cons (jv 4) (jas_nil))))) (jss_nil))))))
    (jss_one (js_ret (jv 2)))))
def r__law_fits_1 (F : DSp) : DS := dRet (dOrT (dOp (inTR) (dVar 2) (dVar 3)) (dAndT (dOp (isNR true) (dVar 4) (dC .non)) (dOp (inTR) (dVar 2) (dBM0 "str" lowerR (dVar 4)))))
def r__law_fits_2 (F : DSp) : DS := dSeq (dIf (dTest (dOp (eqR false) (dOp ixD (dVar 2) (dC (.int 0))) (dC (.str [47])))) (dSeq (dAsg (dCB tupleR (dCons (dLc (dOver (dBM "str" splitR (dSl (dVar 2) (dPart (dC (.int 1))) (dNoP)) (dCons (dC (.str [47])) (dNil)))) (gNm 9) (dTest (dOp (eqR true) (dVar 9) (dC (.str [])))) (dVar 9) [9]) (dNil))) (gNm 7))
  (dRet (dCB anyR (dCons (dLc (dAltI (dOverS (dVar 6)) (dOverT (dVar 6))) (gNm 10) (dYes) (dOp (eqR false) (dSl (dVar 10) (dNoP) (dPart (dCB (lenR) (dCons (dVar 7) (dNil))))) (dVar 7)) [10]) (dNil))))) (dNext))
  ((r__law_fits_1 F))
def r__law_fits_3 (F : DSp) : DS := dSeq (dIf (dTest (dOp (eqR false) (dOp ixD (dVar 2) (dC (.int 0))) (dC (.str [43])))) (dRet (dCB anyR (dCons (dLc (dAltI (dOverS (dVar 5)) (dOverT (dVar 5))) (gNm 8) (dYes) (dOp (inR false) (dVar 8) (dCall D__law_inside [] (dCons (dVar 1) (dCons (dSl (dVar 2) (dPart (dC (.int 1))) (dNoP)) (dNil))))) [8]) (dNil)))) (dNext))
  ((r__law_fits_2 F))
def r__law_fits (F : DSp) : DS := dSeq (dAsg (dVar 0) (gTp 4 (gCn (gNm 3) (gCn (gNm 4) (gCn (gNm 5) (gCn (gNm 6) (gNl)))))))
  (dSeq (dIf (dTest (dOp (eqR false) (dOp ixD (dVar 2) (dC (.int 0))) (dC (.str [45])))) (dRet (dNotT (dCall F [] (dCons (dVar 0) (dCons (dVar 1) (dCons (dSl (dVar 2) (dPart (dC (.int 1))) (dNoP)) (dNil))))))) (dNext))
  ((r__law_fits_3 F)))
def DO__law_fits : Nat → DSp
  | 0 => fun _ _ _ _ => False
  | n + 1 => runD 3 11 (r__law_fits (DO__law_fits n))
theorem DO_len__law_fits : ∀ i ds C Q E, DO__law_fits i ds C Q E → ds.length = 3
  | 0, _, _, _, _, h => h.elim
  | _ + 1, _, _, _, _, h => h.1
def D__law_fits : DSp := DO__law_fits 4
theorem okS__law_fits {P : Program} {w : World} {base : Heap} (E : Env w base K mg) (F : DSp) (m k : Nat) (hm : 1 ≤ m) (hl : ∀ ds C Q E, F ds C Q E → ds.length = 3) (hF : FnG P w K mg base CX0 (k + m) E.a__law_fits E.d__law_fits ["_law_page", "_law_pairs_here", "_law_word"] (lSp P w K 3 F)) : FnG P w K mg base CX0 (k + m + 1) E.a__law_fits E.d__law_fits ["_law_page", "_law_pairs_here", "_law_word"] (lSp P w K 3 (runD 3 11 (r__law_fits F))) := fnok_of E.F__law_fits sc__law_fits rfl (fun cdv A outer s H Eo B hP hw hr => by
  subst hP hw
  have hB : B.P = B.P ∧ B.w = B.w := ⟨rfl, rfl⟩
  unfold r__law_fits
  unfold r__law_fits_3
  unfold r__law_fits_2
  unfold r__law_fits_1
  exact jss_cons (js_asg (jv 0) (jg_tup rfl (jgs_cons (jg_name (i := 3) sc__law_fits.nd) (jgs_cons (jg_name (i := 4) sc__law_fits.nd) (jgs_cons (jg_name (i := 5) sc__law_fits.nd) (jgs_cons (jg_name (i := 6) sc__law_fits.nd) (jgs_nil)))))))
    (jss_cons (js_if (jt_cmp (op_eqD (room70 hr)) (j_ix (jv 2) (j_int)) (j_str [45])) (jss_one (js_ret (j_not (j_call [] hF (hr.mono (by omega)) E.m__law_fits E.F__law_fits.kp E.b__law_fits hl .nil (fun _ => .nil) (jas_cons (jv 0) (jas_cons (jv 1) (jas_cons (j_slice (jv 2) (jo_some (j_int)) (jo_none)) (jas_nil)))))))) (jss_nil))
    (jss_cons (js_if (jt_cmp (op_eqD (room70 hr)) (j_ix (jv 2) (j_int)) (j_str [43])) (jss_one (js_ret (j_callB (call_anyD rfl) E.z_any bt_any (jas_cons (j_lc [("_law_mark", 8)] rfl sc__law_fits.nd (ji_alt (ji_str (jv 5)) (ji_tup (jv 5))) (gl_name) (fun _ _ _ _ _ => pg_name (i := 8) sc__law_fits.nd rfl (.inl rfl)) (fun _ _ _ _ _ => jts_nil) (fun _ _ _ _ _ => j_cmp (op_inD (room80 hr)) (jv 8) (j_call [] (ok__law_inside E k) (hr.mono (by omega)) E.m__law_inside E.F__law_inside.kp E.b__law_inside (fun _ _ _ _ q => q.1) .nil (fun _ => .nil) (jas_cons (jv 1) (jas_cons (j_slice (jv 2) (jo_some (j_int)) (jo_none)) (jas_nil))))) (ok := by kernel_rfl)) (jas_nil))))) (jss_nil))
    (jss_cons (js_if (jt_cmp (op_eqD (room70 hr)) (j_ix (jv 2) (j_int)) (j_str [47])) (jss_cons (js_set (i := 7) sc__law_fits.nd (j_callTy call_tupleD E.z_tuple bt_tuple (jas_cons (j_lc [("_law_part", 9)] rfl sc__law_fits.nd (ji_list (j_bm PySem.F.plainAttrs_str PySem.F.slot_str_split PySem.F.type_str_split mt_splitD (j_slice (jv 2) (jo_some (j_int)) (jo_none)) (jas_cons (j_str [47]) (jas_nil)))) (gl_name) (fun _ _ _ _ _ => pg_name (i := 9) sc__law_fits.nd rfl (.inl rfl)) (fun _ _ _ _ _ => jts_one (jt_cmp (op_neD (room70 hr)) (jv 9) (j_str []))) (fun _ _ _ _ _ => jv 9) (ok := by kernel_rfl)) (jas_nil))))
    (jss_one (js_ret (j_callB (call_anyD rfl) E.z_any bt_any (jas_cons (j_lc [("_law_one", 10)] rfl sc__law_fits.nd (ji_alt (ji_str (jv 6)) (ji_tup (jv 6))) (gl_name) (fun _ _ _ _ _ => pg_name (i := 10) sc__law_fits.nd rfl (.inl rfl)) (fun _ _ _ _ _ => jts_nil) (fun _ _ _ _ _ => j_cmp (op_eqD (room70 hr)) (j_slice (jv 10) (jo_none) (jo_some (j_callB (call_lenD0) E.z_len bt_len (jas_cons (jv 7) (jas_nil))))) (jv 7)) (ok := by kernel_rfl)) (jas_nil)))))) (jss_nil))
    (jss_one (js_ret (j_or (j_cmp (op_inTD) (jv 2) (jv 3)) (j_one (j_and (j_cmp (op_isNND) (jv 4) (j_non)) (j_one (j_cmp (op_inTD) (jv 2) (j_bm0 PySem.F.plainAttrs_str PySem.F.slot_str_lower PySem.F.type_str_lower mt_lowerD (jv 4)))))))))))))
theorem okO__law_fits {P : Program} {w : World} {base : Heap} (E : Env w base K mg) (k : Nat) : ∀ i, FnG P w K mg base CX0 (k + (1 + i)) E.a__law_fits E.d__law_fits ["_law_page", "_law_pairs_here", "_law_word"] (lSp P w K 3 (DO__law_fits i))
  | 0 => ⟨fun vs H Q E h => (lSp_false h).elim, fun A out s H as us vs Q E g r e b rv h => (lSp_false h).elim⟩
  | i + 1 => okS__law_fits E (DO__law_fits i) (1 + i) k (by omega) (DO_len__law_fits i) (okO__law_fits E k i)
theorem ok__law_fits {P : Program} {w : World} {base : Heap} (E : Env w base K mg) (k : Nat) : FnG P w K mg base CX0 (k + 5) E.a__law_fits E.d__law_fits ["_law_page", "_law_pairs_here", "_law_word"] (lSp P w K 3 D__law_fits) := okO__law_fits E k 4
def l__law_due_1 : DS := dIf (dTru (dCB anyR (dCons (dLc (dOver (dVar 2)) (gNm 11) (dYes) (dCB allR (dCons (dLc (dOverT (dVar 11)) (gNm 12) (dYes) (dCall D__law_fits [] (dCons (dVar 7) (dCons (dVar 1) (dCons (dVar 12) (dNil))))) [12]) (dNil))) [11]) (dNil)))) (dSeq (dAsg (dDisp ((dC (.str [97, 100, 100, 114, 101, 115, 115]), dC (.int 0)) :: ((dC (.str [116, 105, 116, 108, 101]), dIfE (dTest (dOp (isNR true) (dOp ixD (dVar 7) (dC (.int 1))) (dC .non))) (dOp ixD (dVar 7) (dC (.int 1))) (dC (.str []))) :: ((dC (.str [109, 97, 114, 107, 115]), dOp subD (dC (.int 0)) (dCB (lenR) (dCons (dOp ixD (dVar 7) (dC (.int 2))) (dNil)))) :: ([]))))) (gNm 9))
  (dDrop (dBM "list" appendR (dVar 6) (dCons (dTup (dCons (dAlt (dGetI (dVar 9) (dVar 3)) (dOp ixD (dVar 9) (dVar 3))) (dCons (dOp ixD (dVar 7) (dC (.int 0))) (dNil)))) (dNil))))) (dNext)
def r__law_due_1 : DS := dRet (dCB tupleR (dCons (dIfE (dTest (dOp (isNR false) (dVar 5) (dC .non))) (dVar 8) (dSl (dVar 8) (dNoP) (dPart (dVar 5)))) (dNil)))
def r__law_due_2 : DS := dSeq (dAsg (dLc (dOver (dCB sortedR (dCons (dVar 6) (dNil)))) (gTp 2 (gCn (gNm 9) (gCn (gNm 10) (gNl)))) (dYes) (dVar 10) [9, 10]) (gNm 8))
  (dSeq (dIf (dTru (dVar 4)) (dAsg (dRevL (dVar 8)) (gNm 8)) (dNext))
  (r__law_due_1))
def r__law_due : DS := dSeq (dAsg (dLst (dNil)) (gNm 6))
  (dSeq (dFor (dOverT (dVar 0)) (gNm 7) (l__law_due_1))
  (r__law_due_2))
def D__law_due : DSp := runD 6 13 r__law_due
theorem ok__law_due {P : Program} {w : World} {base : Heap} (E : Env w base K mg) (k : Nat) : FnG P w K mg base CX0 (k + 6) E.a__law_due E.d__law_due ["_law_pages_here", "_law_pairs_here", "_law_rows", "_law_ranked_by", "_law_turn_about", "_law_limit"] (lSp P w K 6 D__law_due) := fnok_of E.F__law_due sc__law_due rfl (fun cdv A outer s H Eo B hP hw hr => by
  subst hP hw
  have hB : B.P = B.P ∧ B.w = B.w := ⟨rfl, rfl⟩
  unfold r__law_due
  unfold r__law_due_2
  unfold r__law_due_1
  unfold l__law_due_1
  exact jss_cons (js_set (i := 6) sc__law_due.nd (j_lst (jas_nil)))
    (jss_cons (js_for PassesOwn.never rfl (ji_tup (jv 0)) (jg_name (i := 7) sc__law_due.nd) (jss_one (js_if (jt_tru (j_callB (call_anyD rfl) E.z_any bt_any (jas_cons (j_lc [("_law_row", 11)] rfl sc__law_due.nd (ji_list (jv 2)) (gl_name) (fun _ _ _ _ _ => pg_name (i := 11) sc__law_due.nd rfl (.inl rfl)) (fun _ _ _ _ _ => jts_nil) (fun _ _ _ _ _ => j_callB (call_allD rfl) E.z_all bt_all (jas_cons (j_lc [("_law_word", 12)] rfl sc__law_due.nd (ji_tup (jv 11)) (gl_name) (fun _ _ _ _ _ => pg_name (i := 12) sc__law_due.nd rfl (.inl rfl)) (fun _ _ _ _ _ => jts_nil) (fun _ _ _ _ _ => j_call [] (ok__law_fits E k) (hr.mono (by omega)) E.m__law_fits E.F__law_fits.kp E.b__law_fits (fun _ _ _ _ q => q.1) .nil (fun _ => .nil) (jas_cons (jv 7) (jas_cons (jv 1) (jas_cons (jv 12) (jas_nil))))) (ok := by kernel_rfl)) (jas_nil))) (ok := by kernel_rfl)) (jas_nil)))) (jss_cons (js_set (i := 9) sc__law_due.nd (j_disp (jps_cons (j_str [97, 100, 100, 114, 101, 115, 115]) (j_int) (jps_cons (j_str [116, 105, 116, 108, 101]) (j_ifExp (jt_cmp (op_isNND) (j_ix (jv 7) (j_int)) (j_non)) (j_ix (jv 7) (j_int)) (j_str [])) (jps_cons (j_str [109, 97, 114, 107, 115]) (j_op op_subD (j_int) (j_callB (call_lenD0) E.z_len bt_len (jas_cons (j_ix (jv 7) (j_int)) (jas_nil)))) (jps_nil))))))
    (jss_one (js_expr (j_bm PySem.F.plainAttrs_list PySem.F.slot_list_append PySem.F.type_list_append mt_appendD (jv 6) (jas_cons (j_tup (jas_cons (j_alt (j_dget hB (room20 hr) (jv 9) (jv 3)) (j_ix (jv 9) (jv 3))) (jas_cons (j_ix (jv 7) (j_int)) (jas_nil)))) (jas_nil)))))) (jss_nil))))
    (jss_cons (js_setLc (i := 8) [("_law_rank", 9), ("_law_form_here", 10)] rfl sc__law_due.nd (ji_list (j_callB (call_sortedD hB (room70 hr) rfl) E.z_sorted bt_sorted (jas_cons (jv 6) (jas_nil)))) (gl_tup (gls_cons (gl_name) (gls_cons (gl_name) (gls_nil)))) (fun _ _ _ _ _ => pg_tup rfl (pgs_cons (pg_name (i := 9) sc__law_due.nd rfl (.inl rfl)) (pgs_cons (pg_name (i := 10) sc__law_due.nd rfl (.inl rfl)) (pgs_nil)))) (fun _ _ _ _ _ => jts_nil) (fun _ _ _ _ _ => jv 10) (ok := by kernel_rfl) (by rfl))
    (jss_cons (js_if (jt_tru (jv 4)) (jss_one (js_set (i := 8) sc__law_due.nd (j_revL (jv 8)))) (jss_nil))
    (jss_one (js_ret (j_callTy call_tupleD E.z_tuple bt_tuple (jas_cons (j_ifExp (jt_cmp (op_isND) (jv 5) (j_non)) (jv 8) (j_slice (jv 8) (jo_none) (jo_some (jv 5)))) (jas_nil)))))))))
def r__law_piece : DS := dSeq (dAsg (dLc (dOver (dBM "str" splitR (dVar 1) (dCons (dC (.str [32])) (dNil)))) (gNm 3) (dTest (dOp (eqR true) (dVar 3) (dC (.str [])))) (dVar 3) [3]) (gNm 2))
  (dSeq (dAsg (dOp ixD (dVar 2) (dCall D__law_take [] (dCons (dVar 0) (dCons (dCB (lenR) (dCons (dVar 2) (dNil))) (dNil))))) (gNm 3))
  (dSeq (dAsg (dCall D__law_take [] (dCons (dVar 0) (dCons (dCB (lenR) (dCons (dVar 3) (dNil))) (dNil)))) (gNm 4))
  (dRet (dSl (dVar 3) (dPart (dVar 4)) (dPart (dOp addD (dOp addD (dVar 4) (dC (.int 1))) (dCall D__law_take [] (dCons (dVar 0) (dCons (dC (.int 5)) (dNil))))))))))
def D__law_piece : DSp := runD 2 5 r__law_piece
theorem ok__law_piece {P : Program} {w : World} {base : Heap} (E : Env w base K mg) (k : Nat) : FnG P w K mg base CX0 (k + 2) E.a__law_piece E.d__law_piece ["_law_pot_here", "_law_text"] (lSp P w K 2 D__law_piece) := fnok_of E.F__law_piece sc__law_piece rfl (fun cdv A outer s H Eo B hP hw hr => by
  subst hP hw
  have hB : B.P = B.P ∧ B.w = B.w := ⟨rfl, rfl⟩
  unfold r__law_piece
  exact jss_cons (js_setLc (i := 2) [("_law_word", 3)] rfl sc__law_piece.nd (ji_list (j_bm PySem.F.plainAttrs_str PySem.F.slot_str_split PySem.F.type_str_split mt_splitD (jv 1) (jas_cons (j_str [32]) (jas_nil)))) (gl_name) (fun _ _ _ _ _ => pg_name (i := 3) sc__law_piece.nd rfl (.inl rfl)) (fun _ _ _ _ _ => jts_one (jt_cmp (op_neD (room70 hr)) (jv 3) (j_str []))) (fun _ _ _ _ _ => jv 3) (ok := by kernel_rfl) (by rfl))
    (jss_cons (js_set (i := 3) sc__law_piece.nd (j_ix (jv 2) (j_call [] (ok__law_take E k) (hr.mono (by omega)) E.m__law_take E.F__law_take.kp E.b__law_take (fun _ _ _ _ q => q.1) .nil (fun _ => .nil) (jas_cons (jv 0) (jas_cons (j_callB (call_lenD0) E.z_len bt_len (jas_cons (jv 2) (jas_nil))) (jas_nil))))))
    (jss_cons (js_set (i := 4) sc__law_piece.nd (j_call [] (ok__law_take E k) (hr.mono (by omega)) E.m__law_take E.F__law_take.kp E.b__law_take (fun _ _ _ _ q => q.1) .nil (fun _ => .nil) (jas_cons (jv 0) (jas_cons (j_callB (call_lenD0) E.z_len bt_len (jas_cons (jv 3) (jas_nil))) (jas_nil)))))
    (jss_one (js_ret (j_slice (jv 3) (jo_some (jv 4)) (jo_some (j_op op_addD (j_op op_addD (jv 4) (j_int)) (j_call [] (ok__law_take E k) (hr.mono (by omega)) E.m__law_take E.F__law_take.kp E.b__law_take (fun _ _ _ _ q => q.1) .nil (fun _ => .nil) (jas_cons (jv 0) (jas_cons (j_int) (jas_nil))))))))))))
def l__law_search_word_1 : DS := dAsg (dSl (dVar 7) (dPart (dC (.int 1))) (dNoP)) (gNm 7)
def r__law_search_word_1 : DS := dIf (dTest (dOp (inR false) (dVar 7) (dTup (dCons (dC (.str [])) (dCons (dC (.str [124])) (dNil)))))) (dAsg (dRepl 45 97 (dOp ixD (dVar 4) (dC (.int 0)))) (gNm 7)) (dNext)
def r__law_search_word_2 : DS := dRet (dOp addD (dOp ixD (dLst (dCons (dC (.str [])) (dCons (dC (.str [])) (dCons (dC (.str [45])) (dNil))))) (dCall D__law_take [] (dCons (dVar 0) (dCons (dC (.int 3)) (dNil))))) (dVar 7))
def r__law_search_word : DS := dSeq (dPar 5 6 (dCons (dCall D__law_take [] (dCons (dVar 0) (dCons (dC (.int 5)) (dNil)))) (dCons (dOp ixD (dVar 1) (dCall D__law_take [] (dCons (dVar 0) (dCons (dCB (lenR) (dCons (dVar 1) (dNil))) (dNil))))) (dNil))))
  (dSeq (dIf (dTest (dOp (eqR false) (dVar 5) (dC (.int 0)))) (dAsg (dOp addD (dC (.str [43])) (dOp ixD (dVar 3) (dCall D__law_take [] (dCons (dVar 0) (dCons (dCB (lenR) (dCons (dVar 3) (dNil))) (dNil)))))) (gNm 7)) (dIf (dTest (dOp (eqR false) (dVar 5) (dC (.int 1)))) (dSeq (dAsg (dOp addD (dOp addD (dTup (dCons (dTup (dNil)) (dNil))) (dVar 2)) (dTup (dCons (dTup (dCons (dOp ixD (dVar 4) (dC (.int 0))) (dNil))) (dCons (dTup (dCons (dOp ixD (dVar 4) (dC (.int 1))) (dCons (dOp ixD (dVar 4) (dC (.int 0))) (dNil)))) (dNil))))) (gNm 8))
  (dAsg (dOp addD (dC (.str [47])) (dBM "str" joinR (dC (.str [47])) (dCons (dOp ixD (dVar 8) (dCall D__law_take [] (dCons (dVar 0) (dCons (dCB (lenR) (dCons (dVar 8) (dNil))) (dNil))))) (dNil)))) (gNm 7))) (dSeq (dAsg (dCall D__law_piece [] (dCons (dVar 0) (dCons (dOp ixD (dLst (dCons (dOp ixD (dVar 6) (dC (.int 0))) (dCons (dOrT (dOp ixD (dVar 6) (dC (.int 1))) (dOp ixD (dVar 6) (dC (.int 0)))) (dCons (dOp ixD (dVar 4) (dCall D__law_take [] (dCons (dVar 0) (dCons (dCB (lenR) (dCons (dVar 4) (dNil))) (dNil))))) (dNil))))) (dOp subD (dVar 5) (dC (.int 2)))) (dNil)))) (gNm 7))
  (dSeq (dWhile (dTest (dOp (inR false) (dSl (dVar 7) (dNoP) (dPart (dC (.int 1)))) (dTup (dCons (dC (.str [43])) (dCons (dC (.str [45])) (dCons (dC (.str [47])) (dNil))))))) (l__law_search_word_1))
  (r__law_search_word_1)))))
  (r__law_search_word_2))
def D__law_search_word : DSp := runD 5 9 r__law_search_word
theorem ok__law_search_word {P : Program} {w : World} {base : Heap} (E : Env w base K mg) (k : Nat) : FnG P w K mg base CX0 (k + 3) E.a__law_search_word E.d__law_search_word ["_law_pot_here", "_law_pages_here", "_law_folders_here", "_law_marks", "_law_words_here"] (lSp P w K 5 D__law_search_word) := fnok_of E.F__law_search_word sc__law_search_word rfl (fun cdv A outer s H Eo B hP hw hr => by
  subst hP hw
  have hB : B.P = B.P ∧ B.w = B.w := ⟨rfl, rfl⟩
  unfold r__law_search_word
  unfold r__law_search_word_2
  unfold r__law_search_word_1
  unfold l__law_search_word_1
  exact jss_cons (js_par (i := 5) (j := 6) rfl sc__law_search_word.nd (jas_cons (j_call [] (ok__law_take E k) (hr.mono (by omega)) E.m__law_take E.F__law_take.kp E.b__law_take (fun _ _ _ _ q => q.1) .nil (fun _ => .nil) (jas_cons (jv 0) (jas_cons (j_int) (jas_nil)))) (jas_cons (j_ix (jv 1) (j_call [] (ok__law_take E k) (hr.mono (by omega)) E.m__law_take E.F__law_take.kp E.b__law_take (fun _ _ _ _ q => q.1) .nil (fun _ => .nil) (jas_cons (jv 0) (jas_cons (j_callB (call_lenD0) E.z_len bt_len (jas_cons (jv 1) (jas_nil))) (jas_nil))))) (jas_nil))))
    (jss_cons (js_if (jt_cmp (op_eqD (room70 hr)) (jv 5) (j_int)) (jss_one (js_set (i := 7) sc__law_search_word.nd (j_op op_addD (j_str [43]) (j_ix (jv 3) (j_call [] (ok__law_take E k) (hr.mono (by omega)) E.m__law_take E.F__law_take.kp E.b__law_take (fun _ _ _ _ q => q.1) .nil (fun _ => .nil) (jas_cons (jv 0) (jas_cons (j_callB (call_lenD0) E.z_len bt_len (jas_cons (jv 3) (jas_nil))) (jas_nil)))))))) (jss_one (js_if (jt_cmp (op_eqD (room70 hr)) (jv 5) (j_int)) (jss_cons (js_set (i := 8) sc__law_search_word.nd (j_op op_addD (j_op op_addD (j_tup (jas_cons (j_tup (jas_nil)) (jas_nil))) (jv 2)) (j_tup (jas_cons (j_tup (jas_cons (j_ix (jv 4) (j_int)) (jas_nil))) (jas_cons (j_tup (jas_cons (j_ix (jv 4) (j_int)) (jas_cons (j_ix (jv 4) (j_int)) (jas_nil)))) (jas_nil))))))
    (jss_one (js_set (i := 7) sc__law_search_word.nd (j_op op_addD (j_str [47]) (j_bm PySem.F.plainAttrs_str PySem.F.slot_str_join PySem.F.type_str_join mt_joinD (j_str [47]) (jas_cons (j_ix (jv 8) (j_call [] (ok__law_take E k) (hr.mono (by omega)) E.m__law_take E.F__law_take.kp E.b__law_take (fun _ _ _ _ q => q.1) .nil (fun _ => .nil) (jas_cons (jv 0) (jas_cons (j_callB (call_lenD0) E.z_len bt_len (jas_cons (jv 8) (jas_nil))) (jas_nil))))) (jas_nil))))))) (jss_cons (js_set (i := 7) sc__law_search_word.nd (j_call [] (ok__law_piece E k) (hr.mono (by omega)) E.m__law_piece E.F__law_piece.kp E.b__law_piece (fun _ _ _ _ q => q.1) .nil (fun _ => .nil) (jas_cons (jv 0) (jas_cons (j_ix (j_lst (jas_cons (j_ix (jv 6) (j_int)) (jas_cons (j_or (j_ix (jv 6) (j_int)) (j_one (j_ix (jv 6) (j_int)))) (jas_cons (j_ix (jv 4) (j_call [] (ok__law_take E k) (hr.mono (by omega)) E.m__law_take E.F__law_take.kp E.b__law_take (fun _ _ _ _ q => q.1) .nil (fun _ => .nil) (jas_cons (jv 0) (jas_cons (j_callB (call_lenD0) E.z_len bt_len (jas_cons (jv 4) (jas_nil))) (jas_nil))))) (jas_nil))))) (j_op op_subD (jv 5) (j_int))) (jas_nil)))))
    (jss_cons (js_while PassesOwn.never (jt_cmp (op_inD (room80 hr)) (j_slice (jv 7) (jo_none) (jo_some (j_int))) (j_tup (jas_cons (j_str [43]) (jas_cons (j_str [45]) (jas_cons (j_str [47]) (jas_nil)))))) (jss_one (js_set (i := 7) sc__law_search_word.nd (j_slice (jv 7) (jo_some (j_int)) (jo_none)))))
    (jss_one (js_if (jt_cmp (op_inD (room80 hr)) (jv 7) (j_tup (jas_cons (j_str []) (jas_cons (j_str [124]) (jas_nil))))) (jss_one (js_set (i := 7) sc__law_search_word.nd (j_repl rfl rfl rfl (j_ix (jv 4) (j_int))))) (jss_nil))))))))
    (jss_one (js_ret (j_op op_addD (j_ix (j_lst (jas_cons (j_str []) (jas_cons (j_str []) (jas_cons (j_str [45]) (jas_nil))))) (j_call [] (ok__law_take E k) (hr.mono (by omega)) E.m__law_take E.F__law_take.kp E.b__law_take (fun _ _ _ _ q => q.1) .nil (fun _ => .nil) (jas_cons (jv 0) (jas_cons (j_int) (jas_nil))))) (jv 7))))))
def l_law_1 : DS := dSeq (dAsg (dLc (dRng1 (dCons (dCall D__law_take [] (dCons (dVar 2) (dCons (dC (.int 5)) (dNil)))) (dNil))) (gNm 18) (dYes) (dCall D__law_search_word [] (dCons (dVar 2) (dCons (dVar 3) (dCons (dVar 8) (dCons (dVar 7) (dCons (dVar 6) (dNil))))))) [18]) (gNm 15))
  (dDrop (dBM "list" appendR (dVar 10) (dCons (dCB tupleR (dCons (dVar 15) (dNil))) (dNil))))
def r_law_1 : DS := dSeq (dPar 16 17 (dCons (dOp ixD (dLst (dCons (dC (.str [97, 100, 100, 114, 101, 115, 115])) (dCons (dC (.str [116, 105, 116, 108, 101])) (dCons (dC (.str [109, 97, 114, 107, 115])) (dNil))))) (dCall D__law_take [] (dCons (dVar 2) (dCons (dC (.int 3)) (dNil))))) (dCons (dOp (eqR false) (dCall D__law_take [] (dCons (dVar 2) (dCons (dC (.int 2)) (dNil)))) (dC (.int 1))) (dNil))))
  (dSeq (dAsg (dOp ixD (dLst (dCons (dC .non) (dCons (dCall D__law_take [] (dCons (dVar 2) (dCons (dOp ixD (dLst (dCons (dC (.int 10)) (dCons (dC (.int 41)) (dNil)))) (dCall D__law_take [] (dCons (dVar 2) (dCons (dC (.int 2)) (dNil))))) (dNil)))) (dNil)))) (dCall D__law_take [] (dCons (dVar 2) (dCons (dC (.int 2)) (dNil))))) (gNm 12))
  (dSeq (dAsg (dCall D__law_searched [] (dCons (dVar 2) (dCons (dVar 4) (dCons (dCB tupleR (dCons (dVar 10) (dNil))) (dCons (dVar 16) (dCons (dVar 17) (dCons (dVar 12) (dNil)))))))) (gNm 13))
  (dSeq (dAsg (dCall D__law_due [] (dCons (dVar 3) (dCons (dVar 9) (dCons (dVar 10) (dCons (dVar 16) (dCons (dVar 17) (dCons (dVar 12) (dNil)))))))) (gNm 14))
  (dIf (dOr (dNot (dTru (dCB isiR (dCons (dVar 13) (dCons (dC (.ty "tuple")) dNil))))) (dTest (dOp (eqR true) (dVar 13) (dVar 14)))) (dRet (dC (.bl false))) (dNext)))))
def l_law_2 : DS := dSeq (dAsg (dLst (dNil)) (gNm 10))
  (dSeq (dFor (dRng1 (dCons (dCall D__law_take [] (dCons (dVar 2) (dCons (dC (.int 5)) (dNil)))) (dNil))) (gNm 11) (l_law_1))
  (r_law_1))
def r_law_2 : DS := dSeq (dAsg (dMake "Listing" D_Listing____init__ [] (dCons (dVar 8) (dCons (dVar 3) (dCons (dVar 9) (dNil))))) (gNm 4))
  (dFor (dRng1 (dCons (dC (.int 3)) (dNil))) (gNm 5) (l_law_2))
def l_law_3 : DS := dSeq (dAsg (dCall D__law_pot [] (dCons (dVar 0) (dCons (dVar 1) (dNil)))) (gNm 2))
  (dSeq (dAsg (dTup (dCons (dCall D__law_words [] (dCons (dVar 2) (dCons (dC (.int 8)) (dNil)))) (dCons (dCall D__law_words [] (dCons (dVar 2) (dCons (dC (.int 5)) (dNil)))) (dNil)))) (gTp 2 (gCn (gNm 6) (gCn (gNm 7) (gNl)))))
  (dSeq (dAsg (dTup (dCons (dCall D__law_folders [] (dCons (dVar 2) (dCons (dVar 6) (dCons (dC (.int 6)) (dNil))))) (dCons (dCall D__law_pairs [] (dCons (dVar 2) (dCons (dVar 7) (dCons (dC (.int 5)) (dNil))))) (dNil)))) (gTp 2 (gCn (gNm 8) (gCn (gNm 9) (gNl)))))
  (dSeq (dAsg (dCall D__law_pages [] (dCons (dVar 2) (dCons (dVar 6) (dCons (dVar 7) (dCons (dVar 8) (dCons (dOp ixD (dLst (dCons (dC (.int 8)) (dCons (dC (.int 30)) (dNil)))) (dOp fdivD (dCall D__law_take [] (dCons (dVar 2) (dCons (dC (.int 8)) (dNil)))) (dC (.int 7)))) (dNil))))))) (gNm 3))
  (dSeq (dIf (dTest (dOp (eqR false) (dVar 3) (dTup (dNil)))) (dAsg (dTup (dCons (dTup (dCons (dC (.str [108, 101, 97, 102, 58, 47, 47, 97])) (dCons (dC .non) (dCons (dTup (dNil)) (dCons (dTup (dCons (dTup (dNil)) (dNil))) (dNil)))))) (dNil))) (gNm 3)) (dNext))
  (r_law_2)))))
def r_law_3 : DS := dRet (dC (.bl true))
def r_law : DS := dSeq (dFor (dRng1 (dCons (dCB max2R (dCons (dC (.int 1)) (dCons (dCB min2R (dCons (dC (.int 3)) (dCons (dCB (lenR) (dCons (dVar 0) (dNil))) (dNil)))) (dNil)))) (dNil))) (gNm 1) (l_law_3))
  (r_law_3)
def D_law : DSp := runD 1 19 r_law
theorem ok_law {P : Program} {w : World} {base : Heap} (E : Env w base K mg) (k : Nat) : FnG P w K mg base CX0 (k + 16) E.a_law E.d_law ["_law_script"] (lSp P w K 1 D_law) := fnok_of E.F_law sc_law rfl (fun cdv A outer s H Eo B hP hw hr => by
  subst hP hw
  have hB : B.P = B.P ∧ B.w = B.w := ⟨rfl, rfl⟩
  unfold r_law
  unfold r_law_3
  unfold l_law_3
  unfold r_law_2
  unfold l_law_2
  unfold r_law_1
  unfold l_law_1
  exact jss_cons (js_for PassesOwn.never rfl (ji_range1 E.z_range (jas_cons (j_callB (call_max2D rfl) E.z_max bt_max (jas_cons (j_int) (jas_cons (j_callB (call_min2D rfl) E.z_min bt_min (jas_cons (j_int) (jas_cons (j_callB (call_lenD0) E.z_len bt_len (jas_cons (jv 0) (jas_nil))) (jas_nil)))) (jas_nil)))) (jas_nil))) (jg_name (i := 1) sc_law.nd) (jss_cons (js_set (i := 2) sc_law.nd (j_call [] (ok__law_pot E k) (hr.mono (by omega)) E.m__law_pot E.F__law_pot.kp E.b__law_pot (fun _ _ _ _ q => q.1) .nil (fun _ => .nil) (jas_cons (jv 0) (jas_cons (jv 1) (jas_nil)))))
    (jss_cons (js_asg (j_tup (jas_cons (j_call [] (ok__law_words E k) (hr.mono (by omega)) E.m__law_words E.F__law_words.kp E.b__law_words (fun _ _ _ _ q => q.1) .nil (fun _ => .nil) (jas_cons (jv 2) (jas_cons (j_int) (jas_nil)))) (jas_cons (j_call [] (ok__law_words E k) (hr.mono (by omega)) E.m__law_words E.F__law_words.kp E.b__law_words (fun _ _ _ _ q => q.1) .nil (fun _ => .nil) (jas_cons (jv 2) (jas_cons (j_int) (jas_nil)))) (jas_nil)))) (jg_tup rfl (jgs_cons (jg_name (i := 6) sc_law.nd) (jgs_cons (jg_name (i := 7) sc_law.nd) (jgs_nil)))))
    (jss_cons (js_asg (j_tup (jas_cons (j_call [] (ok__law_folders E k) (hr.mono (by omega)) E.m__law_folders E.F__law_folders.kp E.b__law_folders (fun _ _ _ _ q => q.1) .nil (fun _ => .nil) (jas_cons (jv 2) (jas_cons (jv 6) (jas_cons (j_int) (jas_nil))))) (jas_cons (j_call [] (ok__law_pairs E k) (hr.mono (by omega)) E.m__law_pairs E.F__law_pairs.kp E.b__law_pairs (fun _ _ _ _ q => q.1) .nil (fun _ => .nil) (jas_cons (jv 2) (jas_cons (jv 7) (jas_cons (j_int) (jas_nil))))) (jas_nil)))) (jg_tup rfl (jgs_cons (jg_name (i := 8) sc_law.nd) (jgs_cons (jg_name (i := 9) sc_law.nd) (jgs_nil)))))
    (jss_cons (js_set (i := 3) sc_law.nd (j_call [] (ok__law_pages E k) (hr.mono (by omega)) E.m__law_pages E.F__law_pages.kp E.b__law_pages (fun _ _ _ _ q => q.1) .nil (fun _ => .nil) (jas_cons (jv 2) (jas_cons (jv 6) (jas_cons (jv 7) (jas_cons (jv 8) (jas_cons (j_ix (j_lst (jas_cons (j_int) (jas_cons (j_int) (jas_nil)))) (j_op op_fdivD (j_call [] (ok__law_take E k) (hr.mono (by omega)) E.m__law_take E.F__law_take.kp E.b__law_take (fun _ _ _ _ q => q.1) .nil (fun _ => .nil) (jas_cons (jv 2) (jas_cons (j_int) (jas_nil)))) (j_int))) (jas_nil))))))))
    (jss_cons (js_if (jt_cmp (op_eqD (room70 hr)) (jv 3) (j_tup (jas_nil))) (jss_one (js_set (i := 3) sc_law.nd (j_tup (jas_cons (j_tup (jas_cons (j_str [108, 101, 97, 102, 58, 47, 47, 97]) (jas_cons (j_non) (jas_cons (j_tup (jas_nil)) (jas_cons (j_tup (jas_cons (j_tup (jas_nil)) (jas_nil))) (jas_nil)))))) (jas_nil))))) (jss_nil))
    (jss_cons (js_set (i := 4) sc_law.nd (j_make [] E.cn_Listing E.mk_Listing (ok_Listing____init__ E k) (hr.mono (by omega)) E.mc_Listing E.b_Listing____init__ (fun _ _ _ _ q => q.1) .nil (fun _ => .nil) (jas_cons (jv 8) (jas_cons (jv 3) (jas_cons (jv 9) (jas_nil))))))
    (jss_one (js_for PassesOwn.never rfl (ji_range1 E.z_range (jas_cons (j_int) (jas_nil))) (jg_name (i := 5) sc_law.nd) (jss_cons (js_set (i := 10) sc_law.nd (j_lst (jas_nil)))
    (jss_cons (js_for PassesOwn.never rfl (ji_range1 E.z_range (jas_cons (j_call [] (ok__law_take E k) (hr.mono (by omega)) E.m__law_take E.F__law_take.kp E.b__law_take (fun _ _ _ _ q => q.1) .nil (fun _ => .nil) (jas_cons (jv 2) (jas_cons (j_int) (jas_nil)))) (jas_nil))) (jg_name (i := 11) sc_law.nd) (jss_cons (js_setLc (i := 15) [("_law_word", 18)] rfl sc_law.nd (ji_range1 E.z_range (jas_cons (j_call [] (ok__law_take E k) (hr.mono (by omega)) E.m__law_take E.F__law_take.kp E.b__law_take (fun _ _ _ _ q => q.1) .nil (fun _ => .nil) (jas_cons (jv 2) (jas_cons (j_int) (jas_nil)))) (jas_nil))) (gl_name) (fun _ _ _ _ _ => pg_name (i := 18) sc_law.nd rfl (.inl rfl)) (fun _ _ _ _ _ => jts_nil) (fun _ _ _ _ _ => j_call [] (ok__law_search_word E k) (hr.mono (by omega)) E.m__law_search_word E.F__law_search_word.kp E.b__law_search_word (fun _ _ _ _ q => q.1) .nil (fun _ => .nil) (jas_cons (jv 2) (jas_cons (jv 3) (jas_cons (jv 8) (jas_cons (jv 7) (jas_cons (jv 6) (jas_nil))))))) (ok := by kernel_rfl) (by rfl))
    (jss_one (js_expr (j_bm PySem.F.plainAttrs_list PySem.F.slot_list_append PySem.F.type_list_append mt_appendD (jv 10) (jas_cons (j_callTy call_tupleD E.z_tuple bt_tuple (jas_cons (jv 15) (jas_nil))) (jas_nil)))))))
    (jss_cons (js_par (i := 16) (j := 17) rfl sc_law.nd (jas_cons (j_ix (j_lst (jas_cons (j_str [97, 100, 100, 114, 101, 115, 115]) (jas_cons (j_str [116, 105, 116, 108, 101]) (jas_cons (j_str [109, 97, 114, 107, 115]) (jas_nil))))) (j_call [] (ok__law_take E k) (hr.mono (by omega)) E.m__law_take E.F__law_take.kp E.b__law_take (fun _ _ _ _ q => q.1) .nil (fun _ => .nil) (jas_cons (jv 2) (jas_cons (j_int) (jas_nil))))) (jas_cons (j_cmp (op_eqD (room70 hr)) (j_call [] (ok__law_take E k) (hr.mono (by omega)) E.m__law_take E.F__law_take.kp E.b__law_take (fun _ _ _ _ q => q.1) .nil (fun _ => .nil) (jas_cons (jv 2) (jas_cons (j_int) (jas_nil)))) (j_int)) (jas_nil))))
    (jss_cons (js_set (i := 12) sc_law.nd (j_ix (j_lst (jas_cons (j_non) (jas_cons (j_call [] (ok__law_take E k) (hr.mono (by omega)) E.m__law_take E.F__law_take.kp E.b__law_take (fun _ _ _ _ q => q.1) .nil (fun _ => .nil) (jas_cons (jv 2) (jas_cons (j_ix (j_lst (jas_cons (j_int) (jas_cons (j_int) (jas_nil)))) (j_call [] (ok__law_take E k) (hr.mono (by omega)) E.m__law_take E.F__law_take.kp E.b__law_take (fun _ _ _ _ q => q.1) .nil (fun _ => .nil) (jas_cons (jv 2) (jas_cons (j_int) (jas_nil))))) (jas_nil)))) (jas_nil)))) (j_call [] (ok__law_take E k) (hr.mono (by omega)) E.m__law_take E.F__law_take.kp E.b__law_take (fun _ _ _ _ q => q.1) .nil (fun _ => .nil) (jas_cons (jv 2) (jas_cons (j_int) (jas_nil))))))
    (jss_cons (js_set (i := 13) sc_law.nd (j_call [] (ok__law_searched E k) (hr.mono (by omega)) E.m__law_searched E.F__law_searched.kp E.b__law_searched (fun _ _ _ _ q => q.1) .nil (fun _ => .nil) (jas_cons (jv 2) (jas_cons (jv 4) (jas_cons (j_callTy call_tupleD E.z_tuple bt_tuple (jas_cons (jv 10) (jas_nil))) (jas_cons (jv 16) (jas_cons (jv 17) (jas_cons (jv 12) (jas_nil)))))))))
    (jss_cons (js_set (i := 14) sc_law.nd (j_call [] (ok__law_due E k) (hr.mono (by omega)) E.m__law_due E.F__law_due.kp E.b__law_due (fun _ _ _ _ q => q.1) .nil (fun _ => .nil) (jas_cons (jv 3) (jas_cons (jv 9) (jas_cons (jv 10) (jas_cons (jv 16) (jas_cons (jv 17) (jas_cons (jv 12) (jas_nil)))))))))
    (jss_one (js_if (jt_w (jw_or (jt_not (jt_tru (j_callB call_isiD E.z_isinstance bt_isinstance (jas_cons (jv 13) (jas_cons (j_tyName "tuple" E.z_tuple bt_tuple) jas_nil))))) (jw_or1 (jt_cmp (op_neD (room70 hr)) (jv 13) (jv 14))))) (jss_one (js_ret (j_bl))) (jss_nil))))))))))))))))))
    (jss_one (js_ret (j_bl))))
end
theorem all_mk {l : PySem.W.OpenLaw} {w : World} {K : PySem.W.Frag} {h : Heap} {mg : Str → Option Value} {fa : Addr} (X : K.In h) (G : h.Ns mainGlobals mg) (hfa : mg "law" = some (.ref fa))
    {f1 f2 f3 f4 f5 f6 f7 f8 f9 f10 f11 f12 f13 f14 f15 f16 f17 f18 f19 f20 f21 f22 f23 f24 f25 f26 f27 f28 f29 f30 f31 f32 f33 f34 f35 f36 f37 : Addr} {od1 an1 od2 an2 od3 an3 od4 an4 od5 an5 od6 an6 od7 an7 od8 an8 od9 an9 od10 an10 od11 an11 od12 an12 od13 an13 od14 an14 od15 an15 od16 an16 od17 an17 od18 an18 od19 an19 od20 an20 od21 an21 od22 an22 od23 an23 od24 an24 od25 an25 od26 an26 od27 an27 od28 an28 od29 an29 od30 an30 od31 an31 od32 an32 od33 an33 od34 an34 od35 an35 od36 an36 od37 an37 : Option Addr} {sl1 sl2 sl3 sl4 sl5 sl6 sl7 sl8 sl9 sl10 sl11 sl12 sl13 sl14 sl15 sl16 sl17 sl18 sl19 sl20 sl21 sl22 sl23 sl24 sl25 sl26 sl27 sl28 sl29 sl30 sl31 sl32 sl33 sl34 sl35 sl36 sl37 : Array (Option Value)} {oc1 kV1 dc1 pm1 cd1 ct1 oc2 kV2 dc2 pm2 cd2 ct2 oc3 kV3 dc3 pm3 cd3 ct3 oc4 kV4 dc4 pm4 cd4 ct4 oc5 kV5 dc5 pm5 cd5 ct5 oc6 kV6 dc6 pm6 cd6 ct6 oc7 kV7 dc7 pm7 cd7 ct7 oc8 kV8 dc8 pm8 cd8 ct8 oc9 kV9 dc9 pm9 cd9 ct9 oc10 kV10 dc10 pm10 cd10 ct10 oc11 kV11 dc11 pm11 cd11 ct11 oc12 kV12 dc12 pm12 cd12 ct12 oc13 kV13 dc13 pm13 cd13 ct13 oc14 kV14 dc14 pm14 cd14 ct14 oc15 kV15 dc15 pm15 cd15 ct15 oc16 kV16 dc16 pm16 cd16 ct16 oc17 kV17 dc17 pm17 cd17 ct17 oc18 kV18 dc18 pm18 cd18 ct18 oc19 kV19 dc19 pm19 cd19 ct19 oc20 kV20 dc20 pm20 cd20 ct20 oc21 kV21 dc21 pm21 cd21 ct21 oc22 kV22 dc22 pm22 cd22 ct22 oc23 kV23 dc23 pm23 cd23 ct23 oc24 kV24 dc24 pm24 cd24 ct24 oc25 kV25 dc25 pm25 cd25 ct25 oc26 kV26 dc26 pm26 cd26 ct26 oc27 kV27 dc27 pm27 cd27 ct27 oc28 kV28 dc28 pm28 cd28 ct28 oc29 kV29 dc29 pm29 cd29 ct29 oc30 kV30 dc30 pm30 cd30 ct30 oc31 kV31 dc31 pm31 cd31 ct31 oc32 kV32 dc32 pm32 cd32 ct32 oc33 kV33 dc33 pm33 cd33 ct33 oc34 kV34 dc34 pm34 cd34 ct34 oc35 kV35 dc35 pm35 cd35 ct35 oc36 kV36 dc36 pm36 cd36 ct36 oc37 kV37 dc37 pm37 cd37 ct37 : Value}
    {C_NoWord : Addr} (xn_NoWord : PySem.W.nsIn K mainGlobals "NoWord" = some (some (.ref C_NoWord)))
    (x1_NoWord : (PySem.W.clsIn K C_NoWord).isSome = true)
    (x2_NoWord : PySem.W.findIn K (.ref C_NoWord) "__getattribute__" = some (some (.builtin "BaseException.__getattribute__")))
    (x3_NoWord : PySem.W.findIn K (.ref C_NoWord) "__getattr__" = some none)
    (x4_NoWord : PySem.W.subIn K (.ref C_NoWord) (.type "BaseException") = some true)
    (x5_NoWord : PySem.W.hasDictIn K C_NoWord = true)
    (x6_NoWord : PySem.W.findIn K (.ref C_NoWord) "__class__" = some (some (.builtin "object.__class__")))
    (x7_NoWord : PySem.W.mroIn K C_NoWord (.type "object") = some true)
    {nm_NoWord q_NoWord : Str} {N_NoWord : Addr} {bs_NoWord bm_NoWord : List Value} {sn_NoWord : List Str} {sub_NoWord : List Value} {ab_NoWord : Bool} {col_NoWord : Option Bool} {dd_NoWord : Option Addr} {k0_NoWord k1_NoWord k2_NoWord k3_NoWord k5_NoWord : Option Value} (lx_NoWord : K.lookup C_NoWord = some (excClassObj nm_NoWord q_NoWord C_NoWord N_NoWord bs_NoWord bm_NoWord true sn_NoWord sub_NoWord ab_NoWord col_NoWord dd_NoWord k0_NoWord k1_NoWord k2_NoWord k3_NoWord k5_NoWord "ValueError.__new__"))
    (rv_NoWord : PySem.HandSPX.refsVE bm_NoWord = true)
    (xs_NoWord : PySem.W.findIn K (.ref C_NoWord) "__setattr__" = some (some (.builtin "object.__setattr__"))) (xt_NoWord : PySem.W.typeIn K (.ref C_NoWord) = some (.type "type")) (xk_NoWord : PySem.W.keepIn K (.ref C_NoWord) = true)
    (no_NoWord_word : PySem.W.findIn K (.ref C_NoWord) "word" = some none)
    {C_NoOrder : Addr} (xn_NoOrder : PySem.W.nsIn K mainGlobals "NoOrder" = some (some (.ref C_NoOrder)))
    (x1_NoOrder : (PySem.W.clsIn K C_NoOrder).isSome = true)
    (x2_NoOrder : PySem.W.findIn K (.ref C_NoOrder) "__getattribute__" = some (some (.builtin "BaseException.__getattribute__")))
    (x3_NoOrder : PySem.W.findIn K (.ref C_NoOrder) "__getattr__" = some none)
    (x4_NoOrder : PySem.W.subIn K (.ref C_NoOrder) (.type "BaseException") = some true)
    (x5_NoOrder : PySem.W.hasDictIn K C_NoOrder = true)
    (x6_NoOrder : PySem.W.findIn K (.ref C_NoOrder) "__class__" = some (some (.builtin "object.__class__")))
    (x7_NoOrder : PySem.W.mroIn K C_NoOrder (.type "object") = some true)
    {nm_NoOrder q_NoOrder : Str} {N_NoOrder : Addr} {bs_NoOrder bm_NoOrder : List Value} {sn_NoOrder : List Str} {sub_NoOrder : List Value} {ab_NoOrder : Bool} {col_NoOrder : Option Bool} {dd_NoOrder : Option Addr} {k0_NoOrder k1_NoOrder k2_NoOrder k3_NoOrder k5_NoOrder : Option Value} (lx_NoOrder : K.lookup C_NoOrder = some (excClassObj nm_NoOrder q_NoOrder C_NoOrder N_NoOrder bs_NoOrder bm_NoOrder true sn_NoOrder sub_NoOrder ab_NoOrder col_NoOrder dd_NoOrder k0_NoOrder k1_NoOrder k2_NoOrder k3_NoOrder k5_NoOrder "ValueError.__new__"))
    (rv_NoOrder : PySem.HandSPX.refsVE bm_NoOrder = true)
    (xs_NoOrder : PySem.W.findIn K (.ref C_NoOrder) "__setattr__" = some (some (.builtin "object.__setattr__"))) (xt_NoOrder : PySem.W.typeIn K (.ref C_NoOrder) = some (.type "type")) (xk_NoOrder : PySem.W.keepIn K (.ref C_NoOrder) = true)
    (no_NoOrder_order : PySem.W.findIn K (.ref C_NoOrder) "order" = some none)
    {C_KeptError : Addr} (xn_KeptError : PySem.W.nsIn K mainGlobals "KeptError" = some (some (.ref C_KeptError)))
    (x1_KeptError : (PySem.W.clsIn K C_KeptError).isSome = true)
    (x2_KeptError : PySem.W.findIn K (.ref C_KeptError) "__getattribute__" = some (some (.builtin "BaseException.__getattribute__")))
    (x3_KeptError : PySem.W.findIn K (.ref C_KeptError) "__getattr__" = some none)
    (x4_KeptError : PySem.W.subIn K (.ref C_KeptError) (.type "BaseException") = some true)
    (x5_KeptError : PySem.W.hasDictIn K C_KeptError = true)
    (x6_KeptError : PySem.W.findIn K (.ref C_KeptError) "__class__" = some (some (.builtin "object.__class__")))
    (x7_KeptError : PySem.W.mroIn K C_KeptError (.type "object") = some true)
    (y1 : PySem.W.specialIn K (.builtin "object.__class__") "__get__" = some (some (.builtin "getset_descriptor.__get__"))) (y2 : PySem.W.takesIn K (.builtin "object.__class__") = some true)
    (kr : PySem.W.readsIn K C_KeptError (.type "type") = true) (kg : PySem.W.specialIn K (.ref C_KeptError) "__getattribute__" = some (some (.builtin "type.__getattribute__"))) (kf : PySem.W.findCls K (.ref C_KeptError) (.type "type") "__init__" = some (.val (.builtin "ValueError.__init__")))
    {C_Listing : Addr} (aC_Listing : PySem.W.nsIn K mainGlobals "Listing" = some (some (.ref C_Listing))) (pg_Listing : PySem.W.plainGet K C_Listing Str.empty = true) (hd_Listing : PySem.W.hasDictIn K C_Listing = true) (po_Listing : PySem.W.plainOver K C_Listing = true) (sa_Listing : PySem.W.findIn K (.ref C_Listing) "__setattr__" = some (some (.builtin "object.__setattr__"))) (kc_Listing : PySem.W.keepIn K (.ref C_Listing) = true)
    {C_Sought : Addr} (aC_Sought : PySem.W.nsIn K mainGlobals "Sought" = some (some (.ref C_Sought))) (pg_Sought : PySem.W.plainGet K C_Sought Str.empty = true) (hd_Sought : PySem.W.hasDictIn K C_Sought = true) (po_Sought : PySem.W.plainOver K C_Sought = true) (sa_Sought : PySem.W.findIn K (.ref C_Sought) "__setattr__" = some (some (.builtin "object.__setattr__"))) (kc_Sought : PySem.W.keepIn K (.ref C_Sought) = true)
    (mk_Listing : PySem.W.makesIn K C_Listing = true)
    (mk_Sought : PySem.W.makesIn K C_Sought = true)
    (na_Listing_folders : PySem.W.findIn K (.ref C_Listing) "folders" = some none)
    (na_Listing_pages : PySem.W.findIn K (.ref C_Listing) "pages" = some none)
    (na_Listing_pairs : PySem.W.findIn K (.ref C_Listing) "pairs" = some none)
    (na_Sought_bearers : PySem.W.findIn K (.ref C_Sought) "bearers" = some none)
    (na_Sought_sought_in : PySem.W.findIn K (.ref C_Sought) "sought_in" = some none)
    {ts : List Addr}
    {c0_0 P0_0 : Addr} (lmts_0 : P0_0 ∈ ts)
    (a1 : PySem.W.nsIn K mainGlobals "_law_pot" = some (some (.ref f1))) (l1 : K.lookup f1 = some ⟨oc1, od1, .func (PySem.W.fnOf "_law_pot" "_law_pot" (defArgs s__law_pot) (defBody s__law_pot) (defScope s__law_pot) .none kV1 dc1 pm1 an1 cd1 ct1), sl1⟩) (c1 : PySem.W.codeIn K cd1 "_law_pot" = true) (k1 : PySem.W.keepIn K (.ref f1) = true)
    (a2 : PySem.W.nsIn K mainGlobals "_law_take" = some (some (.ref f2))) (l2 : K.lookup f2 = some ⟨oc2, od2, .func (PySem.W.fnOf "_law_take" "_law_take" (defArgs s__law_take) (defBody s__law_take) (defScope s__law_take) .none kV2 dc2 pm2 an2 cd2 ct2), sl2⟩) (c2 : PySem.W.codeIn K cd2 "_law_take" = true) (k2 : PySem.W.keepIn K (.ref f2) = true)
    (a3 : PySem.W.nsIn K mainGlobals "_law_some" = some (some (.ref f3))) (l3 : K.lookup f3 = some ⟨oc3, od3, .func (PySem.W.fnOf "_law_some" "_law_some" (defArgs s__law_some) (defBody s__law_some) (defScope s__law_some) .none kV3 dc3 pm3 an3 cd3 ct3), sl3⟩) (c3 : PySem.W.codeIn K cd3 "_law_some" = true) (k3 : PySem.W.keepIn K (.ref f3) = true)
    (a4 : PySem.W.nsIn K mainGlobals "_law_form" = some (some (.ref f4))) (l4 : K.lookup f4 = some ⟨oc4, od4, .func (PySem.W.fnOf "_law_form" "_law_form" (defArgs s__law_form) (defBody s__law_form) (defScope s__law_form) .none kV4 dc4 pm4 an4 cd4 ct4), sl4⟩) (c4 : PySem.W.codeIn K cd4 "_law_form" = true) (k4 : PySem.W.keepIn K (.ref f4) = true)
    (a5 : PySem.W.nsIn K mainGlobals "_law_title" = some (some (.ref f5))) (l5 : K.lookup f5 = some ⟨oc5, od5, .func (PySem.W.fnOf "_law_title" "_law_title" (defArgs s__law_title) (defBody s__law_title) (defScope s__law_title) .none kV5 dc5 pm5 an5 cd5 ct5), sl5⟩) (c5 : PySem.W.codeIn K cd5 "_law_title" = true) (k5 : PySem.W.keepIn K (.ref f5) = true)
    (a6 : PySem.W.nsIn K mainGlobals "_law_pages" = some (some (.ref f6))) (l6 : K.lookup f6 = some ⟨oc6, od6, .func (PySem.W.fnOf "_law_pages" "_law_pages" (defArgs s__law_pages) (defBody s__law_pages) (defScope s__law_pages) .none kV6 dc6 pm6 an6 cd6 ct6), sl6⟩) (c6 : PySem.W.codeIn K cd6 "_law_pages" = true) (k6 : PySem.W.keepIn K (.ref f6) = true)
    (a7 : PySem.W.findIn K (.ref C_Listing) "__init__" = some (some (.ref f7))) (i7 : PySem.W.isFn K (.ref f7) = true) (l7 : K.lookup f7 = some ⟨oc7, od7, .func (PySem.W.fnOf "__init__" "Listing.__init__" (defArgs s_Listing____init__) (defBody s_Listing____init__) (defScope s_Listing____init__) .none kV7 dc7 pm7 an7 cd7 ct7), sl7⟩) (c7 : PySem.W.codeIn K cd7 "Listing.__init__" = true) (k7 : PySem.W.keepIn K (.ref f7) = true)
    (a8 : PySem.W.nsIn K mainGlobals "_law_words" = some (some (.ref f8))) (l8 : K.lookup f8 = some ⟨oc8, od8, .func (PySem.W.fnOf "_law_words" "_law_words" (defArgs s__law_words) (defBody s__law_words) (defScope s__law_words) .none kV8 dc8 pm8 an8 cd8 ct8), sl8⟩) (c8 : PySem.W.codeIn K cd8 "_law_words" = true) (k8 : PySem.W.keepIn K (.ref f8) = true)
    (a9 : PySem.W.nsIn K mainGlobals "_law_folders" = some (some (.ref f9))) (l9 : K.lookup f9 = some ⟨oc9, od9, .func (PySem.W.fnOf "_law_folders" "_law_folders" (defArgs s__law_folders) (defBody s__law_folders) (defScope s__law_folders) .none kV9 dc9 pm9 an9 cd9 ct9), sl9⟩) (c9 : PySem.W.codeIn K cd9 "_law_folders" = true) (k9 : PySem.W.keepIn K (.ref f9) = true)
    (a10 : PySem.W.nsIn K mainGlobals "_law_pairs" = some (some (.ref f10))) (l10 : K.lookup f10 = some ⟨oc10, od10, .func (PySem.W.fnOf "_law_pairs" "_law_pairs" (defArgs s__law_pairs) (defBody s__law_pairs) (defScope s__law_pairs) .none kV10 dc10 pm10 an10 cd10 ct10), sl10⟩) (c10 : PySem.W.codeIn K cd10 "_law_pairs" = true) (k10 : PySem.W.keepIn K (.ref f10) = true)
    (a11 : PySem.W.nsIn K mainGlobals "is_word" = some (some (.ref f11))) (l11 : K.lookup f11 = some ⟨oc11, od11, .func (PySem.W.fnOf "is_word" "is_word" (defArgs s_is_word) (defBody s_is_word) (defScope s_is_word) .none kV11 dc11 pm11 an11 cd11 ct11), sl11⟩) (c11 : PySem.W.codeIn K cd11 "is_word" = true) (k11 : PySem.W.keepIn K (.ref f11) = true)
    (a12 : PySem.W.nsIn K mainGlobals "is_path" = some (some (.ref f12))) (l12 : K.lookup f12 = some ⟨oc12, od12, .func (PySem.W.fnOf "is_path" "is_path" (defArgs s_is_path) (defBody s_is_path) (defScope s_is_path) .none kV12 dc12 pm12 an12 cd12 ct12), sl12⟩) (c12 : PySem.W.codeIn K cd12 "is_path" = true) (k12 : PySem.W.keepIn K (.ref f12) = true)
    (a13 : PySem.W.nsIn K mainGlobals "path_in" = some (some (.ref f13))) (l13 : K.lookup f13 = some ⟨oc13, od13, .func (PySem.W.fnOf "path_in" "path_in" (defArgs s_path_in) (defBody s_path_in) (defScope s_path_in) .none kV13 dc13 pm13 an13 cd13 ct13), sl13⟩) (c13 : PySem.W.codeIn K cd13 "path_in" = true) (k13 : PySem.W.keepIn K (.ref f13) = true)
    (a14 : PySem.W.nsIn K mainGlobals "is_plain_word" = some (some (.ref f14))) (l14 : K.lookup f14 = some ⟨oc14, od14, .func (PySem.W.fnOf "is_plain_word" "is_plain_word" (defArgs s_is_plain_word) (defBody s_is_plain_word) (defScope s_is_plain_word) .none kV14 dc14 pm14 an14 cd14 ct14), sl14⟩) (c14 : PySem.W.codeIn K cd14 "is_plain_word" = true) (k14 : PySem.W.keepIn K (.ref f14) = true)
    (a15 : PySem.W.nsIn K mainGlobals "is_search_word" = some (some (.ref f15))) (l15 : K.lookup f15 = some ⟨oc15, od15, .func (PySem.W.fnOf "is_search_word" "is_search_word" (defArgs s_is_search_word) (defBody s_is_search_word) (defScope s_is_search_word) .none kV15 dc15 pm15 an15 cd15 ct15), sl15⟩) (c15 : PySem.W.codeIn K cd15 "is_search_word" = true) (k15 : PySem.W.keepIn K (.ref f15) = true)
    (a16 : PySem.W.nsIn K mainGlobals "look_at_words" = some (some (.ref f16))) (l16 : K.lookup f16 = some ⟨oc16, od16, .func (PySem.W.fnOf "look_at_words" "look_at_words" (defArgs s_look_at_words) (defBody s_look_at_words) (defScope s_look_at_words) .none kV16 dc16 pm16 an16 cd16 ct16), sl16⟩) (c16 : PySem.W.codeIn K cd16 "look_at_words" = true) (k16 : PySem.W.keepIn K (.ref f16) = true)
    (a17 : PySem.W.findIn K (.ref C_Sought) "__init__" = some (some (.ref f17))) (i17 : PySem.W.isFn K (.ref f17) = true) (l17 : K.lookup f17 = some ⟨oc17, od17, .func (PySem.W.fnOf "__init__" "Sought.__init__" (defArgs s_Sought____init__) (defBody s_Sought____init__) (defScope s_Sought____init__) .none kV17 dc17 pm17 an17 cd17 ct17), sl17⟩) (c17 : PySem.W.codeIn K cd17 "Sought.__init__" = true) (k17 : PySem.W.keepIn K (.ref f17) = true)
    (a18 : PySem.W.nsIn K mainGlobals "address_key" = some (some (.ref f18))) (l18 : K.lookup f18 = some ⟨oc18, od18, .func (PySem.W.fnOf "address_key" "address_key" (defArgs s_address_key) (defBody s_address_key) (defScope s_address_key) .none kV18 dc18 pm18 an18 cd18 ct18), sl18⟩) (c18 : PySem.W.codeIn K cd18 "address_key" = true) (k18 : PySem.W.keepIn K (.ref f18) = true)
    (a19 : PySem.W.nsIn K mainGlobals "title_key" = some (some (.ref f19))) (l19 : K.lookup f19 = some ⟨oc19, od19, .func (PySem.W.fnOf "title_key" "title_key" (defArgs s_title_key) (defBody s_title_key) (defScope s_title_key) .none kV19 dc19 pm19 an19 cd19 ct19), sl19⟩) (c19 : PySem.W.codeIn K cd19 "title_key" = true) (k19 : PySem.W.keepIn K (.ref f19) = true)
    (a20 : PySem.W.nsIn K mainGlobals "marks_key" = some (some (.ref f20))) (l20 : K.lookup f20 = some ⟨oc20, od20, .func (PySem.W.fnOf "marks_key" "marks_key" (defArgs s_marks_key) (defBody s_marks_key) (defScope s_marks_key) .none kV20 dc20 pm20 an20 cd20 ct20), sl20⟩) (c20 : PySem.W.codeIn K cd20 "marks_key" = true) (k20 : PySem.W.keepIn K (.ref f20) = true)
    (a21 : PySem.W.nsIn K mainGlobals "led_to" = some (some (.ref f21))) (l21 : K.lookup f21 = some ⟨oc21, od21, .func (PySem.W.fnOf "led_to" "led_to" (defArgs s_led_to) (defBody s_led_to) (defScope s_led_to) .none kV21 dc21 pm21 an21 cd21 ct21), sl21⟩) (c21 : PySem.W.codeIn K cd21 "led_to" = true) (k21 : PySem.W.keepIn K (.ref f21) = true)
    (a22 : PySem.W.nsIn K mainGlobals "inside" = some (some (.ref f22))) (l22 : K.lookup f22 = some ⟨oc22, od22, .func (PySem.W.fnOf "inside" "inside" (defArgs s_inside) (defBody s_inside) (defScope s_inside) .none kV22 dc22 pm22 an22 cd22 ct22), sl22⟩) (c22 : PySem.W.codeIn K cd22 "inside" = true) (k22 : PySem.W.keepIn K (.ref f22) = true)
    (a23 : PySem.W.findIn K (.ref C_Listing) "marked" = some (some (.ref f23))) (i23 : PySem.W.isFn K (.ref f23) = true) (l23 : K.lookup f23 = some ⟨oc23, od23, .func (PySem.W.fnOf "marked" "Listing.marked" (defArgs s_Listing__marked) (defBody s_Listing__marked) (defScope s_Listing__marked) .none kV23 dc23 pm23 an23 cd23 ct23), sl23⟩) (c23 : PySem.W.codeIn K cd23 "Listing.marked" = true) (k23 : PySem.W.keepIn K (.ref f23) = true)
    (a24 : PySem.W.findIn K (.ref C_Sought) "bears" = some (some (.ref f24))) (i24 : PySem.W.isFn K (.ref f24) = true) (l24 : K.lookup f24 = some ⟨oc24, od24, .func (PySem.W.fnOf "bears" "Sought.bears" (defArgs s_Sought__bears) (defBody s_Sought__bears) (defScope s_Sought__bears) .none kV24 dc24 pm24 an24 cd24 ct24), sl24⟩) (c24 : PySem.W.codeIn K cd24 "Sought.bears" = true) (k24 : PySem.W.keepIn K (.ref f24) = true)
    (a25 : PySem.W.nsIn K mainGlobals "lies_within" = some (some (.ref f25))) (l25 : K.lookup f25 = some ⟨oc25, od25, .func (PySem.W.fnOf "lies_within" "lies_within" (defArgs s_lies_within) (defBody s_lies_within) (defScope s_lies_within) .none kV25 dc25 pm25 an25 cd25 ct25), sl25⟩) (c25 : PySem.W.codeIn K cd25 "lies_within" = true) (k25 : PySem.W.keepIn K (.ref f25) = true)
    (a26 : PySem.W.findIn K (.ref C_Sought) "fits" = some (some (.ref f26))) (i26 : PySem.W.isFn K (.ref f26) = true) (l26 : K.lookup f26 = some ⟨oc26, od26, .func (PySem.W.fnOf "fits" "Sought.fits" (defArgs s_Sought__fits) (defBody s_Sought__fits) (defScope s_Sought__fits) .none kV26 dc26 pm26 an26 cd26 ct26), sl26⟩) (c26 : PySem.W.codeIn K cd26 "Sought.fits" = true) (k26 : PySem.W.keepIn K (.ref f26) = true)
    (a27 : PySem.W.findIn K (.ref C_Sought) "fits_row" = some (some (.ref f27))) (i27 : PySem.W.isFn K (.ref f27) = true) (l27 : K.lookup f27 = some ⟨oc27, od27, .func (PySem.W.fnOf "fits_row" "Sought.fits_row" (defArgs s_Sought__fits_row) (defBody s_Sought__fits_row) (defScope s_Sought__fits_row) .none kV27 dc27 pm27 an27 cd27 ct27), sl27⟩) (c27 : PySem.W.codeIn K cd27 "Sought.fits_row" = true) (k27 : PySem.W.keepIn K (.ref f27) = true)
    {T28 : Addr} {oT28 : Option Addr} {nT28 : Nat} {sT28 : Array (Option Value)} {tk28_0 : Tok}
    (a28 : PySem.W.nsIn K mainGlobals "search" = some (some (.ref f28))) (l28 : K.lookup f28 = some ⟨oc28, od28, .func (PySem.W.fnOf "search" "search" (defArgs s_search) (defBody s_search) (defScope s_search) (.ref T28) kV28 dc28 pm28 an28 cd28 ct28), sl28⟩) (c28 : PySem.W.codeIn K cd28 "search" = true) (k28 : PySem.W.keepIn K (.ref f28) = true)
    (t28 : K.lookup T28 = some ⟨.type "tuple", oT28, .seq [.str (PySem.Str.ofString "address") tk28_0, .bool false, .none].toArray nT28, sT28⟩)
    (a29 : PySem.W.nsIn K mainGlobals "_law_searched" = some (some (.ref f29))) (l29 : K.lookup f29 = some ⟨oc29, od29, .func (PySem.W.fnOf "_law_searched" "_law_searched" (defArgs s__law_searched) (defBody s__law_searched) (defScope s__law_searched) .none kV29 dc29 pm29 an29 cd29 ct29), sl29⟩) (c29 : PySem.W.codeIn K cd29 "_law_searched" = true) (k29 : PySem.W.keepIn K (.ref f29) = true)
    (a30 : PySem.W.nsIn K mainGlobals "_law_inside" = some (some (.ref f30))) (l30 : K.lookup f30 = some ⟨oc30, od30, .func (PySem.W.fnOf "_law_inside" "_law_inside" (defArgs s__law_inside) (defBody s__law_inside) (defScope s__law_inside) .none kV30 dc30 pm30 an30 cd30 ct30), sl30⟩) (c30 : PySem.W.codeIn K cd30 "_law_inside" = true) (k30 : PySem.W.keepIn K (.ref f30) = true)
    (a31 : PySem.W.nsIn K mainGlobals "_law_fits" = some (some (.ref f31))) (l31 : K.lookup f31 = some ⟨oc31, od31, .func (PySem.W.fnOf "_law_fits" "_law_fits" (defArgs s__law_fits) (defBody s__law_fits) (defScope s__law_fits) .none kV31 dc31 pm31 an31 cd31 ct31), sl31⟩) (c31 : PySem.W.codeIn K cd31 "_law_fits" = true) (k31 : PySem.W.keepIn K (.ref f31) = true)
    (a32 : PySem.W.nsIn K mainGlobals "_law_due" = some (some (.ref f32))) (l32 : K.lookup f32 = some ⟨oc32, od32, .func (PySem.W.fnOf "_law_due" "_law_due" (defArgs s__law_due) (defBody s__law_due) (defScope s__law_due) .none kV32 dc32 pm32 an32 cd32 ct32), sl32⟩) (c32 : PySem.W.codeIn K cd32 "_law_due" = true) (k32 : PySem.W.keepIn K (.ref f32) = true)
    (a33 : PySem.W.nsIn K mainGlobals "_law_piece" = some (some (.ref f33))) (l33 : K.lookup f33 = some ⟨oc33, od33, .func (PySem.W.fnOf "_law_piece" "_law_piece" (defArgs s__law_piece) (defBody s__law_piece) (defScope s__law_piece) .none kV33 dc33 pm33 an33 cd33 ct33), sl33⟩) (c33 : PySem.W.codeIn K cd33 "_law_piece" = true) (k33 : PySem.W.keepIn K (.ref f33) = true)
    (a34 : PySem.W.nsIn K mainGlobals "_law_search_word" = some (some (.ref f34))) (l34 : K.lookup f34 = some ⟨oc34, od34, .func (PySem.W.fnOf "_law_search_word" "_law_search_word" (defArgs s__law_search_word) (defBody s__law_search_word) (defScope s__law_search_word) .none kV34 dc34 pm34 an34 cd34 ct34), sl34⟩) (c34 : PySem.W.codeIn K cd34 "_law_search_word" = true) (k34 : PySem.W.keepIn K (.ref f34) = true)
    (a35 : PySem.W.nsIn K mainGlobals "law" = some (some (.ref f35))) (l35 : K.lookup f35 = some ⟨oc35, od35, .func (PySem.W.fnOf "law" "law" (defArgs s_law) (defBody s_law) (defScope s_law) .none kV35 dc35 pm35 an35 cd35 ct35), sl35⟩) (c35 : PySem.W.codeIn K cd35 "law" = true) (k35 : PySem.W.keepIn K (.ref f35) = true)
    (a36 : PySem.W.findIn K (.ref C_NoWord) "__init__" = some (some (.ref f36))) (i36 : PySem.W.isFn K (.ref f36) = true) (l36 : K.lookup f36 = some ⟨oc36, od36, .func (PySem.W.fnOf "__init__" "NoWord.__init__" (defArgs s_NoWord____init__) (defBody s_NoWord____init__) (defScope s_NoWord____init__) .none kV36 dc36 pm36 an36 cd36 ct36), sl36⟩) (c36 : PySem.W.codeIn K cd36 "NoWord.__init__" = true) (k36 : PySem.W.keepIn K (.ref f36) = true)
    (a37 : PySem.W.findIn K (.ref C_NoOrder) "__init__" = some (some (.ref f37))) (i37 : PySem.W.isFn K (.ref f37) = true) (l37 : K.lookup f37 = some ⟨oc37, od37, .func (PySem.W.fnOf "__init__" "NoOrder.__init__" (defArgs s_NoOrder____init__) (defBody s_NoOrder____init__) (defScope s_NoOrder____init__) .none kV37 dc37 pm37 an37 cd37 ct37), sl37⟩) (c37 : PySem.W.codeIn K cd37 "NoOrder.__init__" = true) (k37 : PySem.W.keepIn K (.ref f37) = true)
    (z_abs : PySem.W.nsIn K mainGlobals "abs" = some none)
    (z_all : PySem.W.nsIn K mainGlobals "all" = some none)
    (z_any : PySem.W.nsIn K mainGlobals "any" = some none)
    (z_dict : PySem.W.nsIn K mainGlobals "dict" = some none)
    (z_int : PySem.W.nsIn K mainGlobals "int" = some none)
    (z_isinstance : PySem.W.nsIn K mainGlobals "isinstance" = some none)
    (z_len : PySem.W.nsIn K mainGlobals "len" = some none)
    (z_list : PySem.W.nsIn K mainGlobals "list" = some none)
    (z_max : PySem.W.nsIn K mainGlobals "max" = some none)
    (z_min : PySem.W.nsIn K mainGlobals "min" = some none)
    (z_range : PySem.W.nsIn K mainGlobals "range" = some none)
    (z_sorted : PySem.W.nsIn K mainGlobals "sorted" = some none)
    (z_str : PySem.W.nsIn K mainGlobals "str" = some none)
    (z_tuple : PySem.W.nsIn K mainGlobals "tuple" = some none)
    {t_MOST_SIGNS : Tok}
    (g_MOST_SIGNS : PySem.W.nsIn K mainGlobals "MOST_SIGNS" = some (some (.int 12 t_MOST_SIGNS)))
    {t_WORD_SIGNS : Tok}
    (g_WORD_SIGNS : PySem.W.nsIn K mainGlobals "WORD_SIGNS" = some (some (.str (PySem.Str.ofString "abcdefghijklmnopqrstuvwxyz0123456789-") t_WORD_SIGNS)))
    (nd : PySem.W.nsIn K PySem.cStatics "sys.int_max_str_digits" = some none)
    {A_ORDERS : Addr} {h_ORDERS_1 : Int} {t_ORDERS_2 : Tok} {h_ORDERS_3 : Int} {t_ORDERS_4 : Tok} {h_ORDERS_5 : Int} {t_ORDERS_6 : Tok} {n_ORDERS : Nat}
    (g_ORDERS : PySem.W.nsIn K mainGlobals "ORDERS" = some (some (.ref A_ORDERS)))
    (u_ORDERS : K.lookup A_ORDERS = some ⟨.type "dict", none, .dict [⟨h_ORDERS_1, .str (PySem.Str.ofString "address") t_ORDERS_2, .ref f18⟩, ⟨h_ORDERS_3, .str (PySem.Str.ofString "title") t_ORDERS_4, .ref f19⟩, ⟨h_ORDERS_5, .str (PySem.Str.ofString "marks") t_ORDERS_6, .ref f20⟩].toArray n_ORDERS, #[]⟩)
    (lit_ORDERS : PySem.W.KeysLit w.params ([⟨h_ORDERS_1, .str (PySem.Str.ofString "address") t_ORDERS_2, .ref f18⟩, ⟨h_ORDERS_3, .str (PySem.Str.ofString "title") t_ORDERS_4, .ref f19⟩, ⟨h_ORDERS_5, .str (PySem.Str.ofString "marks") t_ORDERS_6, .ref f20⟩].toArray : Array DictEntry).toList) (low_ORDERS : (A_ORDERS == sysModules) = false)
    (lm3_0 : cd28 = .ref c0_0) (lm1_0 : K.lookup P0_0 = none) (lm2_0 : PySem.W.codeHdIn K c0_0 P0_0 = true)
    (lmnd : decide ([P0_0].Nodup) = true)
    : ∃ (fd : FuncData) (lms : Lms), lms.map (fun t => t.2.2) = ([("search", "search.<locals>.<lambda>")] : List (Str × Str)) ∧ (lms.map (·.2.1)).Nodup ∧ (∀ t ∈ lms, t.2.1 ∈ ts ∧ K.lookup t.2.1 = none ∧ PySem.W.codeHdIn K t.1 t.2.1 = true ∧ TabK K t.2.2.1 t.2.1) ∧ (∀ (s : Shared) (v : Value), BindsTo s fd ⟨[v], []⟩ [("_law_script", v)]) ∧ ∀ base : Heap, K.In base → base.Ns mainGlobals mg → (∀ t ∈ lms, LamX.TabB base mg t.1 t.2.1) → FnG l.prog w K mg base CX0 16 fa fd ["_law_script"] (lSp l.prog w K 1 D_law) := by
  subst lm3_0
  have lmtk_0 : TabK K "search" P0_0 := TabK.of ((resN_fn (by kernel_rfl)).trans a28) l28 rfl rfl lm2_0
  have e := hfa.symm.trans (PySem.W.mg_of X G a35)
  cases e
  have F1 := fun_mk (st := s__law_pot) l1 c1 k1
  have F2 := fun_mk (st := s__law_take) l2 c2 k2
  have F3 := fun_mk (st := s__law_some) l3 c3 k3
  have F4 := fun_mk (st := s__law_form) l4 c4 k4
  have F5 := fun_mk (st := s__law_title) l5 c5 k5
  have F6 := fun_mk (st := s__law_pages) l6 c6 k6
  have F7 := fun_mk (st := s_Listing____init__) l7 c7 k7
  have F8 := fun_mk (st := s__law_words) l8 c8 k8
  have F9 := fun_mk (st := s__law_folders) l9 c9 k9
  have F10 := fun_mk (st := s__law_pairs) l10 c10 k10
  have F11 := fun_mk (st := s_is_word) l11 c11 k11
  have F12 := fun_mk (st := s_is_path) l12 c12 k12
  have F13 := fun_mk (st := s_path_in) l13 c13 k13
  have F14 := fun_mk (st := s_is_plain_word) l14 c14 k14
  have F15 := fun_mk (st := s_is_search_word) l15 c15 k15
  have F16 := fun_mk (st := s_look_at_words) l16 c16 k16
  have F17 := fun_mk (st := s_Sought____init__) l17 c17 k17
  have F18 := fun_mk (st := s_address_key) l18 c18 k18
  have F19 := fun_mk (st := s_title_key) l19 c19 k19
  have F20 := fun_mk (st := s_marks_key) l20 c20 k20
  have F21 := fun_mk (st := s_led_to) l21 c21 k21
  have F22 := fun_mk (st := s_inside) l22 c22 k22
  have F23 := fun_mk (st := s_Listing__marked) l23 c23 k23
  have F24 := fun_mk (st := s_Sought__bears) l24 c24 k24
  have F25 := fun_mk (st := s_lies_within) l25 c25 k25
  have F26 := fun_mk (st := s_Sought__fits) l26 c26 k26
  have F27 := fun_mk (st := s_Sought__fits_row) l27 c27 k27
  have F28 := fune_mk (st := s_search) (dvs := [.str ⟨[97, 100, 100, 114, 101, 115, 115].toArray⟩, .bl false, .non]) l28 c28 k28 t28 (.cons (relS) (.cons (rfl) (.cons (rfl) (.nil)))) (List.cons_ne_nil _ _)
  obtain ⟨ds28_2, v28_2, b28_2⟩ := F28.binds1 (ps := ["listing", "rows", "order", "back", "most"]) 2 0 (List.cons_ne_nil _ _) rfl (fun T kV doc pm an cdv ct us its hu hi => match us, hu, its, hi with | [_, _], _, [_, _, _], _ => ⟨_, rfl, rfl⟩)
  obtain ⟨ds28_5, v28_5, b28_5⟩ := F28.binds1 (ps := ["listing", "rows", "order", "back", "most"]) 5 3 (List.cons_ne_nil _ _) rfl (fun T kV doc pm an cdv ct us its hu hi => match us, hu, its, hi with | [_, _, _, _, _], _, [_, _, _], _ => ⟨_, rfl, rfl⟩)
  have F29 := fun_mk (st := s__law_searched) l29 c29 k29
  have F30 := fun_mk (st := s__law_inside) l30 c30 k30
  have F31 := fun_mk (st := s__law_fits) l31 c31 k31
  have F32 := fun_mk (st := s__law_due) l32 c32 k32
  have F33 := fun_mk (st := s__law_piece) l33 c33 k33
  have F34 := fun_mk (st := s__law_search_word) l34 c34 k34
  have F35 := fun_mk (st := s_law) l35 c35 k35
  have F36 := fun_mk (st := s_NoWord____init__) l36 c36 k36
  have F37 := fun_mk (st := s_NoOrder____init__) l37 c37 k37
  have b1 := F1.binds (ps := ["_law_script", "_law_k"]) fun _ _ _ _ _ _ us hl => match us, hl with | [_, _], _ => rfl
  have b2 := F2.binds (ps := ["_law_pot_here", "_law_many"]) fun _ _ _ _ _ _ us hl => match us, hl with | [_, _], _ => rfl
  have b3 := F3.binds (ps := ["_law_pot_here", "_law_row", "_law_upto"]) fun _ _ _ _ _ _ us hl => match us, hl with | [_, _, _], _ => rfl
  have b4 := F4.binds (ps := ["_law_pot_here", "_law_words_here"]) fun _ _ _ _ _ _ us hl => match us, hl with | [_, _], _ => rfl
  have b5 := F5.binds (ps := ["_law_pot_here", "_law_words_here"]) fun _ _ _ _ _ _ us hl => match us, hl with | [_, _], _ => rfl
  have b6 := F6.binds (ps := ["_law_pot_here", "_law_words_here", "_law_marks", "_law_folders_here", "_law_upto"]) fun _ _ _ _ _ _ us hl => match us, hl with | [_, _, _, _, _], _ => rfl
  have b7 := F7.binds (ps := ["self", "folders", "pages", "pairs"]) fun _ _ _ _ _ _ us hl => match us, hl with | [_, _, _, _], _ => rfl
  have b8 := F8.binds (ps := ["_law_pot_here", "_law_many"]) fun _ _ _ _ _ _ us hl => match us, hl with | [_, _], _ => rfl
  have b9 := F9.binds (ps := ["_law_pot_here", "_law_words_here", "_law_upto"]) fun _ _ _ _ _ _ us hl => match us, hl with | [_, _, _], _ => rfl
  have b10 := F10.binds (ps := ["_law_pot_here", "_law_marks", "_law_upto"]) fun _ _ _ _ _ _ us hl => match us, hl with | [_, _, _], _ => rfl
  have b11 := F11.binds (ps := ["thing"]) fun _ _ _ _ _ _ us hl => match us, hl with | [_], _ => rfl
  have b12 := F12.binds (ps := ["thing"]) fun _ _ _ _ _ _ us hl => match us, hl with | [_], _ => rfl
  have b13 := F13.binds (ps := ["text"]) fun _ _ _ _ _ _ us hl => match us, hl with | [_], _ => rfl
  have b14 := F14.binds (ps := ["word"]) fun _ _ _ _ _ _ us hl => match us, hl with | [_], _ => rfl
  have b15 := F15.binds (ps := ["thing"]) fun _ _ _ _ _ _ us hl => match us, hl with | [_], _ => rfl
  have b16 := F16.binds (ps := ["rows"]) fun _ _ _ _ _ _ us hl => match us, hl with | [_], _ => rfl
  have b17 := F17.binds (ps := ["self", "listing"]) fun _ _ _ _ _ _ us hl => match us, hl with | [_, _], _ => rfl
  have b18 := F18.binds (ps := ["page"]) fun _ _ _ _ _ _ us hl => match us, hl with | [_], _ => rfl
  have b19 := F19.binds (ps := ["page"]) fun _ _ _ _ _ _ us hl => match us, hl with | [_], _ => rfl
  have b20 := F20.binds (ps := ["page"]) fun _ _ _ _ _ _ us hl => match us, hl with | [_], _ => rfl
  have b21 := F21.binds (ps := ["begun", "links"]) fun _ _ _ _ _ _ us hl => match us, hl with | [_, _], _ => rfl
  have b22 := F22.binds (ps := ["pairs", "mark"]) fun _ _ _ _ _ _ us hl => match us, hl with | [_, _], _ => rfl
  have b23 := F23.binds (ps := ["self", "mark"]) fun _ _ _ _ _ _ us hl => match us, hl with | [_, _], _ => rfl
  have b24 := F24.binds (ps := ["self", "form", "mark"]) fun _ _ _ _ _ _ us hl => match us, hl with | [_, _, _], _ => rfl
  have b25 := F25.binds (ps := ["paths", "path"]) fun _ _ _ _ _ _ us hl => match us, hl with | [_, _], _ => rfl
  have b26 := F26.binds (ps := ["self", "page", "word"]) fun _ _ _ _ _ _ us hl => match us, hl with | [_, _, _], _ => rfl
  have b27 := F27.binds (ps := ["self", "page", "row"]) fun _ _ _ _ _ _ us hl => match us, hl with | [_, _, _], _ => rfl
  have b29 := F29.binds (ps := ["_law_pot_here", "_law_told", "_law_rows", "_law_ranked_by", "_law_turn_about", "_law_limit"]) fun _ _ _ _ _ _ us hl => match us, hl with | [_, _, _, _, _, _], _ => rfl
  have b30 := F30.binds (ps := ["_law_pairs_here", "_law_mark"]) fun _ _ _ _ _ _ us hl => match us, hl with | [_, _], _ => rfl
  have b31 := F31.binds (ps := ["_law_page", "_law_pairs_here", "_law_word"]) fun _ _ _ _ _ _ us hl => match us, hl with | [_, _, _], _ => rfl
  have b32 := F32.binds (ps := ["_law_pages_here", "_law_pairs_here", "_law_rows", "_law_ranked_by", "_law_turn_about", "_law_limit"]) fun _ _ _ _ _ _ us hl => match us, hl with | [_, _, _, _, _, _], _ => rfl
  have b33 := F33.binds (ps := ["_law_pot_here", "_law_text"]) fun _ _ _ _ _ _ us hl => match us, hl with | [_, _], _ => rfl
  have b34 := F34.binds (ps := ["_law_pot_here", "_law_pages_here", "_law_folders_here", "_law_marks", "_law_words_here"]) fun _ _ _ _ _ _ us hl => match us, hl with | [_, _, _, _, _], _ => rfl
  have b35 := F35.binds (ps := ["_law_script"]) fun _ _ _ _ _ _ us hl => match us, hl with | [_], _ => rfl
  have b36 := F36.binds (ps := ["self", "word"]) fun _ _ _ _ _ _ us hl => match us, hl with | [_, _], _ => rfl
  have b37 := F37.binds (ps := ["self", "order"]) fun _ _ _ _ _ _ us hl => match us, hl with | [_, _], _ => rfl
  have kw28_0 := fune_kwb (ps := ["listing", "rows", "order", "back", "most"]) F28 2 ["order"] [.p 0, .p 1, .k 0, .d 1, .d 2] (List.cons_ne_nil _ _) (fun T kV doc pm an cdv ct us its ws l1 l2 l3 => match us, l1, its, l2, ws, l3 with | [_, _], _, [_, _, _], _, [_], _ => ⟨_, rfl, rfl⟩)
  have kw28_1 := fune_kwb (ps := ["listing", "rows", "order", "back", "most"]) F28 2 ["most", "back"] [.p 0, .p 1, .d 0, .k 1, .k 0] (List.cons_ne_nil _ _) (fun T kV doc pm an cdv ct us its ws l1 l2 l3 => match us, l1, its, l2, ws, l3 with | [_, _], _, [_, _, _], _, [_, _], _ => ⟨_, rfl, rfl⟩)
  have lmall : ∀ t ∈ ([(c0_0, P0_0, "search", "search.<locals>.<lambda>")] : Lms), t.2.1 ∈ ts ∧ K.lookup t.2.1 = none ∧ PySem.W.codeHdIn K t.1 t.2.1 = true ∧ TabK K t.2.2.1 t.2.1 := List.forall_mem_cons.mpr ⟨⟨lmts_0, lm1_0, lm2_0, lmtk_0⟩, (fun _ h => nomatch h)⟩
  refine ⟨PySem.W.fnOf "law" "law" (defArgs s_law) (defBody s_law) (defScope s_law) .none kV35 dc35 pm35 an35 cd35 ct35, [(c0_0, P0_0, "search", "search.<locals>.<lambda>")], rfl, of_decide_eq_true lmnd, lmall, fun s v => .of_eq rfl, fun base _ _ lmTB => ?_⟩
  have lmTB_0 := lmTB (c0_0, P0_0, "search", "search.<locals>.<lambda>") (List.mem_cons_self)
  -- the environment
  have g : FnG l.prog w K mg base CX0 (0 + 16) _ _ ["_law_script"] (lSp l.prog w K 1 D_law) := ok_law (⟨f1, _, F1, b1, PySem.W.mg_of X G a1, f2, _, F2, b2, PySem.W.mg_of X G a2, f3, _, F3, b3, PySem.W.mg_of X G a3, f4, _, F4, b4, PySem.W.mg_of X G a4, f5, _, F5, b5, PySem.W.mg_of X G a5, f6, _, F6, b6, PySem.W.mg_of X G a6, f7, _, F7, b7, f8, _, F8, b8, PySem.W.mg_of X G a8, f9, _, F9, b9, PySem.W.mg_of X G a9, f10, _, F10, b10, PySem.W.mg_of X G a10, f11, _, F11, b11, PySem.W.mg_of X G a11, f12, _, F12, b12, PySem.W.mg_of X G a12, f13, _, F13, b13, PySem.W.mg_of X G a13, f14, _, F14, b14, PySem.W.mg_of X G a14, f15, _, F15, b15, PySem.W.mg_of X G a15, f16, _, F16, b16, PySem.W.mg_of X G a16, f17, _, F17, b17, f18, _, F18, b18, PySem.W.mg_of X G a18, a18, f19, _, F19, b19, PySem.W.mg_of X G a19, a19, f20, _, F20, b20, PySem.W.mg_of X G a20, a20, f21, _, F21, b21, PySem.W.mg_of X G a21, f22, _, F22, b22, PySem.W.mg_of X G a22, f23, _, F23, b23, f24, _, F24, b24, f25, _, F25, b25, PySem.W.mg_of X G a25, f26, _, F26, b26, f27, _, F27, b27, f28, _, F28, ds28_2, v28_2, b28_2, ds28_5, v28_5, b28_5, kw28_0, kw28_1, PySem.W.mg_of X G a28, f29, _, F29, b29, PySem.W.mg_of X G a29, f30, _, F30, b30, PySem.W.mg_of X G a30, f31, _, F31, b31, PySem.W.mg_of X G a31, f32, _, F32, b32, PySem.W.mg_of X G a32, f33, _, F33, b33, PySem.W.mg_of X G a33, f34, _, F34, b34, PySem.W.mg_of X G a34, _, _, F35, b35, PySem.W.mg_of X G a35, f36, _, F36, b36, f37, _, F37, b37, C_Listing, ⟨aC_Listing, ⟨pg_Listing, hd_Listing, po_Listing, sa_Listing⟩⟩, PySem.W.mg_of X G aC_Listing, C_Sought, ⟨aC_Sought, ⟨pg_Sought, hd_Sought, po_Sought, sa_Sought⟩⟩, PySem.W.mg_of X G aC_Sought, C_NoWord, xn_NoWord, PySem.W.mg_of X G xn_NoWord, ⟨x1_NoWord, x2_NoWord, x3_NoWord, x4_NoWord, x5_NoWord, x6_NoWord, y1, y2, x7_NoWord⟩, C_NoOrder, xn_NoOrder, PySem.W.mg_of X G xn_NoOrder, ⟨x1_NoOrder, x2_NoOrder, x3_NoOrder, x4_NoOrder, x5_NoOrder, x6_NoOrder, y1, y2, x7_NoOrder⟩, C_KeptError, xn_KeptError, PySem.W.mg_of X G xn_KeptError, ⟨x1_KeptError, x2_KeptError, x3_KeptError, x4_KeptError, x5_KeptError, x6_KeptError, y1, y2, x7_KeptError⟩, ⟨⟨_, _, _, _, _, _, _, _, _, _, _, _, _, _, _, lx_NoWord, rv_NoWord⟩, xs_NoWord, x4_NoWord, xt_NoWord, xk_NoWord⟩, a36, beq_iff_eq.mp i36, no_NoWord_word, ⟨⟨_, _, _, _, _, _, _, _, _, _, _, _, _, _, _, lx_NoOrder, rv_NoOrder⟩, xs_NoOrder, x4_NoOrder, xt_NoOrder, xk_NoOrder⟩, a37, beq_iff_eq.mp i37, no_NoOrder_order, kr, kg, kf, ⟨mk_Listing, a7, i7, kc_Listing⟩, ⟨mk_Sought, a17, i17, kc_Sought⟩, na_Listing_folders, na_Listing_pages, na_Listing_pairs, na_Sought_bearers, na_Sought_sought_in, ⟨a23, i23, k23⟩, ⟨a24, i24, k24⟩, ⟨a26, i26, k26⟩, ⟨a27, i27, k27⟩, PySem.W.mg_none_of X G z_abs, PySem.W.mg_none_of X G z_all, PySem.W.mg_none_of X G z_any, PySem.W.mg_none_of X G z_dict, PySem.W.mg_none_of X G z_int, PySem.W.mg_none_of X G z_isinstance, PySem.W.mg_none_of X G z_len, PySem.W.mg_none_of X G z_list, PySem.W.mg_none_of X G z_max, PySem.W.mg_none_of X G z_min, PySem.W.mg_none_of X G z_range, PySem.W.mg_none_of X G z_sorted, PySem.W.mg_none_of X G z_str, PySem.W.mg_none_of X G z_tuple, t_MOST_SIGNS, PySem.W.mg_of X G g_MOST_SIGNS, t_WORD_SIGNS, PySem.W.mg_of X G g_WORD_SIGNS, A_ORDERS, ⟨⟨_, _, ⟨u_ORDERS, lit_ORDERS, low_ORDERS⟩, .cons ⟨keyc_is, vc_fn a18⟩ (.cons ⟨keyc_is, vc_fn a19⟩ (.cons ⟨keyc_is, vc_fn a20⟩ (.nil)))⟩⟩, PySem.W.mg_of X G g_ORDERS, c0_0, P0_0, lmTB_0, lmtk_0, rfl, nd⟩ : Env w base K mg) 0
  exact g
end K47
namespace K47
open PySem PySem.Spec PyProof.Rows KB
open L2 hiding op_eqD op_neD call_listD
variable {C : Cp} {Q : DQ} {E : Exn → Cp → Prop}
inductive Reach (es : List Ed) (b : List Nat) : List Nat → Prop where
  | base : Reach es b b
  | step {x y : List Nat} : Reach es b x → (x, y) ∈ es → Reach es b y
theorem reach_in {es : List Ed} {b : List Nat} {S : List (List Nat)} (hb : b ∈ S) (hc : ∀ x ∈ S, ∀ y, (x, y) ∈ es → y ∈ S) {x : List Nat} (h : Reach es b x) : x ∈ S := by
  induction h with
  | base => exact hb
  | step _ h ih => exact hc _ ih _ h
theorem reach_len {es : List Ed} {b : List Nat} {S : List (List Nat)} (hn : S.Nodup) (h : ∀ x ∈ S, Reach es b x) : S.length ≤ es.length + 1 := by
  have := nodup_len hn (ys := b :: es.map (·.2)) fun x hx => by
    cases h x hx with
    | base => exact List.mem_cons_self
    | step _ h => exact List.mem_cons_of_mem _ (List.mem_map.mpr ⟨_, h, rfl⟩)
  rw [List.length_cons, List.length_map] at this
  exact this
def ent (x : List Nat) : DKey × D := (.inr x, .bl true)
theorem look_ent (S : List (List Nat)) (y : List Nat) : (lookA (S.map ent) (.inr y)).isSome = decide (y ∈ S) := by
  rw [← lookA_any]
  induction S with
  | nil => simp
  | cons x r ih =>
    rw [List.map_cons, List.any_cons, ih]
    by_cases h : x = y
    · subst h; simp [ent]
    · have h' : ¬ (y = x) := fun e => h e.symm
      simp [ent, h, h']
theorem put_ent {S : List (List Nat)} {y : List Nat} (h : y ∉ S) : putA (S.map ent) (.inr y) (.bl true) = (S ++ [y]).map ent := by
  unfold putA
  rw [lookA_any, look_ent, if_neg (by simpa using h), List.map_append]
  rfl
theorem keys_ent (S : List (List Nat)) : ((S.map ent).map fun kv => keyD kv.1) = S.map D.str := by
  rw [List.map_map]
  rfl
theorem ed_at {es : List Ed} {i : Nat} {x : D} (h : (es.map edD)[i]? = some x) : ∃ a b, es[i]? = some (a, b) ∧ x = .tup [.str a, .str b] := by
  rw [List.getElem?_map] at h
  cases e : es[i]? with
  | none => rw [e] at h; cases h
  | some z =>
    rw [e] at h
    exact ⟨z.1, z.2, rfl, (Option.some.inj h).symm⟩
theorem mem_take_succ {α : Type} {xs : List α} {i : Nat} {a b : α} (e : xs[i]? = some b) (h : a ∈ xs.take (i + 1)) : a ∈ xs.take i ∨ a = b := by
  rw [List.take_add_one, e] at h
  rcases List.mem_append.mp h with h | h
  · exact .inl h
  · exact .inr (by simpa using h)
theorem last_at {α : Type} {xs : List α} (h : xs ≠ []) : ∃ x, xs[xs.length - 1]? = some x ∧ xs = xs.dropLast ++ [x] := ⟨xs.getLast h, by rw [← List.getLast?_eq_getElem?, List.getLast?_eq_some_getLast h], (List.dropLast_concat_getLast h).symm⟩
def Src (C : Cp) (src : D) (es : List Ed) : Prop := ∃ r, src = .ptr r ∧ isL C r (es.map edD)
theorem led_to {b : List Nat} {es : List Ed} {src : D} (hs : Src C src es) (hl : es.length ≤ 200) (k : ∀ (S : List (List Nat)) C', S.Nodup → (∀ x, x ∈ S ↔ Reach es b x) → Kp (fun _ => False) C C' → Q (.tup ((S.map D.str).mergeSort leP)) C') : D_led_to [.str b, src] C Q E := by
  unfold D_led_to runD r_led_to
  try simp only [List.length, Nat.reduceAdd, dSeq, dAsg, dDisp, dPairs, dVar, List.map, Nat.reduceSub, List.replicate, List.cons_append, List.nil_append, List.getElem?_cons_zero, Option.some.injEq, dC, gNm, dLst, dCons, List.set_cons_succ, List.set_cons_zero, dNil, Nat.reduceLeDiff, true_and, exists_eq_left']
  refine ⟨[ent b], rfl, by simp, fun d hd => ?_⟩
  intro w hw
  have wd : w ≠ d := ne_fresh up_same hw
  have zw : C w = none := by rw [← hw, up_ne wd]
  have c1 : up (up C d (.dk (mergeA [] [ent b]))) w (.lst [.str b]) d = some (.dk ([b].map ent)) := by rw [up_ne (Ne.symm wd), up_same]; rfl
  have c2 : up (up C d (.dk (mergeA [] [ent b]))) w (.lst [.str b]) w = some (.lst ([b].map D.str)) := up_same
  have k1 : Kp (fun r => r = d ∨ r = w) C (up (up C d (.dk (mergeA [] [ent b]))) w (.lst [.str b])) := ((Kp.refl C).put (.inl rfl)).put (.inr rfl)
  generalize up (up C d (.dk (mergeA [] [ent b]))) w (.lst [.str b]) = C1 at c1 c2 k1
  unfold dWhile
  refine ⟨fun m sl C' => ∃ (x4 x5 x6 : Option D) (S ws : List (List Nat)), sl = [some (.str b), some src, some (.ptr d), some (.ptr w), x4, x5, x6] ∧ C' d = some (.dk (S.map ent)) ∧ C' w = some (.lst (ws.map D.str)) ∧ S.Nodup ∧ b ∈ S ∧ (∀ x ∈ S, Reach es b x) ∧ (∀ x ∈ ws, x ∈ S) ∧ (∀ x ∈ S, x ∉ ws → ∀ y, (x, y) ∈ es → y ∈ S) ∧ m = 2 * (es.length + 1 - S.length) + ws.length ∧ m ≤ 500 ∧ Kp (fun r => r = d ∨ r = w) C C',
    ⟨_, none, none, none, [b], [b], rfl, c1, c2, by simp, by simp, by intro x hx; rw [List.mem_singleton.mp hx]; exact .base, fun x hx => hx, fun x hx hn => absurd hx hn, rfl, by simp; omega, k1⟩, fun m sl C2 hW => ?_⟩
  obtain ⟨x4, x5, x6, S, ws, rfl, d1, d2, nd, hb, hr, hsub, hcl, rfl, h500, k2⟩ := hW
  try simp only [dTest, dOp, dVar, List.getElem?_cons_succ, List.getElem?_cons_zero, Option.some.injEq, dLst, dNil, List.length, Nat.reduceLeDiff, true_and, exists_eq_left']
  intro z hz
  have zd : z ≠ d := ne_fresh d1 hz
  have zw2 : z ≠ w := ne_fresh d2 hz
  refine ⟨_, _, _, rfl, rfl, .inl (at_ne d2 (Ne.symm zw2)), .inl up_same, ?_⟩
  have e1 := at_ne d1 (c' := .lst []) (Ne.symm zd)
  have e2 := at_ne d2 (c' := .lst []) (Ne.symm zw2)
  have k3 : Kp (fun r => r = d ∨ r = w) C (up C2 z (.lst [])) := k2.new hz
  generalize up C2 z (.lst []) = C3 at e1 e2 k3
  try simp only [if_true, D.bl.injEq, exists_eq_left']
  split
  · rename_i hne
    have hne : ws ≠ [] := by
      intro e
      subst e
      exact absurd hne (by decide)
    obtain ⟨h, h1, h2⟩ := last_at hne
    unfold l_led_to_2
    try simp only [dSeq, dAsg, dBM0, dVar, List.getElem?_cons_succ, List.getElem?_cons_zero, Option.some.injEq, gNm, List.set_cons_succ, List.set_cons_zero, exists_eq_left']
    refine ⟨tyL (.inl e2), pop_l e2 (d := .str h) ?_ ?_⟩
    · rw [List.length_map, List.getElem?_map, h1]
      rfl
    have hh : h ∈ S := hsub h (by rw [h2]; simp)
    have f1 := at_ne e1 (c' := .lst (ws.map D.str).dropLast) (Ne.symm wd)
    have f2 : up C3 w (.lst (ws.map D.str).dropLast) w = some (.lst (ws.dropLast.map D.str)) := by rw [up_same, List.map_dropLast]
    have k4 : Kp (fun r => r = d ∨ r = w) C (up C3 w (.lst (ws.map D.str).dropLast)) := k3.put (.inr rfl)
    generalize up C3 w (.lst (ws.map D.str).dropLast) = C4 at f1 f2 k4
    have lws : ws.length = ws.dropLast.length + 1 := by
      have := List.length_pos_iff.mpr hne
      rw [List.length_dropLast]
      omega
    unfold dFor
    have body : ∀ (ok : Cp → Prop), (∀ C', Kp (fun r => r = d ∨ r = w) C C' → ok C') → ∃ Pv : Nat → Sl → Cp → Prop, Pv 0 [some (.str b), some src, some (.ptr d), some (.ptr w), some (.str h), x5, x6] C4 ∧ (∀ i s C, i ≤ (es.map edD).length → Pv i s C → ok C) ∧
        (∀ i x s C, (es.map edD)[i]? = some x → Pv i s C → gTp 2 (gCn (gNm 5) (gCn (gNm 6) gNl)) x s C fun s2 C2' => l_led_to_1 { nx := fun s' C' => ∃ C'', Sub C'' C' ∧ Pv (i + 1) s' C'', rt := fun d C' => ∃ C'', Sub C'' C' ∧ Q d C'', bk := fun s' C' => ∃ m', m' < 2 * (es.length + 1 - S.length) + ws.length ∧ ∃ C'', Sub C'' C' ∧ ∃ (x4 x5 x6 : Option D) (S ws : List (List Nat)), s' = [some (.str b), some src, some (.ptr d), some (.ptr w), x4, x5, x6] ∧ C'' d = some (.dk (S.map ent)) ∧ C'' w = some (.lst (ws.map D.str)) ∧ S.Nodup ∧ b ∈ S ∧ (∀ x ∈ S, Reach es b x) ∧ (∀ x ∈ ws, x ∈ S) ∧ (∀ x ∈ S, x ∉ ws → ∀ y, (x, y) ∈ es → y ∈ S) ∧ m' = 2 * (es.length + 1 - S.length) + ws.length ∧ m' ≤ 500 ∧ Kp (fun r => r = d ∨ r = w) C C'', ct := fun s' C' => ∃ C'', Sub C'' C' ∧ Pv (i + 1) s' C'' } s2 C2') ∧
        ∀ s C', Pv (es.map edD).length s C' → ∃ m', m' < 2 * (es.length + 1 - S.length) + ws.length ∧ ∃ C'', Sub C'' C' ∧ ∃ (x4 x5 x6 : Option D) (S ws : List (List Nat)), s = [some (.str b), some src, some (.ptr d), some (.ptr w), x4, x5, x6] ∧ C'' d = some (.dk (S.map ent)) ∧ C'' w = some (.lst (ws.map D.str)) ∧ S.Nodup ∧ b ∈ S ∧ (∀ x ∈ S, Reach es b x) ∧ (∀ x ∈ ws, x ∈ S) ∧ (∀ x ∈ S, x ∉ ws → ∀ y, (x, y) ∈ es → y ∈ S) ∧ m' = 2 * (es.length + 1 - S.length) + ws.length ∧ m' ≤ 500 ∧ Kp (fun r => r = d ∨ r = w) C C'' := by
      intro ok hok
      refine ⟨fun i sl C' => ∃ (x5 x6 : Option D) (S' ws' : List (List Nat)), sl = [some (.str b), some src, some (.ptr d), some (.ptr w), some (.str h), x5, x6] ∧ C' d = some (.dk (S'.map ent)) ∧ C' w = some (.lst (ws'.map D.str)) ∧ S'.Nodup ∧ (∀ x ∈ S, x ∈ S') ∧ (∀ x ∈ S', Reach es b x) ∧ (∀ x ∈ ws', x ∈ S') ∧ (∀ x ∈ S', x ∉ ws' → x ≠ h → ∀ y, (x, y) ∈ es → y ∈ S') ∧ (∀ y, (h, y) ∈ es.take i → y ∈ S') ∧ 2 * (es.length + 1 - S'.length) + ws'.length ≤ 2 * (es.length + 1 - S.length) + ws.dropLast.length ∧ Kp (fun r => r = d ∨ r = w) C C',
        ⟨x5, x6, S, ws.dropLast, rfl, f1, f2, nd, fun x hx => hx, hr, fun x hx => hsub x (by rw [h2]; exact List.mem_append_left _ hx), fun x hx hn hne y hy => hcl x hx (fun hm => ?_) y hy, by simp, Nat.le_refl _, k4⟩, fun _ _ _ _ hp => ?_, fun i x sl C5 e hp => ?_, fun sl C5 hp => ?_⟩
      · rw [h2] at hm
        rcases List.mem_append.mp hm with hm | hm
        · exact hn hm
        · exact hne (List.mem_singleton.mp hm)
      · obtain ⟨_, _, _, _, _, _, _, _, _, _, _, _, _, _, kk⟩ := hp
        exact hok _ kk
      · obtain ⟨a, c, ee, rfl⟩ := ed_at e
        obtain ⟨y5, y6, S', ws', rfl, g1, g2, nd', hSS, hr', hsub', hcl', hdone, hm, k5⟩ := hp
        unfold l_led_to_1
        try simp only [gTp, D.tup.injEq, gCn, gNm, gNl, dIf, dAnd, dTest, dOp, dVar, List.set_cons_succ, List.set_cons_zero, List.getElem?_cons_succ, List.getElem?_cons_zero, Option.some.injEq, dSeq, dSetI, dC, dDrop, dBM, dCons, dNil, List.cons.injEq, and_true, true_and, exists_eq_left', dNext, Bool.false_eq_true, if_false, List.length, Nat.reduceAdd, ex2, eqR_ss, D.bl.injEq, beq_iff_eq]
        have same : (a = h → c ∈ S') → ∃ C'', Sub C'' C5 ∧ ∃ (x5 x6 : Option D) (S'' ws'' : List (List Nat)), (some (D.str a) = x5 ∧ some (D.str c) = x6) ∧ C'' d = some (.dk (S''.map ent)) ∧ C'' w = some (.lst (ws''.map D.str)) ∧ S''.Nodup ∧ (∀ x ∈ S, x ∈ S'') ∧ (∀ x ∈ S'', Reach es b x) ∧ (∀ x ∈ ws'', x ∈ S'') ∧ (∀ x ∈ S'', x ∉ ws'' → x ≠ h → ∀ y, (x, y) ∈ es → y ∈ S'') ∧ (∀ y, (h, y) ∈ es.take (i + 1) → y ∈ S'') ∧ 2 * (es.length + 1 - S''.length) + ws''.length ≤ 2 * (es.length + 1 - S.length) + ws.dropLast.length ∧ Kp (fun r => r = d ∨ r = w) C C'' := fun hc =>
          ⟨C5, Sub.refl _, _, _, S', ws', ⟨rfl, rfl⟩, g1, g2, nd', hSS, hr', hsub', hcl', fun y hy => by
            rcases mem_take_succ ee hy with hy | hy
            · exact hdone y hy
            · cases hy; exact hc rfl, hm, k5⟩
        split
        · rename_i hah
          subst hah
          skip
          refine inKD g1 (k := .inr c) ?_
          rw [look_ent]
          try simp only [if_true, D.bl.injEq, exists_eq_left']
          split
          · rename_i hc
            have hc : c ∉ S' := by simpa using hc
            have hrc : Reach es b c := .step (hr' _ (hSS _ hh)) (List.mem_of_getElem? ee)
            have hnd : (S' ++ [c]).Nodup := by
              rw [List.nodup_append]
              refine ⟨nd', by simp, fun x hx y hy => ?_⟩
              rw [List.mem_singleton.mp hy]
              intro z; subst z; exact hc hx
            have hrr : ∀ x ∈ S' ++ [c], Reach es b x := fun x hx => by
              rcases List.mem_append.mp hx with hx | hx
              · exact hr' x hx
              · rw [List.mem_singleton.mp hx]; exact hrc
            have ln := reach_len hnd hrr
            have ln' := reach_len nd' hr'
            rw [List.length_append, List.length_singleton] at ln
            refine put_k g1 (.inr c) (by rw [List.length_map, sizeLine_eq]; omega) ?_
            rw [put_ent hc]
            refine ⟨tyL (.inl (at_ne g2 wd)), app_l (at_ne g2 wd) ?_ ?_⟩
            · rw [List.length_map, sizeLine_eq]
              have := reach_len nd hr
              have := List.length_pos_of_mem hb
              omega
            · refine ⟨_, Sub.refl _, _, _, S' ++ [c], ws' ++ [c], ⟨rfl, rfl⟩, ?_, ?_, hnd, fun x hx => List.mem_append_left _ (hSS x hx), hrr, fun x hx => ?_, fun x hx hn hne y hy => ?_, fun y hy => ?_, ?_, (k5.put (.inl rfl)).put (.inr rfl)⟩
              · rw [up_ne (Ne.symm wd), up_same]
              · rw [up_same, List.map_append]; rfl
              · rcases List.mem_append.mp hx with hx | hx
                · exact List.mem_append_left _ (hsub' x hx)
                · exact List.mem_append_right _ hx
              · rcases List.mem_append.mp hx with hx | hx
                · exact List.mem_append_left _ (hcl' x hx (fun z => hn (List.mem_append_left _ z)) hne y hy)
                · exact absurd (List.mem_append_right _ hx) hn
              · rcases mem_take_succ ee hy with hy | hy
                · exact List.mem_append_left _ (hdone y hy)
                · cases hy; exact List.mem_append_right _ List.mem_cons_self
              · simp only [List.length_append, List.length_singleton]
                omega
          · rename_i hc
            exact same fun _ => by simpa using hc
        · rename_i hah
          exact same fun z => absurd z hah
      · obtain ⟨y5, y6, S', ws', rfl, g1, g2, nd', hSS, hr', hsub', hcl', hdone, hm, k5⟩ := hp
        rw [List.length_map, List.take_length] at hdone
        refine ⟨_, by omega, C5, Sub.refl _, _, _, _, S', ws', rfl, g1, g2, nd', hSS _ hb, hr', hsub', fun x hx hn y hy => ?_, rfl, by omega, k5⟩
        by_cases hxh : x = h
        · subst hxh; exact hdone y hy
        · exact hcl' x hx hn hxh y hy
    obtain ⟨r, hs, hrl⟩ := hs
    subst hs
    unfold dOver
    try simp only [dVar, List.getElem?_cons_succ, List.getElem?_cons_zero, Option.some.injEq, gTp, gCn, gNm, gNl, exists_eq_left']
    have nr : ¬ (r = d ∨ r = w) := by
      rintro (e | e)
      · subst e; rcases hrl with e | e <;> (rw [hd] at e; cases e)
      · subst e; rcases hrl with e | e <;> (rw [zw] at e; cases e)
    exact ⟨_, k4.isL nr hrl, body _ fun C' kk => kk.isL nr hrl⟩
  · rename_i hne
    have hne : ws = [] := by
      cases ws with
      | nil => rfl
      | cons => exact absurd rfl hne
    subst hne
    unfold r_led_to_1
    try simp only [dRet, dCB, dCons, dVar, List.getElem?_cons_succ, List.getElem?_cons_zero, Option.some.injEq, dNil, exists_eq_left']
    refine sorted_l (xs := S.map D.str) (.inr (.inl ⟨_, e1, (keys_ent S).symm⟩)) (sortOk_strs S) fun u hu => ?_
    refine tuple_l (.inl up_same) ⟨_, Sub.refl _, ?_⟩
    refine k S _ nd (fun x => ⟨hr x, fun h => reach_in hb (fun x hx y hy => hcl x hx (by simp) y hy) h⟩) fun r c _ e => ?_
    refine (k3.new hu) r c ?_ e
    rintro (h | h)
    · subst h; rw [hd] at e; cases e
    · subst h; rw [zw] at e; cases e
end K47
namespace K47
open PySem PySem.Spec PyProof.Rows KB
open L2 hiding op_eqD op_neD call_listD
variable {C : Cp} {Q : DQ} {E : Exn → Cp → Prop}
def IsR (es : List Ed) (b : List Nat) (t : List D) : Prop := ∃ S : List (List Nat), S.Nodup ∧ (∀ x, x ∈ S ↔ Reach es b x) ∧ t = (S.map D.str).mergeSort leP
theorem IsR.uniq {es : List Ed} {b : List Nat} {t u : List D} : IsR es b t → IsR es b u → t = u := by
  rintro ⟨S, n1, h1, rfl⟩ ⟨T, n2, h2, rfl⟩
  exact sort_eq ((perm_of n1 n2 fun x => (h1 x).trans (h2 x).symm).map _) strs_inj
theorem IsR.strs {es : List Ed} {b : List Nat} {t : List D} (h : IsR es b t) (hl : es.length ≤ 200) : ∃ ts : List (List Nat), t = ts.map D.str ∧ ts.length ≤ 201 ∧ ∀ x, x ∈ ts ↔ Reach es b x := by
  obtain ⟨S, n1, h1, rfl⟩ := h
  obtain ⟨ts, e⟩ := any_map D.str (P := fun _ => True) (xs := (S.map D.str).mergeSort leP) fun d hd => by
    obtain ⟨x, _, rfl⟩ := List.mem_map.mp ((List.mergeSort_perm _ leP).mem_iff.mp hd)
    exact ⟨x, rfl⟩
  refine ⟨ts, e, ?_, fun x => ?_⟩
  · have h2 := congrArg List.length e
    rw [List.length_mergeSort, List.length_map, List.length_map] at h2
    have := reach_len n1 fun x hx => (h1 x).mp hx
    omega
  · rw [← h1 x]
    have m1 : x ∈ ts ↔ D.str x ∈ ts.map D.str := ⟨fun h => List.mem_map.mpr ⟨x, h, rfl⟩, fun h => by
      obtain ⟨y, hy, e⟩ := List.mem_map.mp h
      cases e; exact hy⟩
    have m2 : x ∈ S ↔ D.str x ∈ S.map D.str := ⟨fun h => List.mem_map.mpr ⟨x, h, rfl⟩, fun h => by
      obtain ⟨y, hy, e⟩ := List.mem_map.mp h
      cases e; exact hy⟩
    rw [m1, m2, ← e]
    exact (List.mergeSort_perm _ leP).mem_iff
abbrev None : Addr → Prop := fun _ => False
theorem led_to' {b : List Nat} {es : List Ed} {src : D} (hs : Src C src es) (hl : es.length ≤ 200) (k : ∀ t C', IsR es b t → Kp None C C' → Q (.tup t) C') : D_led_to [.str b, src] C Q E :=
  led_to hs hl fun S C' n h kk => k _ C' ⟨S, n, h, rfl⟩ kk
def sw (e : Ed) : Ed := (e.2, e.1)
theorem src_list {es : List Ed} {r : Addr} {c : Cell} (h : c = .lst (es.map edD)) : Src (up C r c) (.ptr r) es := by
  subst h
  exact ⟨r, rfl, .inl up_same⟩
theorem inside {b : List Nat} {es : List Ed} (hl : es.length ≤ 200) (k : ∀ t C', IsR (es.map sw) b t → Kp None C C' → Q (.tup t) C') : D_inside [.tup (es.map edD), .str b] C Q E := by
  unfold D_inside runD r_inside
  try simp only [List.length, Nat.reduceAdd, dRet, dCall, dCons, dVar, List.map, Nat.reduceSub, List.replicate, List.cons_append, List.nil_append, List.getElem?_cons_succ, List.getElem?_cons_zero, Option.some.injEq, dNil, List.append_nil, exists_eq_left', true_and]
  unfold dLc
  try unfold dOverT
  try simp only [dVar, List.getElem?_cons_zero, Option.some.injEq, gTp, gCn, gNm, gNl, dYes, dTup, dCons, wipeD, List.foldr_cons, List.foldr_nil, List.set_cons_succ, List.set_cons_zero, List.getElem?_cons_succ, dNil, List.length, Nat.reduceAdd, Nat.reduceLeDiff, true_and, exists_eq_left', if_true]
  refine ⟨fun i acc C' => acc = ((es.map sw).take i).map edD ∧ C' = C, ⟨by simp, rfl⟩, fun _ _ _ _ _ => trivial, fun i x acc C' e hp hi => ?_, by rw [List.length_map, sizeLine_eq]; omega, fun acc C' p hp hn => ?_⟩
  · obtain ⟨rfl, rfl⟩ := hp
    obtain ⟨a, c, ee, rfl⟩ := ed_at e
    try simp only [D.tup.injEq, exists_eq_left', List.length, Nat.reduceAdd, List.cons.injEq, ex2, true_and]
    refine ⟨C', Sub.refl _, ?_, rfl⟩
    rw [List.take_add_one, List.getElem?_map, ee, List.map_append]
    rfl
  · obtain ⟨rfl, rfl⟩ := hp
    refine led_to' (src_list (by rw [List.length_map, List.take_of_length_le (by rw [List.length_map]; exact Nat.le_refl _)])) (by rw [List.length_map]; exact hl) fun t C2 h kk => ⟨C2, Sub.refl _, k t C2 h (((Kp.refl _).new hn).trans kk)⟩
theorem reach_pre {es : List Ed} {x y z : List Nat} (h : (x, y) ∈ es) (r : Reach es y z) : Reach es x z := by
  induction r with
  | base => exact .step .base h
  | step _ h2 ih => exact .step ih h2
theorem reach_back {es fs : List Ed} (hf : ∀ x y, (x, y) ∈ es → (y, x) ∈ fs) {o i : List Nat} (r : Reach es o i) : Reach fs i o := by
  induction r with
  | base => exact .base
  | step _ h ih => exact reach_pre (hf _ _ h) ih
theorem mem_sw {es : List Ed} {x y : List Nat} : (x, y) ∈ es.map sw ↔ (y, x) ∈ es := by
  constructor
  · intro h
    obtain ⟨⟨a, b⟩, h1, e⟩ := List.mem_map.mp h
    cases e
    exact h1
  · intro h
    exact List.mem_map.mpr ⟨_, h, rfl⟩
theorem reach_sw {es : List Ed} {o i : List Nat} : Reach es o i ↔ Reach (es.map sw) i o := ⟨reach_back fun x y h => mem_sw.mpr h, reach_back fun x y h => mem_sw.mp h⟩
end K47
namespace K47
open PySem PySem.Spec PyProof.Rows KB
open L2 hiding op_eqD op_neD call_listD
/-- the pot: a great number, a seed -/
structure PS where
  a : Int
  b : Int
  a0 : 0 ≤ a
  a1 : a < ((10 ^ 900 : Nat) : Int)
  b0 : 0 ≤ b
  b1 : b < 2305843009213693951
def PS.c (s : PS) : Cell := .lst [.int s.a, .int s.b]
variable {S : Addr → Prop} {C0 C : Cp} {L L1 L2 : List Ent} {p q r : Addr} {s : PS} {Q : DQ} {E : Exn → Cp → Prop}
theorem take {m : Int} (h : St S C0 C L) (d : Del L p s.c true L1) (m0 : 0 < m) (m1 : m < 2 ^ 60) (k : ∀ (t : Nat) (s' : PS) C', (t : Int) < m → St S C0 C' ((p, s'.c, true) :: L1) → Q (.int t) C') : D__law_take [.ptr p, .int m] C Q E := by
  have h := h.front d
  obtain ⟨a, b, a0, a1, b0, b1⟩ := s
  unfold PS.c at h
  unfold D__law_take runD r__law_take
  try simp only [List.length, Nat.reduceAdd, List.map, Nat.reduceSub, List.replicate, List.cons_append, List.nil_append, dSeq_p, dIf_p, dAsg_p, gNm_p, List.set_cons_succ, List.set_cons_zero, dSetI_p, dRet_p, dVar_p, List.getElem?_cons_succ, List.getElem?_cons_zero, Option.some.injEq, exists_eq_left', dC_p, dOp_p, dNext_p, dTest_p, true_and]
  refine ix_st h (by (repeat (first | exact KB.At.here | assumption | apply KB.At.there))) rfl ?_
  try simp only [gtD_ii_p, D.bl.injEq, exists_eq_left', decide_eq_true_eq]
  split
  · refine ix_st h (by (repeat (first | exact KB.At.here | assumption | apply KB.At.there))) rfl ?_
    try simp only [modD_ii_p]
    refine ⟨m0, ?_⟩
    refine ix_st h (by (repeat (first | exact KB.At.here | assumption | apply KB.At.there))) rfl ?_
    try simp only [fdivD_ii_p]
    refine ⟨CDivW_small ⟨m0, by omega⟩, ?_⟩
    refine set_st h (j := 0) rfl (by (repeat (first | exact KB.Upd.here | assumption | apply KB.Upd.there))) fun C h => ?_
    skip
    refine ret_k ?_
    have e0 := Int.emod_nonneg a (b := m) (by omega)
    have e1 := Int.emod_lt_of_pos a m0
    have z0 : 0 ≤ a / m := Int.ediv_nonneg a0 (by omega)
    have z1 : a / m < ((10 ^ 900 : Nat) : Int) := Int.lt_of_le_of_lt (Int.ediv_le_self m a0) a1
    have := k (a % m).toNat ⟨a / m, b, z0, z1, b0, b1⟩ C (by omega) h
    rw [Int.toNat_of_nonneg e0] at this
    exact this
  · unfold r__law_take_1
    try simp only [dSeq_p, dSetI_p, dRet_p, dOp_p, dVar_p, List.getElem?_cons_succ, List.getElem?_cons_zero, Option.some.injEq, exists_eq_left', dC_p]
    refine ix_st h (by (repeat (first | exact KB.At.here | assumption | apply KB.At.there))) rfl ?_
    try simp only [mulD_ii_p, addD_ii_p, modD_ii_p]
    refine ⟨CMulW_small (by omega), by decide, ?_⟩
    generalize hsd : (b * 1181783497276652981 + 12345678910987) % 2305843009213693951 = sd
    have s0 : 0 ≤ sd := by rw [← hsd]; exact Int.emod_nonneg _ (by decide)
    have s1 : sd < 2305843009213693951 := by rw [← hsd]; exact Int.emod_lt_of_pos _ (by decide)
    refine set_st h (j := 1) rfl (by (repeat (first | exact KB.Upd.here | assumption | apply KB.Upd.there))) fun C h => ?_
    skip
    refine ix_st h (by (repeat (first | exact KB.At.here | assumption | apply KB.At.there))) rfl ?_
    try simp only [fdivD_ii_p]
    refine ⟨CDivW_small (by decide), ?_⟩
    refine ix_st h (by (repeat (first | exact KB.At.here | assumption | apply KB.At.there))) rfl ?_
    try simp only [modD_ii_p, addD_ii_p, mulD_ii_p, fdivD_ii_p]
    have u0 := Int.emod_nonneg sd (b := 65537) (by decide)
    have u1 := Int.emod_lt_of_pos sd (b := 65537) (by decide)
    have v0 : 0 ≤ sd / 65537 := Int.ediv_nonneg s0 (by decide)
    have v1 : sd / 65537 < 2 ^ 62 := by omega
    refine ⟨by decide, CMulW_small (by omega), by decide, CDivW_small (by decide), m0, ?_⟩
    refine ret_k ?_
    generalize hx : _ % m = x
    have e0 : 0 ≤ x := by rw [← hx]; exact Int.emod_nonneg _ (by omega)
    have e1 : x < m := by rw [← hx]; exact Int.emod_lt_of_pos _ m0
    have := k x.toNat ⟨a, sd, a0, a1, s0, s1⟩ C (by omega) h
    rw [Int.toNat_of_nonneg e0] at this
    exact this
end K47
namespace K47
open PySem PySem.Spec PyProof.Rows KB
open L2 hiding op_eqD op_neD call_listD
variable {S : Addr → Prop} {C0 C : Cp} {L L1 L2 : List Ent} {p q r : Addr} {s : PS} {Q : DQ} {E : Exn → Cp → Prop}
theorem zeros (n : Nat) : (List.replicate n [48]).flatten = List.replicate n 48 := by
  induction n with
  | zero => rfl
  | succ n ih => rw [List.replicate_succ, List.replicate_succ, List.flatten_cons, ih]; rfl
theorem pot_tail {cell : Int} {sc : D} {ki : Int} (h : St S C0 C L) (hk : 0 ≤ ki ∧ ki < 64) (k : ∀ p (s' : PS) C', St S C0 C' ((p, s'.c, true) :: L) → Q (.ptr p) C') : r__law_pot_1 { nx := fun _ C' => ∃ C'', KB.Sub C'' C' ∧ Q D.non C'', rt := fun d C' => ∃ C'', KB.Sub C'' C' ∧ Q d C'' } [some sc, some (.int ki), some (.int cell), none] C := by
  unfold r__law_pot_1
  try simp only [dSeq_p, dAsg_p, gNm_p, List.set_cons_succ, List.set_cons_zero, dRet_p, dLst_e_p, dCons_p, List.length, Nat.reduceLeDiff, dNil_p, true_and, dOp_p, dC_p, dVar_p, List.getElem?_cons_succ, List.getElem?_cons_zero, Option.some.injEq, exists_eq_left', mulD_ii_p, modD_ii_p, addD_ii_p, dCB_p, powE_ii_p, Int.reduceToNat, Int.reducePow, abs_ii, geD_ii_p, intR_b, decide_eq_true_eq]
  refine mulS_st ⟨by decide, by decide, by rw [sizeLine_eq]; decide⟩ ?_
  have hz : (List.replicate (900 : Int).toNat [48]).flatten = List.replicate 900 48 := zeros 900
  rw [hz]
  have hlz : (List.replicate 900 48).length = 900 := List.length_replicate
  have hb := PySem.W.KIN.big900
  revert hlz hb
  generalize List.replicate 900 48 = zz
  intro hlz hb
  have hg : (0 : Int) < ((10 ^ 900 : Nat) : Int) := Int.natCast_pos.mpr (Nat.pow_pos (by decide))
  have hg2 : (10 ^ 900 : Nat) < 2 ^ 3600 := by
    have h1 : (10 ^ 900 : Nat) < (2 ^ 4) ^ 900 := Nat.pow_lt_pow_left (by decide) (by decide)
    rwa [← Nat.pow_mul] at h1
  have hP : ∀ a : Int, 0 ≤ a → a < ((10 ^ 900 : Nat) : Int) → ∀ t : Bool, CMulW a (if t = true then 1 else 0) ∧ 0 ≤ a * (if t = true then 1 else 0) ∧ a * (if t = true then 1 else 0) < ((10 ^ 900 : Nat) : Int) := by
    intro a a0 a1 t
    refine ⟨wide_mul (a := 3600) (b := 64) ?_ (by cases t <;> decide) (by decide) (by decide) (by decide), ?_, ?_⟩
    · have : a.natAbs < 10 ^ 900 := by omega
      exact Nat.lt_trans this hg2
    · cases t <;> simp <;> omega
    · cases t <;> simp <;> omega
  revert hg hb hP
  generalize hG : ((10 ^ 900 : Nat) : Int) = G
  intro hg hb hP
  try simp only [addD_ss_p, List.length, Nat.reduceAdd, List.cons_append, List.nil_append]
  refine ⟨by rw [hlz, sizeLine_eq]; decide, ⟨_, G, rfl, hg, ?_⟩⟩
  try simp only [modD_ii_p, mulD_ii_p]
  refine ⟨hb, by decide, ?_⟩
  have e0 := Int.emod_nonneg (if cell < 0 then -cell else cell) (b := G) (by omega)
  have e1 := Int.emod_lt_of_pos (if cell < 0 then -cell else cell) hb
  generalize (if cell < 0 then -cell else cell) % G = g at e0 e1
  have ed : (if (1000000000000000000 : Int) ≤ (if cell < 0 then -cell else cell) then (1 : Int) else 0) = if (decide ((1000000000000000000 : Int) ≤ (if cell < 0 then -cell else cell))) = true then 1 else 0 := by
    split <;> simp_all
  rw [ed]
  generalize decide ((1000000000000000000 : Int) ≤ (if cell < 0 then -cell else cell)) = t
  obtain ⟨c1, c2, c3⟩ := hP g e0 e1 t
  skip
  have u0 := Int.emod_nonneg cell (b := 2305843009213693951) (by decide)
  have u1 := Int.emod_lt_of_pos cell (b := 2305843009213693951) (by decide)
  have w0 : 0 ≤ 7919 * ki * ki := Int.mul_nonneg (by omega) hk.1
  have w1 : 7919 * ki * ki ≤ (7919 * 64) * 64 := Int.mul_le_mul (by omega) (by omega) hk.1 (by decide)
  refine ⟨c1, by decide, CMulW_small (by omega), CMulW_small (by omega), CMulW_small (by omega), by decide, ?_⟩
  generalize hsd : (cell % 2305843009213693951 + 7919 * ki * ki + 11) * 48271 % 2305843009213693951 = sd
  have s0 : 0 ≤ sd := by rw [← hsd]; exact Int.emod_nonneg _ (by decide)
  have s1 : sd < 2305843009213693951 := by rw [← hsd]; exact Int.emod_lt_of_pos _ (by decide)
  refine alloc_st h fun p C h => ret_k ?_
  exact k p ⟨_, sd, c2, hG ▸ c3, s0, s1⟩ C h
/-- the pot of a turn -/
theorem pot {ns : List Int} {c : Cell} {j : Nat} (h : St S C0 C L) (a : At L q c) (hc : c = .lst (ns.map D.int) ∨ c = .fz (ns.map D.int)) (hl : ns.length ≤ 63) (hj : j < 64) (k : ∀ p (s' : PS) C', St S C0 C' ((p, s'.c, true) :: L) → Q (.ptr p) C') : D__law_pot [.ptr q, .int j] C Q E := by
  unfold D__law_pot runD r__law_pot
  have il : isL C q (ns.map D.int) := by
    rcases hc with e | e
    · subst e; exact .inl (h.get a)
    · subst e; exact .inr (h.get a)
  try simp only [List.length, Nat.reduceAdd, List.map, Nat.reduceSub, List.replicate, List.cons_append, List.nil_append, dSeq_p, dAsg_p, gNm_p, List.set_cons_succ, List.set_cons_zero, dIf_p, dOp_p, dVar_p, List.getElem?_cons_succ, List.getElem?_cons_zero, Option.some.injEq, exists_eq_left', dNext_p, dTest_p, dCB_p, dCons_p, dNil_p, dC_p, mulD_ii_p, true_and]
  refine ⟨CMulW_small (by omega), ?_⟩
  refine len_l il ?_
  try simp only [addD_ii_p]
  refine len_l il ?_
  try simp only [ltD_ii_p, D.bl.injEq, exists_eq_left', decide_eq_true_eq]
  split
  · rename_i hlt
    have hlt' : j < ns.length := by rw [List.length_map] at hlt; omega
    refine ix_l il (at_map hlt') ?_
    skip
    exact pot_tail h (by omega) k
  · exact pot_tail h (by omega) k
end K47
/-! KUp: rising lists without doubles; the least of tuples. -/
namespace KB
open PySem PySem.Spec PyProof.Rows
open L2 hiding op_eqD op_neD call_listD
mutual
/-- no truths, no places -/
def nbD : D → Bool
  | .non => true
  | .int _ => true
  | .str _ => true
  | .tup xs => nbDs xs
  | _ => false
def nbDs : List D → Bool
  | [] => true
  | x :: xs => nbD x && nbDs xs
end
mutual
theorem eqD_iff : ∀ d e : D, nbD d = true → nbD e = true → (eqD d e = true ↔ d = e)
  | .non, e, _, h => by cases e <;> first | (unfold eqD; simp; done) | (unfold nbD at h; exact absurd h (by decide))
  | .int a, e, _, h => by cases e <;> first | (unfold eqD; simp; done) | (unfold nbD at h; exact absurd h (by decide))
  | .str a, e, _, h => by cases e <;> first | (unfold eqD; simp; done) | (unfold nbD at h; exact absurd h (by decide))
  | .tup xs, e, g, h => by
    cases e with
    | tup ys =>
      unfold nbD at g h
      unfold eqD
      rw [eqDs_iff xs ys g h, D.tup.injEq]
    | _ => first | (unfold eqD; simp; done) | (unfold nbD at h; exact absurd h (by decide))
  | .bl _, _, g, _ => by unfold nbD at g; cases g
  | .ptr _, _, g, _ => by unfold nbD at g; cases g
  | .ty _, _, g, _ => by unfold nbD at g; cases g
  | .fn _, _, g, _ => by unfold nbD at g; cases g
theorem eqDs_iff : ∀ xs ys : List D, nbDs xs = true → nbDs ys = true → (eqDs xs ys = true ↔ xs = ys)
  | [], [], _, _ => by unfold eqDs; simp
  | [], _ :: _, _, _ => by unfold eqDs; simp
  | _ :: _, [], _, _ => by unfold eqDs; simp
  | x :: xs, y :: ys, g, h => by
    unfold nbDs at g h
    rw [Bool.and_eq_true] at g h
    unfold eqDs
    rw [Bool.and_eq_true, eqD_iff x y g.1 h.1, eqDs_iff xs ys g.2 h.2, List.cons.injEq]
end
theorem memD_iff {d : D} (hd : nbD d = true) : ∀ {xs : List D}, nbDs xs = true → (memD xs d = true ↔ d ∈ xs)
  | [], _ => by unfold memD; simp
  | x :: xs, h => by
    unfold nbDs at h
    rw [Bool.and_eq_true] at h
    have ih := memD_iff hd h.2
    unfold memD at ih ⊢
    rw [List.any_cons, Bool.or_eq_true, ih, List.mem_cons]
    constructor
    · rintro (z | z)
      · exact .inl (by first | exact ((eqD_iff _ _ hd h.1).mp z) | exact ((eqD_iff _ _ h.1 hd).mp z).symm)
      · exact .inr z
    · rintro (z | z)
      · exact .inl (by first | exact (eqD_iff _ _ hd h.1).mpr z | exact (eqD_iff _ _ h.1 hd).mpr z.symm)
      · exact .inr z
theorem nbDs_map {α : Type} {f : α → D} (hn : ∀ a, nbD (f a) = true) : ∀ xs : List α, nbDs (xs.map f) = true
  | [] => rfl
  | x :: xs => by rw [List.map_cons]; unfold nbDs; rw [hn, nbDs_map hn xs]; rfl
theorem memD_map {α : Type} {f : α → D} (hn : ∀ a, nbD (f a) = true) (hj : ∀ a b, f a = f b → a = b) (xs : List α) (x : α) : memD (xs.map f) (f x) = true ↔ x ∈ xs := by
  rw [memD_iff (hn x) (nbDs_map hn xs), List.mem_map]
  constructor
  · rintro ⟨y, hy, e⟩; exact hj _ _ e ▸ hy
  · exact fun h => ⟨x, h, rfl⟩
theorem nb_pD (p : Pt) : nbD (pD p) = true := by
  unfold pD nbD
  exact nbDs_map (fun _ => rfl) p
/-! ### rising lists -/
def Up {α : Type} (f : α → D) (xs : List α) : Prop := xs.Nodup ∧ xs.Pairwise fun a b => leP (f a) (f b) = true
theorem Up.sub {α : Type} {f : α → D} {xs ys : List α} (h : Up f xs) (s : ys.Sublist xs) : Up f ys := ⟨h.1.sublist s, h.2.sublist s⟩
theorem up_srt {α : Type} {f : α → D} {P : α → Prop} {t : List D} (h : IsS f P t) : ∃ cs : List α, t = cs.map f ∧ Up f cs ∧ ∀ x, x ∈ cs ↔ P x := by
  obtain ⟨bs, n, hb, rfl⟩ := h
  obtain ⟨cs, e, hp⟩ := sort_img f bs
  refine ⟨cs, e, ⟨hp.nodup_iff.mpr n, ?_⟩, fun x => (hp.mem_iff).trans (hb x)⟩
  have := List.pairwise_mergeSort (le := leP) leP_total.trans (fun a b => by rcases leP_total.total a b with h | h <;> simp [h]) (bs.map f)
  rw [e] at this
  exact List.pairwise_map.mp this
theorem toksAll_strs : ∀ (p q : Pt), W.keyToksAll (toPs (p.map D.str)) = W.keyToksAll (toPs (q.map D.str)) → p = q
  | [], [], _ => rfl
  | [], y :: ys, h => by simp [toPs, W.keyToksAll] at h
  | x :: xs, [], h => by simp [toPs, W.keyToksAll] at h
  | x :: xs, y :: ys, h => by
    simp only [List.map_cons, toPs, toP, W.keyToksAll, W.keyToks, List.cons_append, List.nil_append, List.cons.injEq, true_and, Sum.inr.injEq] at h
    have e : x = y := h.1
    rw [e, toksAll_strs xs ys h.2]
theorem pD_key (a b : Pt) (h : W.keyToks (toP (pD a)) = W.keyToks (toP (pD b))) : a = b := by
  unfold pD toP at h
  simp only [W.keyToks] at h
  exact toksAll_strs a b h
theorem pD_inj (a b : Pt) (h : pD a = pD b) : a = b := pD_key a b (by rw [h])
section
variable {S : Addr → Prop} {C0 C C' : Cp} {L L' L1 : List Ent} {p q : Addr} {Q : DQ} {α : Type} {f : α → D} {as : List α}
theorem sortedU_st (hn : as.Nodup) (h : St S C0 C L) (a : At L p (.lst (as.map f))) (o : SortOk (as.map f)) (k : ∀ (bs : List α) r C', Up f bs → bs.Perm as → St S C0 C' ((r, .lst (bs.map f), true) :: L) → Q (.ptr r) C') : sortedR [.ptr p] C Q := by
  obtain ⟨bs, e, hp⟩ := sort_img f as
  refine sorted_st h a o fun r C h => ?_
  have pw := List.pairwise_mergeSort (le := leP) leP_total.trans (fun a b => by rcases leP_total.total a b with h | h <;> simp [h]) (as.map f)
  rw [e] at h pw
  exact k bs r C ⟨hp.nodup_iff.mpr hn, List.pairwise_map.mp pw⟩ hp h
end
end KB
namespace K47
open PySem PySem.Spec PyProof.Rows KB
open L2 hiding op_eqD op_neD call_listD
/-- signs below 128 -/
def Sa (l : List Nat) : Prop := ∀ c ∈ l, c < 128
theorem Sa.app {a b : List Nat} (x : Sa a) (y : Sa b) : Sa (a ++ b) := fun c h => (List.mem_append.mp h).elim (x c) (y c)
theorem Sa.nil : Sa [] := fun c h => by cases h
end K47
namespace K47
open PySem PySem.Spec PyProof.Rows KB
open L2 hiding op_eqD op_neD call_listD
variable {S : Addr → Prop} {C0 C : Cp} {L L1 L2 : List Ent} {p q r : Addr} {s : PS} {Q : DQ} {E : Exn → Cp → Prop}
/-- [f(..) for j in range(m)], the pot drawn from -/
theorem lc_pot {α : Type} {f : α → D} {P : α → Prop} {m : Nat} {ok : Cp → Prop} {te : DE} {vs : List Nat} {sl : Sl} {g : DG} (hok : ∀ C, ok C) (h : St S C0 C ((p, s.c, true) :: L)) (hm : m < 2 ^ 20)
    (hs : ∀ (i : Nat) (s' : PS) C', i < m → St S C0 C' ((p, s'.c, true) :: L) → ∀ Q' : DQ, (∀ x (s'' : PS) C'', P x → St S C0 C'' ((p, s''.c, true) :: L) → Q' (f x) C'') → g (.int (i : Int)) (wipeD sl vs) C' fun s2 C2 => te s2 C2 Q')
    (k : ∀ (ys : List α) r (s' : PS) C', ys.length = m → (∀ y ∈ ys, P y) → St S C0 C' ((r, .lst (ys.map f), true) :: (p, s'.c, true) :: L) → Q (.ptr r) C') : lcK (rngD 0 m) ok g dYes te vs sl C Q := by
  refine lcR_st m (fun i acc C => ∃ (ys : List α) (s' : PS), acc = ys.map f ∧ ys.length = i ∧ (∀ y ∈ ys, P y) ∧ St S C0 C ((p, s'.c, true) :: L)) ⟨[], s, rfl, rfl, (fun y hy => by cases hy), h⟩ hok (fun i acc C hi ha hI => ?_) (by rw [sizeLine_eq]; omega) fun acc C hI => ?_
  · obtain ⟨ys, s', rfl, hl, hP, h⟩ := hI
    simp only [dYes, if_true]
    refine hs i s' C hi h _ fun x s'' C'' hx h' => ⟨C'', Sub.refl _, ys ++ [x], s'', by rw [List.map_append]; rfl, by rw [List.length_append, hl]; rfl, fun y hy => ?_, h'⟩
    rcases List.mem_append.mp hy with hy | hy
    · exact hP y hy
    · rw [List.mem_singleton.mp hy]; exact hx
  · obtain ⟨ys, s', rfl, hl, hP, h⟩ := hI
    exact alloc_st h fun r C h => k ys r s' C hl hP h
def ALPHA : List Nat := [97, 98, 99, 100, 101, 102, 103, 104, 105, 106, 107, 108, 109, 110, 111, 112, 113, 114, 115, 116, 117, 118, 119, 120, 121, 122, 48, 49, 50, 51, 52, 53, 54, 55, 56, 57, 45]
theorem alpha_sg : Sa ALPHA := by intro c hc; revert c; decide
/-- a text of at most n plain signs -/
def Tn (n : Nat) (l : List Nat) : Prop := l.length ≤ n ∧ Sa l
theorem Tn.app {n m : Nat} {a b : List Nat} (h : Tn n a) (g : Tn m b) : Tn (n + m) (a ++ b) := ⟨by rw [List.length_append]; have := h.1; have := g.1; omega, h.2.app g.2⟩
theorem Tn.mono {n m : Nat} {a : List Nat} (h : Tn n a) (g : n ≤ m) : Tn m a := ⟨Nat.le_trans h.1 g, h.2⟩
theorem sg_sub {a b : List Nat} (h : Sa b) (g : ∀ c ∈ a, c ∈ b) : Sa a := fun c hc => h c (g c hc)
theorem cut_to {α : Type} (xs : List α) (n : Nat) : cutL xs none (some (n : Int)) = xs.take n := by
  unfold cutL
  rw [HT.sIx_none, HT.sIx_nat, List.drop_zero, Nat.sub_zero]
  rcases Nat.le_total n xs.length with h | h
  · rw [Nat.min_eq_left h]
  · rw [Nat.min_eq_right h, List.take_of_length_le (Nat.le_refl _), List.take_of_length_le h]
theorem Tn.take {n j : Nat} {l : List Nat} (h : Tn n l) : Tn n (l.take j) := ⟨by rw [List.length_take]; have := h.1; omega, sg_sub h.2 fun c hc => List.mem_of_mem_take hc⟩
theorem Tn.drop {n j : Nat} {l : List Nat} (h : Tn n l) : Tn n (l.drop j) := ⟨by rw [List.length_drop]; have := h.1; omega, sg_sub h.2 fun c hc => List.mem_of_mem_drop hc⟩
end K47
/-! KSt: readings' equations of KWd, KGf, KLt (KEs holds its own). -/
namespace KB
open PySem PySem.Spec PyProof.Rows
open L2 hiding op_eqD op_neD call_listD
end KB
/-! KSz: equations for sorted(d.items()), max(d.values()), reading while walked. -/
namespace KB
open PySem PySem.Spec PyProof.Rows
open L2 hiding op_eqD op_neD call_listD
end KB
namespace K47
open PySem PySem.Spec PyProof.Rows KB
open L2 hiding op_eqD op_neD call_listD
variable {S : Addr → Prop} {C0 C : Cp} {L L1 L2 : List Ent} {p q r : Addr} {s : PS} {Q : DQ} {E : Exn → Cp → Prop}
theorem sl_ok {n : Nat} (h : n ≤ 2 ^ 20) : n ≤ sizeLine := by rw [sizeLine_eq]; omega
theorem starts_one (l : List Nat) (c : Nat) : startsL l [c] = decide (l.take 1 = [c]) := by
  unfold startsL Txt.startswith
  rw [StrLaws.subAt_eq]
  show (decide (0 + 1 ≤ l.length) && ((l.drop 0).take 1 == [c])) = _
  rw [List.drop_zero, Bool.eq_iff_iff, Bool.and_eq_true, decide_eq_true_eq, decide_eq_true_eq, beq_iff_eq]
  constructor
  · exact fun h => h.2
  · intro h
    refine ⟨?_, h⟩
    have := congrArg List.length h
    rw [List.length_take, List.length_singleton] at this
    omega
theorem walk_sum {z : List Nat} (hz : z ≠ []) : ∀ (n : Nat) (rest cur : List Nat), ((walk z n rest cur).map fun w => w.length + 1).sum ≤ rest.length + cur.length + 1
  | 0, rest, cur => by
    show ([cur].map fun w => w.length + 1).sum ≤ _
    simp only [List.map_cons, List.map_nil, List.sum_cons, List.sum_nil]
    omega
  | n + 1, [], cur => by
    show ([cur].map fun w => w.length + 1).sum ≤ _
    simp only [List.map_cons, List.map_nil, List.sum_cons, List.sum_nil, List.length_nil]
    omega
  | n + 1, c :: r, cur => by
    unfold walk
    have zp : 0 < z.length := List.length_pos_iff.mpr hz
    split
    · rename_i h
      have h1 := congrArg List.length h
      rw [List.length_take] at h1
      have ih := walk_sum hz n ((c :: r).drop z.length) []
      rw [List.length_drop, List.length_nil] at ih
      rw [List.map_cons, List.sum_cons]
      omega
    · have ih := walk_sum hz n r (cur ++ [c])
      rw [List.length_append, List.length_singleton] at ih
      rw [List.length_cons]
      omega
theorem split_sum {l z : List Nat} (hz : z ≠ []) : ((splitL l z).map fun w => w.length + 1).sum ≤ l.length + 1 := by
  rw [splitL_walk hz]
  exact walk_sum hz _ _ _
theorem sum_len : ∀ ws : List (List Nat), ws.length ≤ (ws.map fun w => w.length + 1).sum
  | [] => Nat.le_refl _
  | w :: ws => by
    have := sum_len ws
    rw [List.map_cons, List.sum_cons, List.length_cons]
    omega
theorem sum_mem : ∀ {ws : List (List Nat)} {w : List Nat}, w ∈ ws → w.length + 1 ≤ (ws.map fun w => w.length + 1).sum
  | v :: ws, w, h => by
    rw [List.map_cons, List.sum_cons]
    rcases List.mem_cons.mp h with e | h
    · subst e; omega
    · have := sum_mem h
      omega
theorem split_len {l z : List Nat} (hz : z ≠ []) : (splitL l z).length ≤ l.length + 1 := Nat.le_trans (sum_len _) (split_sum hz)
theorem split_each {l z : List Nat} (hz : z ≠ []) : ∀ w ∈ splitL l z, w.length ≤ l.length := fun w hw => by
  have := Nat.le_trans (sum_mem hw) (split_sum (l := l) hz)
  omega
def isW (l : List Nat) : Bool := decide (1 ≤ l.length ∧ l.length ≤ 12) && l.all fun c => decide (c ∈ ALPHA)
theorem isS {b : Bool} {tb : String} {l : List Nat} (hb : kitB "str" tb = some b) (k : Q (.bl b) C) : isiR [.str l, .ty tb] C Q := ⟨.str l, tb, "str", b, rfl, rfl, hb, k⟩
theorem isTp {b : Bool} {tb : String} {l : List D} (hb : kitB "tuple" tb = some b) (k : Q (.bl b) C) : isiR [.tup l, .ty tb] C Q := ⟨.tup l, tb, "tuple", b, rfl, rfl, hb, k⟩
theorem all_mapS {α : Type} {f : α → Bool} {xs : List α} (h : St S C0 C L) (a : At L p (.lst (xs.map fun x => D.bl (f x)))) (k : Q (.bl (xs.all f)) C) : allR [.ptr p] C Q := by
  refine all_st (bs := xs.map f) h (by rw [List.map_map]; exact a) ?_
  rw [List.all_map]
  exact k
theorem is_word {l : List Nat} (h : St S C0 C L) (hl : l.length ≤ 2 ^ 20) (k : ∀ C', St S C0 C' L → Q (.bl (isW l)) C') : D_is_word [.str l] C Q E := by
  unfold D_is_word runD r_is_word
  try simp only [List.length, Nat.reduceAdd, List.map, Nat.reduceSub, List.replicate, List.cons_append, List.nil_append, dSeq_p, dIf_p, dRet_p, dC_p, dNext_p, dOr_p, if_true, dNot_p, dTest_p, dChain_p, D.bl.injEq, exists_eq_left', Bool.not_false, dCB_p, dCons_p, dNil_p, dVar_p, List.getElem?_cons_zero, Option.some.injEq, lenR_s, leD_ii_p, decide_eq_true_eq, dTru_p, true_and]
  refine isS (b := true) (by kernel_rfl) ?_
  try simp only [truD_b_p, exists_eq_left, Bool.not_true, Bool.false_eq_true, if_false]
  refine ⟨sl_ok hl, ?_⟩
  split
  · split
    · rename_i h2
      have e : isW l = false := by unfold isW; rw [decide_eq_false (by simp at h2; omega)]; rfl
      have k := k C h
      rw [e] at k
      exact ret_k k
    · rename_i h2
      have h2 : l.length ≤ 12 := by simp at h2; omega
      unfold r_is_word_1
      try simp only [dRet_p, dCB_p, dCons_p, dNil_p, dLc_e_p, dOverS_p, dVar_p, List.getElem?_cons_zero, Option.some.injEq, exists_eq_left']
      refine lc_map l (fun c => D.bl (decide (c ∈ ALPHA))) (fun c => D.str [c]) rfl h (fun _ _ => trivial) (fun c C hc h Q' k' => ?_) (by rw [sizeLine_eq]; omega) fun r C h => ?_
      · try simp only [wipeD, List.foldr_cons, List.foldr_nil, List.set_cons_succ, List.set_cons_zero, dOp_p, dC_p, dVar_p, gNm_p, List.getElem?_cons_succ, List.getElem?_cons_zero, Option.some.injEq, exists_eq_left']
        exact ⟨c, ALPHA, rfl, rfl, k' C h⟩
      · refine all_mapS h .here ?_
        have e : isW l = l.all fun c => decide (c ∈ ALPHA) := by unfold isW; rw [decide_eq_true (by omega), Bool.true_and]
        rw [← e]
        exact ret_k (k C h.tail)
  · have e : isW l = false := by unfold isW; rw [decide_eq_false (by omega)]; rfl
    have k := k C h
    rw [e] at k
    exact ret_k k
theorem is_path {ws : Pt} (h : St S C0 C L) (hl : ws.length ≤ 2 ^ 20) (hw : ∀ w ∈ ws, w.length ≤ 2 ^ 20) (k : ∀ C', St S C0 C' L → Q (.bl (ws.all isW)) C') : D_is_path [pD ws] C Q E := by
  unfold D_is_path runD r_is_path pD
  try simp only [List.length, Nat.reduceAdd, List.map, Nat.reduceSub, List.replicate, List.cons_append, List.nil_append, dRet_p, dAndT_p, dCB_p, dCons_p, dNil_p, dLc_e_p, dOverT_p, dVar_p, List.getElem?_cons_zero, Option.some.injEq, exists_eq_left', dC_p, true_and]
  refine isTp (b := true) (by kernel_rfl) ?_
  try simp only [truD_b_p, exists_eq_left, if_true]
  refine lc_map ws (fun w => D.bl (isW w)) D.str rfl h (fun _ _ => trivial) (fun w C hc h Q' k' => ?_) (by rw [sizeLine_eq]; omega) fun r C h => ?_
  · try simp only [wipeD, List.foldr_cons, List.foldr_nil, List.set_cons_succ, List.set_cons_zero, dCall_p, List.append_nil, dCons_p, dNil_p, dVar_p, gNm_p, List.getElem?_cons_succ, List.getElem?_cons_zero, Option.some.injEq, exists_eq_left']
    exact is_word h (hw w hc) fun C' h' => k' C' h'
  · refine all_mapS h .here ?_
    exact ret_k (k C h.tail)
theorem split_st {l z : List Nat} (h : St S C0 C L) (hz : z ≠ []) (hl : l.length ≤ 2 ^ 20) (k : ∀ r C', St S C0 C' ((r, .lst ((splitL l z).map D.str), true) :: L) → Q (.ptr r) C') : splitR (.str l) [.str z] C Q := ⟨l, z, rfl, rfl, hz, by rw [sizeLine_eq]; omega, fun p hp => k p _ (h.new hp)⟩
theorem path_in {l : List Nat} (h : St S C0 C L) (hl : l.length ≤ 2 ^ 19) (k : ∀ d C', (d = .non ∧ (decide (l = []) || (splitL l [47]).all isW) = false) ∨ (∃ ws, d = pD ws) ∧ (decide (l = []) || (splitL l [47]).all isW) = true → St S C0 C' L → Q d C') : D_path_in [.str l] C Q E := by
  unfold D_path_in runD r_path_in
  try simp only [List.length, Nat.reduceAdd, List.map, Nat.reduceSub, List.replicate, List.cons_append, List.nil_append, dSeq_p, dIf_p, dRet_p, dTup_p, dNil_p, Nat.reduceLeDiff, true_and, dNext_p, dTest_p, dOp_p, dC_p, dVar_p, List.getElem?_cons_zero, Option.some.injEq, exists_eq_left', eqR_ss, Bool.false_eq_true, if_false, D.bl.injEq, beq_iff_eq]
  split
  · rename_i e
    exact ret_k (k _ C (.inr ⟨⟨[], rfl⟩, by rw [decide_eq_true e]; rfl⟩) h)
  · rename_i e
    unfold r_path_in_2
    try simp only [dSeq_p, dAsg_p, gNm_p, List.set_cons_succ, List.set_cons_zero, dIf_p, dRet_p, dC_p, dNext_p, dNot_p, dTru_p, dCall_p, List.append_nil, dCons_p, dNil_p, dVar_p, List.getElem?_cons_succ, List.getElem?_cons_zero, Option.some.injEq, exists_eq_left', dCB_p, dBM_p]
    refine ⟨rfl, split_st h (by simp) (by omega) fun r C h => ?_⟩
    refine tup_st h .here ?_
    have h := h.tail
    have hz : ([47] : List Nat) ≠ [] := by simp
    refine is_path (ws := splitL l [47]) h (by have := split_len (l := l) hz; omega) (fun w hw => by have := split_each (l := l) hz w hw; omega) fun C h => ?_
    refine ⟨_, rfl, ?_⟩
    cases eb : (splitL l [47]).all isW with
    | true =>
      rw [if_neg (by decide)]
      unfold r_path_in_1
      try simp only [dRet_p, dVar_p, List.getElem?_cons_succ, List.getElem?_cons_zero, Option.some.injEq, exists_eq_left']
      exact ret_k (k _ C (.inr ⟨⟨splitL l [47], rfl⟩, by rw [eb, Bool.or_true]⟩) h)
    | false =>
      rw [if_pos (by rfl)]
      exact ret_k (k _ C (.inl ⟨rfl, by rw [eb, decide_eq_false e]; rfl⟩) h)
def plainF (w : List Nat) : Bool := if w = [] ∨ w = [124] ∨ 32 ∈ w ∨ w.take 1 = [45] then false else if w.take 1 = [43] then isW (w.drop 1) else if w.take 1 = [47] then (decide (w.drop 1 = []) || (splitL (w.drop 1) [47]).all isW) else true
end K47
namespace K47
open PySem PySem.Spec PyProof.Rows KB
open L2 hiding op_eqD op_neD call_listD
variable {S : Addr → Prop} {C0 C : Cp} {L L1 L2 : List Ent} {p q r : Addr} {s : PS} {Q : DQ} {E : Exn → Cp → Prop}
theorem take_one {α : Type} (l : List α) : cutL l none (some 1) = l.take 1 := cut_to l 1
theorem starts_st {l : List Nat} {c : Nat} (k : Q (.bl (decide (l.take 1 = [c]))) C) : startsR (.str l) [.str [c]] C Q := ⟨l, [c], rfl, rfl, by rw [starts_one]; exact k⟩
theorem inS_st {l : List Nat} {c : Nat} (k : Q (.bl (decide (c ∈ l))) C) : inSR false (.str [c]) (.str l) C Q := ⟨c, l, rfl, rfl, k⟩
theorem is_plain {l : List Nat} (h : St S C0 C L) (hl : l.length ≤ 2 ^ 19) (k : ∀ C', St S C0 C' L → Q (.bl (plainF l)) C') : D_is_plain_word [.str l] C Q E := by
  have fin : ∀ {b : Bool} {C}, plainF l = b → St S C0 C L → ∃ C'', KB.Sub C'' C ∧ Q (.bl b) C'' := fun e h => by
    subst e; exact ret_k (k _ h)
  unfold D_is_plain_word runD r_is_plain_word
  try simp only [List.length, Nat.reduceAdd, List.map, Nat.reduceSub, List.replicate, List.append_nil, dSeq_p, dIf_p, dRet_p, dC_p, dNext_p, dOr_p, if_true, dTru_p, dBM_p, dCons_p, dNil_p, dVar_p, List.getElem?_cons_zero, Option.some.injEq, exists_eq_left', dTest_p, dOp_p, eqR_ss, Bool.false_eq_true, if_false, D.bl.injEq, beq_iff_eq, true_and]
  by_cases e1 : l = []
  · rw [if_pos e1]
    exact fin (by unfold plainF; rw [if_pos (.inl e1)]) h
  rw [if_neg e1]
  by_cases e2 : l = [124]
  · rw [if_pos e2]
    exact fin (by unfold plainF; rw [if_pos (.inr (.inl e2))]) h
  rw [if_neg e2]
  refine inS_st ⟨_, rfl, ?_⟩
  by_cases e3 : 32 ∈ l
  · rw [if_pos (by simpa using e3)]
    exact fin (by unfold plainF; rw [if_pos (.inr (.inr (.inl e3)))]) h
  rw [if_neg (by simpa using e3)]
  refine ⟨rfl, starts_st ⟨_, rfl, ?_⟩⟩
  by_cases e4 : l.take 1 = [45]
  · rw [if_pos (by simpa using e4)]
    exact fin (by unfold plainF; rw [if_pos (.inr (.inr (.inr e4)))]) h
  rw [if_neg (by simpa using e4)]
  have e0 : ¬ (l = [] ∨ l = [124] ∨ 32 ∈ l ∨ l.take 1 = [45]) := by
    rintro (e | e | e | e)
    · exact e1 e
    · exact e2 e
    · exact e3 e
    · exact e4 e
  have eF : plainF l = if l.take 1 = [43] then isW (l.drop 1) else if l.take 1 = [47] then (decide (l.drop 1 = []) || (splitL (l.drop 1) [47]).all isW) else true := by
    unfold plainF
    rw [if_neg e0]
  have dl : (l.drop 1).length ≤ 2 ^ 19 := by rw [List.length_drop]; omega
  unfold r_is_plain_word_3
  try simp only [dSeq_p, dIf_p, dRet_p, dCall_p, List.append_nil, dCons_p, dNil_p, dSl_p, dNoP_p, dPart_p, dC_p, D.int.injEq, exists_eq_left', dVar_p, List.getElem?_cons_zero, Option.some.injEq, slD_s_p, dNext_p, dTru_p, dBM_p]
  refine ⟨rfl, starts_st ⟨_, rfl, ?_⟩⟩
  by_cases e5 : l.take 1 = [43]
  · rw [if_pos (by simpa using e5)]
    rw [if_pos e5] at eF
    refine ⟨sl_ok (by omega), ?_⟩
    rw [cut_one]
    exact is_word h (by omega) fun C h => fin eF h
  rw [if_neg (by simpa using e5)]
  rw [if_neg e5] at eF
  unfold r_is_plain_word_2
  try simp only [dSeq_p, dIf_p, dRet_p, dOp_p, isNR_p, Bool.not_true, dC_p, true_and, dCall_p, List.append_nil, dCons_p, dNil_p, dSl_p, dNoP_p, dPart_p, D.int.injEq, exists_eq_left', dVar_p, List.getElem?_cons_zero, Option.some.injEq, slD_s_p, dNext_p, dTru_p, dBM_p]
  refine ⟨rfl, starts_st ⟨_, rfl, ?_⟩⟩
  by_cases e6 : l.take 1 = [47]
  · rw [if_pos (by simpa using e6)]
    rw [if_pos e6] at eF
    refine ⟨sl_ok (by omega), ?_⟩
    rw [cut_one]
    refine path_in h dl fun d C hd h => ?_
    rcases hd with ⟨rfl, e⟩ | ⟨⟨ws, rfl⟩, e⟩
    · skip
      exact fin (by rw [eF, e]) h
    · skip
      exact fin (b := true) (by rw [eF, e]) h
  · rw [if_neg (by simpa using e6)]
    rw [if_neg e6] at eF
    unfold r_is_plain_word_1
    try simp only [dRet_p, dC_p]
    exact fin eF h
/-- the program's answer -/
def swP (t : List Nat) : Bool := if t.take 1 = [45] then plainF (t.drop 1) else plainF t
theorem is_sw {l : List Nat} (h : St S C0 C L) (hl : l.length ≤ 2 ^ 19) (k : ∀ C', St S C0 C' L → Q (.bl (swP l)) C') : D_is_search_word [.str l] C Q E := by
  unfold D_is_search_word runD r_is_search_word
  try simp only [List.length, Nat.reduceAdd, List.map, Nat.reduceSub, List.replicate, List.append_nil, dSeq_p, dIf_p, dRet_p, dC_p, dNext_p, dNot_p, dTru_p, dCB_p, dCons_p, dNil_p, dVar_p, List.getElem?_cons_zero, Option.some.injEq, exists_eq_left', true_and]
  refine isS (b := true) (by kernel_rfl) ?_
  try simp only [truD_b_p, exists_eq_left, Bool.not_true, Bool.false_eq_true, if_false]
  unfold r_is_search_word_2
  try simp only [dSeq_p, dIf_p, dRet_p, dCall_p, List.append_nil, dCons_p, dNil_p, dSl_p, dNoP_p, dPart_p, dC_p, D.int.injEq, exists_eq_left', dVar_p, List.getElem?_cons_zero, Option.some.injEq, slD_s_p, dNext_p, dTru_p, dBM_p]
  refine ⟨rfl, starts_st ⟨_, rfl, ?_⟩⟩
  have dl : (l.drop 1).length ≤ 2 ^ 19 := by rw [List.length_drop]; omega
  by_cases e6 : l.take 1 = [45]
  · rw [if_pos (by simpa using e6)]
    refine ⟨sl_ok (by omega), ?_⟩
    rw [cut_one]
    refine is_plain h dl fun C h => ret_k ?_
    have := k C h
    unfold swP at this
    rw [if_pos e6] at this
    exact this
  · rw [if_neg (by simpa using e6)]
    unfold r_is_search_word_1
    try simp only [dRet_p, dCall_p, List.append_nil, dCons_p, dNil_p, dVar_p, List.getElem?_cons_zero, Option.some.injEq, exists_eq_left']
    refine is_plain h (by omega) fun C h => ret_k ?_
    have := k C h
    unfold swP at this
    rw [if_neg e6] at this
    exact this
end K47
namespace K47
open PySem PySem.Spec PyProof.Rows KB
open L2 hiding op_eqD op_neD call_listD
variable {S : Addr → Prop} {C0 C : Cp} {L L1 L2 : List Ent} {p q r li : Addr} {Q : DQ} {E : Exn → Cp → Prop}
/-- a page -/
structure Pg where
  form : List Nat
  cal : Option (List Nat)
  marks : Pt
  paths : List Pt
def tlD : Option (List Nat) → D
  | none => .non
  | some l => .str l
def pgD (g : Pg) : D := .tup [.str g.form, tlD g.cal, .tup (g.marks.map D.str), .tup (g.paths.map pD)]
/-- bounds -/
structure PgB (g : Pg) : Prop where
  form : g.form.length ≤ 100000
  cal : ∀ l, g.cal = some l → l.length ≤ 100000
  marks : g.marks.length ≤ 100000
  paths : g.paths.length ≤ 100000
  path : ∀ w ∈ g.paths, w.length ≤ 100000
def Li (fs : List Pt) (gs : List Pg) (es : List Ed) : Cell := .ins "Listing" [("folders", .tup (fs.map pD)), ("pages", .tup (gs.map pgD)), ("pairs", .tup (es.map edD))]
open Classical in
noncomputable def bears (es : List Ed) (w : List Nat) (g : Pg) : Bool := g.marks.any fun one => decide (Reach es one w)
/-- the forms that bear a mark or one within it -/
noncomputable def bearF (gs : List Pg) (es : List Ed) (w : List Nat) : Pt := (gs.filter (bears es w)).map Pg.form
theorem St.kp0 {C' : Cp} (h : St S C0 C L) (kk : Kp None C C') : St S C0 C' L := by
  refine ⟨h.kp.trans (kk.mono fun r z => z.elim), fun e he => kk e.1 e.2.1 id (h.at_ e he), h.nd, h.wr⟩
theorem marked {fs : List Pt} {gs : List Pg} {es : List Ed} {w : List Nat} (h : St S C0 C L) (a : At L q (Li fs gs es)) (gl : gs.length ≤ 100000) (e1 : es.length ≤ 200) (hP : ∀ g ∈ gs, PgB g) (k : ∀ C', St S C0 C' L → Q (pD (bearF gs es w)) C') : D_Listing__marked [.ptr q, .str w] C Q E := by
  unfold D_Listing__marked runD r_Listing__marked
  try simp only [List.length, Nat.reduceAdd, List.map, Nat.reduceSub, List.replicate, List.cons_append, List.nil_append, dSeq_p, dAsg_p, gNm_p, List.set_cons_succ, List.set_cons_zero, dRet_p, dCB_p, dCons_p, dNil_p, dLc_e_p, dOverT_p, dFld_e, dVar_p, List.getElem?_cons_zero, Option.some.injEq, exists_eq_left', dCall_p, List.append_nil, List.getElem?_cons_succ, true_and]
  refine getF_st h a (v := .tup (es.map edD)) rfl ?_
  skip
  refine inside (by omega) fun t C ht kk => ?_
  have h := St.kp0 h kk
  obtain ⟨ts, rfl, tl, hm⟩ := ht.strs (by rw [List.length_map]; omega)
  skip
  refine getF_st h a (v := .tup (gs.map pgD)) rfl ?_
  skip
  refine lc_pick gs (bears es w) (fun g => .str g.form) pgD rfl h (fun _ _ => trivial) (fun g C' hg h Qt Q' k1 k2 => ?_) (by rw [sizeLine_eq]; omega) fun r C h => ?_
  · have m1 := (hP g hg).marks
    try simp only [wipeD, List.foldr_cons, List.foldr_nil, List.set_cons_succ, List.set_cons_zero, dOp_p, dC_p, dVar_p, dTru_p, dCB_p, dCons_p, dNil_p, dLc_e_p, dAltI_p, dOverS_p, dOverT_p, gNm_p, List.getElem?_cons_succ, List.getElem?_cons_zero, Option.some.injEq, exists_eq_left']
    refine .inr (ix_t (xs := [.str g.form, tlD g.cal, .tup (g.marks.map D.str), .tup (g.paths.map pD)]) (i := 2) rfl ?_)
    refine (lc_map g.marks (fun one => .bl (decide (one ∈ ts))) D.str rfl h (fun _ _ => trivial) (fun y C'' hy h Q'' k => ?_) (by rw [sizeLine_eq]; omega) fun r2 C h => ?_)
    · try simp only [wipeD, List.foldr_cons, List.foldr_nil, List.set_cons_succ, List.set_cons_zero, dOp_p, dVar_p, gNm_p, List.getElem?_cons_succ, List.getElem?_cons_zero, Option.some.injEq, exists_eq_left', inR_t, Bool.false_eq_true, if_false]
      refine ⟨rfl, npts_strs ts, ?_⟩
      rw [memD_strs]
      exact k C'' h
    rw [show g.marks.map (fun one => D.bl (decide (one ∈ ts))) = (g.marks.map fun one => decide (one ∈ ts)).map D.bl by rw [List.map_map]; rfl] at h
    refine any_st h .here ?_
    have h := h.tail
    have e : ((g.marks.map fun one => decide (one ∈ ts)).any id) = bears es w g := by
      unfold bears
      rw [List.any_map, Bool.eq_iff_iff]
      simp only [List.any_eq_true, Function.comp, id, decide_eq_true_eq]
      constructor
      · rintro ⟨x, hx, hy⟩
        exact ⟨x, hx, reach_sw.mpr ((hm x).mp hy)⟩
      · rintro ⟨x, hx, hy⟩
        exact ⟨x, hx, (hm x).mpr (reach_sw.mp hy)⟩
    rw [e]
    try simp only [truD_b_p, exists_eq_left]
    cases eb : bears es w g
    · rw [if_neg (by decide)]
      exact k2 eb _ C h
    · rw [if_pos rfl]
      exact ix_t (xs := [.str g.form, tlD g.cal, .tup (g.marks.map D.str), .tup (g.paths.map pD)]) (i := 0) rfl (k1 eb C h)
  · skip
    rw [show (gs.filter (bears es w)).map (fun g => D.str g.form) = (bearF gs es w).map D.str by unfold bearF; rw [List.map_map]; rfl] at h
    refine tup_st h (by (repeat (first | exact KB.At.here | assumption | apply KB.At.there))) ?_
    exact ret_k (k C h.tail)
/-- the path that a text writes -/
def pathL (l : List Nat) : Pt := if l = [] then [] else splitL l [47]
theorem path_in2 {l : List Nat} (h : St S C0 C L) (hl : l.length ≤ 2 ^ 19) (k : ∀ C', St S C0 C' L → Q (if (decide (l = []) || (splitL l [47]).all isW) = true then pD (pathL l) else .non) C') : D_path_in [.str l] C Q E := by
  unfold D_path_in runD r_path_in
  try simp only [List.length, Nat.reduceAdd, List.map, Nat.reduceSub, List.replicate, List.cons_append, List.nil_append, dSeq_p, dIf_p, dRet_p, dTup_p, dNil_p, Nat.reduceLeDiff, true_and, dNext_p, dTest_p, dOp_p, dC_p, dVar_p, List.getElem?_cons_zero, Option.some.injEq, exists_eq_left', eqR_ss, Bool.false_eq_true, if_false, D.bl.injEq, beq_iff_eq]
  split
  · rename_i e
    have := k C h
    rw [if_pos (by rw [e]; rfl)] at this
    unfold pathL at this
    rw [if_pos e] at this
    exact ret_k this
  · rename_i e
    unfold r_path_in_2
    try simp only [dSeq_p, dAsg_p, gNm_p, List.set_cons_succ, List.set_cons_zero, dIf_p, dRet_p, dC_p, dNext_p, dNot_p, dTru_p, dCall_p, List.append_nil, dCons_p, dNil_p, dVar_p, List.getElem?_cons_succ, List.getElem?_cons_zero, Option.some.injEq, exists_eq_left', dCB_p, dBM_p]
    refine ⟨rfl, split_st h (by simp) (by omega) fun r C h => ?_⟩
    refine tup_st h .here ?_
    have h := h.tail
    have hz : ([47] : List Nat) ≠ [] := by simp
    refine is_path (ws := splitL l [47]) h (by have := split_len (l := l) hz; omega) (fun w hw => by have := split_each (l := l) hz w hw; omega) fun C h => ?_
    refine ⟨_, rfl, ?_⟩
    have := k C h
    unfold pathL at this
    rw [decide_eq_false e, Bool.false_or, if_neg e] at this
    cases eb : (splitL l [47]).all isW with
    | true =>
      rw [if_neg (by decide)]
      unfold r_path_in_1
      try simp only [dRet_p, dVar_p, List.getElem?_cons_succ, List.getElem?_cons_zero, Option.some.injEq, exists_eq_left']
      rw [eb, if_pos rfl] at this
      exact ret_k this
    | false =>
      rw [if_pos (by rfl)]
      rw [eb, if_neg (by decide)] at this
      exact ret_k this
/-- whether some path begins with one -/
def liesF (ps : List Pt) (w : Pt) : Bool := ps.any fun one => decide (one.take w.length = w)
theorem eqD_pD (a b : Pt) : eqD (pD a) (pD b) = decide (a = b) := by
  have : ∀ a b : Pt, eqDs (a.map D.str) (b.map D.str) = decide (a = b) := by
    intro a
    induction a with
    | nil => intro b; cases b <;> simp [eqDs]
    | cons x r ih =>
      intro b
      cases b with
      | nil => simp [eqDs]
      | cons z t =>
        rw [List.map_cons, List.map_cons]
        unfold eqDs
        rw [ih t]
        have e1 : eqD (.str x) (.str z) = decide (x = z) := by unfold eqD; by_cases c : x = z <;> simp [c]
        rw [e1]
        by_cases c : x = z <;> by_cases d : r = t <;> simp [c, d]
  exact this a b
theorem lies_within {ps : List Pt} {w : Pt} (h : St S C0 C L) (hl : ps.length ≤ 100000) (hw : w.length ≤ 2 ^ 20) (k : ∀ C', St S C0 C' L → Q (.bl (liesF ps w)) C') : D_lies_within [.tup (ps.map pD), pD w] C Q E := by
  unfold D_lies_within runD r_lies_within
  try simp only [List.length, Nat.reduceAdd, List.map, Nat.reduceSub, List.replicate, List.cons_append, List.nil_append, dRet_p, dCB_p, dCons_p, dNil_p, dLc_e_p, dAltI_p, dOverS_p, dVar_p, List.getElem?_cons_zero, Option.some.injEq, exists_eq_left', dOverT_p, true_and]
  refine .inr ?_
  refine lc_map ps (fun one => .bl (decide (one.take w.length = w))) pD rfl h (fun _ _ => trivial) (fun y C'' hy h Q'' k => ?_) (by rw [sizeLine_eq]; omega) fun r C h => ?_
  · unfold pD
    try simp only [wipeD, List.foldr_cons, List.foldr_nil, List.set_cons_succ, List.set_cons_zero, dOp_p, dVar_p, dSl_p, dPart_p, dCB_p, dCons_p, dNil_p, dNoP_p, gNm_p, List.getElem?_cons_succ, List.getElem?_cons_zero, Option.some.injEq, exists_eq_left', lenR_t, D.int.injEq, slD_t_p, eqR_tt_p, Bool.false_eq_true, if_false]
    have ec : cutL (y.map D.str) none (some ((w.map D.str).length : Int)) = (y.take w.length).map D.str := by rw [cut_to, List.length_map, List.map_take]
    rw [ec]
    refine ⟨⟨npt_pD (y.take w.length), ?_⟩, ?_, ?_⟩
    · show dep (pD (y.take w.length)) ≤ 60
      rw [dep_pD]
      decide
    · exact npt_pD w
    · rw [show eqD (.tup ((y.take w.length).map D.str)) (.tup (w.map D.str)) = decide (y.take w.length = w) from eqD_pD _ _]
      exact k C'' h
  · rw [show ps.map (fun one => D.bl (decide (one.take w.length = w))) = (ps.map fun one => decide (one.take w.length = w)).map D.bl by rw [List.map_map]; rfl] at h
    refine any_st h .here ?_
    have := k C h.tail
    unfold liesF at this
    rw [List.any_map]
    exact ret_k this
end K47
namespace K47
open PySem PySem.Spec PyProof.Rows KB
open L2 hiding op_eqD op_neD call_listD
variable {S : Addr → Prop} {C0 C : Cp} {L L1 L2 : List Ent} {p q r li so bd : Addr} {Q : DQ} {E : Exn → Cp → Prop} {fs : List Pt} {gs : List Pg} {es : List Ed} {F : Fam (List Nat) (List (List Nat × Unit))} {n : Nat}
def trU (_ : Unit) : D := .bl true
def clB (fs : List (List Nat × Unit)) : Cell := .dk (kD Sum.inr trU fs)
abbrev FB := Fam (List Nat) (List (List Nat × Unit))
def soC (li bd : Addr) : Cell := .ins "Sought" [("sought_in", .ptr li), ("bearers", .ptr bd)]
/-- what is sought in -/
def sos (so li bd : Addr) (F : FB) (L : List Ent) : List Ent := (so, soC li bd, true) :: (bd, .dk (kD Sum.inr D.ptr (famA F)), true) :: (famL clB F ++ L)
/-- what the bearers tell -/
structure SI (gs : List Pg) (es : List Ed) (F : FB) : Prop where
  nd : (F.map (·.1)).Nodup
  v : ∀ m a fs, lookA F m = some (a, fs) → ∀ f, lookA fs f ≠ none ↔ f ∈ bearF gs es m
theorem SI.nil : SI gs es [] := ⟨List.nodup_nil, fun _ _ _ e => nomatch e⟩
theorem at_appS {X : List Ent} {c : Cell} (h : At L p c) : At (X ++ L) p c := by
  induction X with
  | nil => exact h
  | cons e X ih => exact .there ih
theorem inr_inj' (a b : List Nat) (h : (Sum.inr a : DKey) = .inr b) : a = b := Sum.inr.inj h
theorem mergeKS {κ β : Type} [DecidableEq κ] {e : κ → DKey} {g : β → D} (he : ∀ a b, e a = e b → a = b) : ∀ (b a : List (κ × β)), mergeA (kD e g a) (kD e g b) = kD e g (b.foldl (fun acc kv => putA acc kv.1 kv.2) a)
  | [], a => rfl
  | y :: r, a => by
    have z : mergeA (kD e g a) (kD e g (y :: r)) = mergeA (putA (kD e g a) (e y.1) (g y.2)) (kD e g r) := rfl
    rw [z, putA_kD he, mergeKS he]
    rfl
theorem upd_mem : ∀ (b : Pt) (a : List (List Nat × Unit)) (f : List Nat), lookA ((b.map fun x => (x, ())).foldl (fun acc kv => putA acc kv.1 kv.2) a) f ≠ none ↔ lookA a f ≠ none ∨ f ∈ b
  | [], a, f => by simp
  | y :: r, a, f => by
    rw [List.map_cons, List.foldl_cons, upd_mem r, lookA_put, List.mem_cons]
    by_cases c : f = y
    · simp [c]
    · simp [c]
theorem bears_ {form mark : List Nat} (h : St S C0 C (sos so li bd F L)) (I : SI gs es F) (a : At L li (Li fs gs es)) (gl : gs.length ≤ 100000) (e1 : es.length ≤ 200) (hP : ∀ g ∈ gs, PgB g) (fl : F.length ≤ 1000000)
    (k : ∀ (F' : FB) C', SI gs es F' → F'.length ≤ F.length + 1 → St S C0 C' (sos so li bd F' L) → Q (.bl (decide (form ∈ bearF gs es mark))) C') : D_Sought__bears [.ptr so, .str form, .str mark] C Q E := by
  unfold D_Sought__bears runD r_Sought__bears
  try simp only [List.length, Nat.reduceAdd, List.map, Nat.reduceSub, List.replicate, List.cons_append, List.nil_append, dSeq_p, dIf_p, dSetI_p, dVar_p, List.getElem?_cons_succ, List.getElem?_cons_zero, Option.some.injEq, exists_eq_left', dFld_e, dCB_p, dCons_p, dNil_p, dLc_e_p, dOverT_p, dMeth_e, List.append_nil, dNext_p, dTest_p, dOp_p, true_and]
  refine getF_st h .here rfl ?_
  refine inKD_st (e := Sum.inr) (g := D.ptr) (kvs := famA F) (k := mark) inr_inj' h (.there .here) ?_
  rw [lookA_famA, Option.isSome_map]
  refine ⟨_, rfl, ?_⟩
  have fin : ∀ (F' : FB) C, SI gs es F' → F'.length ≤ F.length + 1 → lookA F' mark ≠ none → St S C0 C (sos so li bd F' L) → r_Sought__bears_1 { nx := fun x C' => ∃ C'', KB.Sub C'' C' ∧ Q D.non C'', rt := fun d C' => ∃ C'', KB.Sub C'' C' ∧ Q d C'' } [some (.ptr so), some (.str form), some (.str mark), none] C := by
    intro F' C I' fl' hm h
    unfold r_Sought__bears_1
    try simp only [dRet_p, dOp_p, dGetI_eq_p, dVar_p, List.getElem?_cons_succ, List.getElem?_cons_zero, Option.some.injEq, exists_eq_left', dFld_e]
    refine getF_st h .here rfl ?_
    cases e : lookA F' mark with
    | none => exact absurd e hm
    | some x =>
      obtain ⟨b, ms⟩ := x
      refine getKD_st (e := Sum.inr) (g := D.ptr) (k := mark) (v := b) inr_inj' h (.there .here) (by rw [lookA_famA, e]; rfl) ?_
      refine inKD_st (e := Sum.inr) (g := trU) (kvs := ms) (k := form) inr_inj' h (.there (.there (fam_at (cl := clB) e))) ?_
      have ev : (lookA ms form).isSome = decide (form ∈ bearF gs es mark) := by
        have := I'.v mark b ms e form
        cases z : lookA ms form with
        | none =>
          rw [z] at this
          rw [decide_eq_false fun w => (this.mpr w) rfl]
          rfl
        | some w =>
          rw [z] at this
          rw [decide_eq_true (this.mp (fun z => nomatch z))]
          rfl
      rw [if_neg (show ¬ (false = true) by decide), ev]
      exact ret_k (k F' C I' fl' h)
  cases e : lookA F mark with
  | some x =>
    rw [if_neg (by simp)]
    exact fin F C I (Nat.le_succ _) (by rw [e]; exact fun z => nomatch z) h
  | none =>
    rw [if_pos (by rfl)]
    refine getF_st h .here rfl ?_
    refine isI_st h (.there (.there (at_appS a))) rfl ?_
    refine marked h (.there (.there (at_appS a))) gl e1 hP fun C h => ?_
    obtain ⟨bf, hbf⟩ : ∃ bf, bf = bearF gs es mark := ⟨_, rfl⟩
    rw [← hbf]
    have bl : bf.length ≤ 100000 := by
      rw [hbf]
      unfold bearF
      rw [List.length_map]
      exact Nat.le_trans (List.length_filter_le _ _) gl
    show lcK (bf.map D.str) _ _ _ _ _ _ _ _
    refine lc_map bf (fun f => .tup [.str f, .bl true]) D.str rfl h (fun _ _ => trivial) (fun y C'' hy h Q'' k => ?_) (by rw [sizeLine_eq]; omega) fun zl C h => ?_
    · try simp only [wipeD, List.foldr_cons, List.foldr_nil, List.set_cons_succ, List.set_cons_zero, dTup_p, dCons_p, List.length, Nat.reduceLeDiff, dNil_p, true_and, dC_p, dVar_p, gNm_p, List.getElem?_cons_succ, List.getElem?_cons_zero, Option.some.injEq, exists_eq_left']
      exact k C'' h
    obtain ⟨ps, hps⟩ : ∃ ps : List (List Nat × Unit), ps = bf.map fun x => (x, ()) := ⟨_, rfl⟩
    have ep : bf.map (fun f => D.tup [.str f, .bl true]) = (kD Sum.inr trU ps).map prD := by
      rw [hps]
      unfold kD
      rw [List.map_map, List.map_map]
      rfl
    refine .inl ⟨zl, kD Sum.inr trU ps, rfl, .inl (by rw [← ep]; exact h.get .here), fun nd hnd => ?_⟩
    have em : mergeA [] (kD Sum.inr trU ps) = kD Sum.inr trU (ps.foldl (fun acc kv => putA acc kv.1 kv.2) []) := mergeKS inr_inj' ps []
    rw [em]
    have h := h.new (c := .dk (kD Sum.inr trU (ps.foldl (fun acc kv => putA acc kv.1 kv.2) []))) hnd
    generalize hms : ps.foldl (fun acc kv => putA acc kv.1 kv.2) [] = ms at h ⊢
    generalize up C nd (.dk (kD Sum.inr trU ms)) = C at h ⊢
    have h := h.snd
    refine getF_st h (.there .here) rfl ?_
    refine putKD_st (e := Sum.inr) (g := D.ptr) (k := mark) (v := nd) inr_inj' h (.there (.there .here)) (by
      have : (famA F).length = F.length := List.length_map _
      rw [this, sizeLine_eq]; omega) fun C h => ?_
    have ef : putA (famA F) mark nd = famA (F ++ [(mark, (nd, ms))]) := by
      rw [putA_fresh (by rw [lookA_famA, e]; rfl)]
      unfold famA
      rw [List.map_append]
      rfl
    rw [ef] at h
    have I' : SI gs es (F ++ [(mark, (nd, ms))]) := by
      refine ⟨?_, fun m a2 fs2 e2 f => ?_⟩
      · rw [List.map_append]
        refine List.nodup_append.mpr ⟨I.nd, by simp, fun x hx y hy z => ?_⟩
        have hy : y = mark := by simpa using hy
        subst hy
        exact lookA_none_iff.mp e (z ▸ hx)
      · rw [lookA_app_none e] at e2
        by_cases c : m = mark
        · rw [if_pos c] at e2
          cases e2
          rw [c, ← hbf, ← hms, hps, upd_mem bf [] f]
          simp [lookA_nil]
        · rw [if_neg c] at e2
          exact I.v m a2 fs2 e2 f
    refine fin (F ++ [(mark, (nd, ms))]) C I' (by rw [List.length_append]; exact Nat.le_refl _) (by rw [lookA_app_none e, if_pos rfl]; exact fun z => nomatch z) ?_
    unfold sos
    have e3 : famL clB (F ++ [(mark, (nd, ms))]) ++ L = famL clB F ++ (nd, clB ms, true) :: L := by
      unfold famL
      rw [List.map_append, List.append_assoc]
      rfl
    rw [e3]
    have h4 : ((nd, clB ms, true) :: (so, soC li bd, true) :: (bd, Cell.dk (kD Sum.inr D.ptr (famA (F ++ [(mark, (nd, ms))]))), true) :: (famL clB F ++ L)).Perm ((so, soC li bd, true) :: (bd, .dk (kD Sum.inr D.ptr (famA (F ++ [(mark, (nd, ms))]))), true) :: (famL clB F ++ (nd, clB ms, true) :: L)) := by
      refine (List.perm_middle (l₁ := [_, _])).symm.trans (.append_left [_, _] ?_)
      exact (List.perm_middle (l₁ := famL clB F)).symm
    exact h.perm h4
/-- whether a word without a stroke ahead fits -/
noncomputable def fit0 (gs : List Pg) (es : List Ed) (g : Pg) (w : List Nat) : Bool :=
  if w.take 1 = [43] then decide (g.form ∈ bearF gs es (w.drop 1)) else if w.take 1 = [47] then liesF g.paths (pathL (w.drop 1)) else subL w g.form || (match g.cal with | none => false | some t => subL w (lowerL t))
noncomputable def fitW (gs : List Pg) (es : List Ed) (g : Pg) (w : List Nat) : Bool := if w.take 1 = [45] then !fit0 gs es g (w.drop 1) else fit0 gs es g w
theorem fits0 {g : Pg} {w : List Nat} {N : Nat} (h : St S C0 C (sos so li bd F L)) (I : SI gs es F) (a : At L li (Li fs gs es)) (gl : gs.length ≤ 100000) (e1 : es.length ≤ 200) (hP : ∀ g ∈ gs, PgB g) (fl : F.length ≤ 1000000) (hg : PgB g) (hw : plainF w = true) (wl : w.length ≤ 2 ^ 18)
    (k : ∀ (F' : FB) C', SI gs es F' → F'.length ≤ F.length + 1 → St S C0 C' (sos so li bd F' L) → Q (.bl (fit0 gs es g w)) C') : DO_Sought__fits (N + 1) [.ptr so, pgD g, .str w] C Q E := by
  have wn : w ≠ [] ∧ w.take 1 ≠ [45] := by
    unfold plainF at hw
    by_cases c : w = [] ∨ w = [124] ∨ 32 ∈ w ∨ w.take 1 = [45]
    · rw [if_pos c] at hw; cases hw
    · exact ⟨fun z => c (.inl z), fun z => c (.inr (.inr (.inr z)))⟩
  have hw2 : w.take 1 = [47] → w.take 1 ≠ [43] → (decide (w.drop 1 = []) || (splitL (w.drop 1) [47]).all isW) = true := fun z1 z2 => by
    unfold plainF at hw
    by_cases c : w = [] ∨ w = [124] ∨ 32 ∈ w ∨ w.take 1 = [45]
    · rw [if_pos c] at hw; cases hw
    · rw [if_neg c, if_neg z2, if_pos z1] at hw
      exact hw
  unfold DO_Sought__fits runD r_Sought__fits pgD
  try simp only [List.length, Nat.reduceAdd, List.map, Nat.reduceSub, List.replicate, List.cons_append, List.nil_append, dSeq_p, dAsg_p, gTp_p, gCn_p, gNl_p, dIf_p, dRet_p, dNotT_p, dMeth_e, List.append_nil, dCons_p, dNil_p, dSl_p, dNoP_p, dPart_p, dC_p, D.int.injEq, exists_eq_left', dVar_p, dNext_p, dTru_p, dBM_p, gNm_p, List.set_cons_succ, List.set_cons_zero, List.getElem?_cons_succ, List.getElem?_cons_zero, Option.some.injEq, slD_s_p, D.tup.injEq, List.cons.injEq, ex2, true_and]
  refine ⟨rfl, starts_st ⟨_, rfl, ?_⟩⟩
  rw [if_neg (by simpa using wn.2)]
  unfold r_Sought__fits_3
  try simp only [dSeq_p, dIf_p, dRet_p, dMeth_e, List.append_nil, dCons_p, dNil_p, dSl_p, dNoP_p, dPart_p, dC_p, D.int.injEq, exists_eq_left', dVar_p, List.getElem?_cons_succ, List.getElem?_cons_zero, Option.some.injEq, slD_s_p, dNext_p, dTru_p, dBM_p]
  refine ⟨rfl, starts_st ⟨_, rfl, ?_⟩⟩
  unfold fit0 at k
  by_cases c1 : w.take 1 = [43]
  · rw [if_pos (by simpa using c1)]
    rw [if_pos c1] at k
    refine isI_st h .here rfl ⟨sl_ok (by omega), ?_⟩
    rw [cut_one]
    exact bears_ h I a gl e1 hP fl fun F' C' I' fl' h => ret_k (k F' C' I' fl' h)
  rw [if_neg (by simpa using c1)]
  rw [if_neg c1] at k
  unfold r_Sought__fits_2
  try simp only [dSeq_p, dIf_p, dRet_p, dCall_p, List.append_nil, dCons_p, dNil_p, dSl_p, dNoP_p, dPart_p, dC_p, D.int.injEq, exists_eq_left', dVar_p, List.getElem?_cons_succ, List.getElem?_cons_zero, Option.some.injEq, slD_s_p, dNext_p, dTru_p, dBM_p]
  refine ⟨rfl, starts_st ⟨_, rfl, ?_⟩⟩
  by_cases c2 : w.take 1 = [47]
  · rw [if_pos (by simpa using c2)]
    rw [if_pos c2] at k
    refine ⟨sl_ok (by omega), ?_⟩
    rw [cut_one]
    refine path_in2 h (by rw [List.length_drop]; omega) fun C h => ?_
    rw [if_pos (hw2 c2 c1)]
    have pl : (pathL (w.drop 1)).length ≤ 2 ^ 20 := by
      unfold pathL
      split
      · exact Nat.zero_le _
      · have := split_len (l := w.drop 1) (z := [47]) (by simp)
        rw [List.length_drop] at this
        omega
    exact lies_within h hg.paths pl fun C h => ret_k (k F C I (Nat.le_succ _) h)
  rw [if_neg (by simpa using c2)]
  rw [if_neg c2] at k
  unfold r_Sought__fits_1
  try simp only [dRet_p, dOrT_p, dAndT_p, dOp_p, dBM0_p, dVar_p, List.getElem?_cons_succ, List.getElem?_cons_zero, Option.some.injEq, exists_eq_left', isNR_p, Bool.not_true, truD_b_p, exists_eq_left, dC_p, true_and]
  refine inT_st ?_
  refine ⟨_, rfl, ?_⟩
  cases e : subL w g.form with
  | true =>
    rw [if_pos rfl]
    have := k F C I (Nat.le_succ _) h
    rw [e, Bool.true_or] at this
    exact ret_k this
  | false =>
    rw [if_neg (by decide)]
    have := k F C I (Nat.le_succ _) h
    rw [e, Bool.false_or] at this
    cases ec : g.cal with
    | none =>
      rw [ec] at this
      exact ret_k this
    | some t =>
      rw [ec] at this
      have tl := hg.cal t ec
      rw [if_pos (by rfl)]
      refine ⟨rfl, t, rfl, rfl, by omega, ?_⟩
      exact inT_st (ret_k this)
/-- a search's word -/
def SWok (w : List Nat) : Prop := swP w = true ∧ w.length ≤ 2 ^ 18
theorem fits_ {g : Pg} {w : List Nat} (h : St S C0 C (sos so li bd F L)) (I : SI gs es F) (a : At L li (Li fs gs es)) (gl : gs.length ≤ 100000) (e1 : es.length ≤ 200) (hP : ∀ g ∈ gs, PgB g) (fl : F.length ≤ 1000000) (hg : PgB g) (hw : SWok w)
    (k : ∀ (F' : FB) C', SI gs es F' → F'.length ≤ F.length + 1 → St S C0 C' (sos so li bd F' L) → Q (.bl (fitW gs es g w)) C') : D_Sought__fits [.ptr so, pgD g, .str w] C Q E := by
  obtain ⟨hs, wl⟩ := hw
  unfold swP at hs
  unfold fitW at k
  by_cases c : w.take 1 = [45]
  · rw [if_pos c] at hs k
    show DO_Sought__fits (3 + 1) [.ptr so, pgD g, .str w] C Q E
    unfold DO_Sought__fits runD r_Sought__fits pgD
    try simp only [List.length, Nat.reduceAdd, List.map, Nat.reduceSub, List.replicate, List.cons_append, List.nil_append, dSeq_p, dAsg_p, gTp_p, gCn_p, gNl_p, dIf_p, dRet_p, dNotT_p, dMeth_e, List.append_nil, dCons_p, dNil_p, dSl_p, dNoP_p, dPart_p, dC_p, D.int.injEq, exists_eq_left', dVar_p, dNext_p, dTru_p, dBM_p, gNm_p, List.set_cons_succ, List.set_cons_zero, List.getElem?_cons_succ, List.getElem?_cons_zero, Option.some.injEq, slD_s_p, D.tup.injEq, List.cons.injEq, ex2, true_and]
    refine ⟨rfl, starts_st ⟨_, rfl, ?_⟩⟩
    rw [if_pos (by simpa using c)]
    refine isI_st h .here rfl ⟨sl_ok (by omega), ?_⟩
    rw [cut_one]
    exact fits0 (g := g) (N := 2) h I a gl e1 hP fl hg hs (by rw [List.length_drop]; omega) fun F' C' I' fl' h => ⟨_, rfl, ret_k (k F' C' I' fl' h)⟩
  · rw [if_neg c] at hs k
    exact fits0 (g := g) (N := 3) h I a gl e1 hP fl hg hs wl k
noncomputable def fitR (gs : List Pg) (es : List Ed) (g : Pg) (rw : Pt) : Bool := rw.all (fitW gs es g)
theorem fits_row {g : Pg} {rw_ : Pt} (h : St S C0 C (sos so li bd F L)) (I : SI gs es F) (a : At L li (Li fs gs es)) (gl : gs.length ≤ 100000) (e1 : es.length ≤ 200) (hP : ∀ g ∈ gs, PgB g) (fl : F.length + rw_.length ≤ 1000000) (hg : PgB g) (hw : ∀ w ∈ rw_, SWok w)
    (k : ∀ (F' : FB) C', SI gs es F' → F'.length ≤ F.length + rw_.length → St S C0 C' (sos so li bd F' L) → Q (.bl (fitR gs es g rw_)) C') : D_Sought__fits_row [.ptr so, pgD g, pD rw_] C Q E := by
  unfold D_Sought__fits_row runD r_Sought__fits_row pD
  try simp only [List.length, Nat.reduceAdd, List.map, Nat.reduceSub, List.replicate, List.cons_append, List.nil_append, dRet_p, dCB_p, dCons_p, dNil_p, dLc_e_p, dOverT_p, dVar_p, List.getElem?_cons_succ, List.getElem?_cons_zero, Option.some.injEq, exists_eq_left', true_and]
  refine lc_st (fun i acc C => ∃ F', acc = ((rw_.take i).map fun w => D.bl (fitW gs es g w)) ∧ SI gs es F' ∧ F'.length ≤ F.length + i ∧ St S C0 C (sos so li bd F' L)) ⟨F, rfl, I, Nat.le_refl _, h⟩ (fun _ _ _ _ => trivial) (fun i x acc C hi ex ha hI => ?_) (by rw [List.length_map, sizeLine_eq]; omega) fun acc C hI => ?_
  · obtain ⟨F', rfl, I', fl', h⟩ := hI
    rw [List.length_map] at hi
    rw [List.getElem?_map, List.getElem?_eq_getElem hi] at ex
    cases ex
    simp only [dYes, if_true]
    try simp only [wipeD, List.foldr_cons, List.foldr_nil, List.set_cons_succ, List.set_cons_zero, dMeth_e, List.append_nil, dCons_p, dNil_p, dVar_p, gNm_p, List.getElem?_cons_zero, Option.some.injEq, List.getElem?_cons_succ, exists_eq_left']
    refine isI_st h .here rfl ?_
    refine fits_ h I' a gl e1 hP (by omega) hg (hw _ (List.getElem_mem hi)) fun F'' C' I'' fl'' h => ?_
    refine ⟨C', Sub.refl _, F'', ?_, I'', by omega, h⟩
    rw [List.take_add_one, List.getElem?_eq_getElem hi, List.map_append]
    rfl
  · obtain ⟨F', rfl, I', fl', h⟩ := hI
    rw [List.length_map, List.take_length] at *
    refine alloc_st h fun r C h => ?_
    rw [show rw_.map (fun w => D.bl (fitW gs es g w)) = (rw_.map (fitW gs es g)).map D.bl by rw [List.map_map]; rfl] at h
    refine all_st h .here ?_
    have := k F' C I' fl' h.tail
    unfold fitR at this
    rw [List.all_map]
    exact ret_k this
end K47
namespace K47
open PySem PySem.Spec PyProof.Rows KB
open L2 hiding op_eqD op_neD call_listD
variable {S : Addr → Prop} {C0 C : Cp} {L L1 L2 : List Ent} {p q r li so bd : Addr} {Q : DQ} {E : Exn → Cp → Prop} {fs : List Pt} {gs : List Pg} {es : List Ed} {d : D}
/-- whether a thing is a word of a search -/
def swO : D → Bool
  | .str l => swP l
  | _ => false
/-- a thing in a row -/
structure Th (L : List Ent) (d : D) : Prop where
  rp : ∃ p, ShL L d p
  st : ∀ l, d = .str l → l.length ≤ 2 ^ 18
theorem is_swO (h : St S C0 C L) (t : Th L d) (k : ∀ C', St S C0 C' L → Q (.bl (swO d)) C') : D_is_search_word [d] C Q E := by
  obtain ⟨⟨p, hp⟩, hl⟩ := t
  have fin : kitB (nmP p) "str" = some false → swO d = false → D_is_search_word [d] C Q E := by
    intro hb e2
    unfold D_is_search_word runD r_is_search_word
    try simp only [List.length, Nat.reduceAdd, List.map, Nat.reduceSub, List.replicate, List.append_nil, dSeq_p, dIf_p, dRet_p, dC_p, dNext_p, dNot_p, dTru_p, dCB_p, dCons_p, dNil_p, dVar_p, List.getElem?_cons_zero, Option.some.injEq, exists_eq_left', true_and]
    refine isi_sh h hp hb ?_
    try simp only [truD_b_p, exists_eq_left, Bool.not_false, if_true]
    have := k C h
    rw [e2] at this
    exact ret_k this
  cases hp with
  | str l => exact is_sw h (by have := hl l rfl; omega) k
  | non => exact fin (by kernel_rfl) rfl
  | bl b => exact fin (by kernel_rfl) rfl
  | int b => exact fin (by kernel_rfl) rfl
  | tup a => exact fin (by kernel_rfl) rfl
  | lst a b => exact fin (by kernel_rfl) rfl
  | dk a b => exact fin (by kernel_rfl) rfl
def badO (RS : List (List D)) : List D := RS.flatten.filter fun w => !swO w
theorem badO_snoc (RS : List (List D)) (row : List D) : badO (RS ++ [row]) = badO RS ++ row.filter fun w => !swO w := by
  unfold badO
  rw [List.flatten_append, List.filter_append]
  simp
theorem badO_at {RS : List (List D)} {i : Nat} (hi : i < RS.length) : RS = RS.take i ++ [RS[i]] ++ RS.drop (i + 1) := by
  rw [List.append_assoc, List.singleton_append, ← List.drop_eq_getElem_cons hi, List.take_append_drop]
theorem badO_app (A B : List (List D)) : badO (A ++ B) = badO A ++ badO B := by
  unfold badO
  rw [List.flatten_append, List.filter_append]
theorem look {RS : List (List D)} (h : St S C0 C L) (hb : ∀ row ∈ RS, ∀ w ∈ row, Th L w) (k : badO RS = [] → ∀ C', St S C0 C' L → Q .non C') (kx : ∀ w rest C', badO RS = w :: rest → St S C0 C' L → E ("NoWord", [("word", w)]) C') : D_look_at_words [.tup (RS.map D.tup)] C Q E := by
  unfold D_look_at_words runX r_look_at_words
  refine ⟨rfl, ?_⟩
  try simp only [List.map, List.length, Nat.reduceAdd, Nat.reduceSub, List.replicate, List.cons_append, List.nil_append, dFor_e_p, dOverT_p, dVar_p, List.getElem?_cons_zero, Option.some.injEq, exists_eq_left']
  refine for_st (fun i sl C => ∃ x1 x2, sl = [some (.tup (RS.map D.tup)), x1, x2] ∧ badO (RS.take i) = [] ∧ St S C0 C L) ⟨none, none, rfl, rfl, h⟩ (fun _ _ _ _ => trivial) (fun i x sl C hi ex hI => ?_) fun sl C hI => ?_
  · obtain ⟨x1, x2, rfl, e0, h⟩ := hI
    rw [List.length_map] at hi
    rw [List.getElem?_map, List.getElem?_eq_getElem hi] at ex
    cases ex
    unfold l_look_at_words_2
    have hrow := hb RS[i] (List.getElem_mem hi)
    have eRS := badO_at hi
    have e1 : badO (RS.take (i + 1)) = badO (RS.take i) ++ (RS[i]).filter fun w => !swO w := by
      rw [← badO_snoc, List.take_add_one, List.getElem?_eq_getElem hi]
      rfl
    rw [e0, List.nil_append] at e1
    have e2 : badO RS = (RS[i]).filter (fun w => !swO w) ++ badO (RS.drop (i + 1)) := by
      have := congrArg badO eRS
      rw [badO_app, badO_snoc, e0, List.nil_append] at this
      exact this
    generalize RS[i] = row at *
    try simp only [dFor_e_p, dOverT_p, dVar_p, gNm_p, List.set_cons_succ, List.set_cons_zero, List.getElem?_cons_succ, List.getElem?_cons_zero, Option.some.injEq, exists_eq_left']
    refine for_st (fun j sl C => ∃ x2, sl = [some (.tup (RS.map D.tup)), some (D.tup row), x2] ∧ (row.take j).filter (fun w => !swO w) = [] ∧ St S C0 C L) ⟨x2, rfl, rfl, h⟩ (fun _ _ _ _ => trivial) (fun j x sl C hj ex hI => ?_) fun sl C hI => ?_
    · obtain ⟨x2, rfl, f0, h⟩ := hI
      rw [List.getElem?_eq_getElem hj] at ex
      cases ex
      have hw := hrow row[j] (List.getElem_mem hj)
      have f1 : (row.take (j + 1)).filter (fun w => !swO w) = (row.take j).filter (fun w => !swO w) ++ [row[j]].filter fun w => !swO w := by
        rw [List.take_add_one, List.getElem?_eq_getElem hj, List.filter_append]
        rfl
      have f2 : row.filter (fun w => !swO w) = [row[j]].filter (fun w => !swO w) ++ (row.drop (j + 1)).filter fun w => !swO w := by
        have e : row = row.take j ++ ([row[j]] ++ row.drop (j + 1)) := by
          rw [List.singleton_append, ← List.drop_eq_getElem_cons hj, List.take_append_drop]
        have := congrArg (List.filter fun w => !swO w) e
        rw [List.filter_append, List.filter_append, f0, List.nil_append] at this
        exact this
      rw [f0, List.nil_append] at f1
      generalize row[j] = w at *
      unfold l_look_at_words_1
      try simp only [dIf_p, dRaise_p, List.length, Nat.reduceAdd, dCons_p, Nat.reduceLeDiff, dNil_p, true_and, dVar_p, dNext_p, dNot_p, dTru_p, dCall_p, List.append_nil, gNm_p, List.set_cons_succ, List.set_cons_zero, List.getElem?_cons_succ, List.getElem?_cons_zero, Option.some.injEq, exists_eq_left', List.cons.injEq, and_true]
      refine is_swO h hw fun C h => ?_
      refine ⟨_, rfl, ?_⟩
      cases ew : swO w with
      | true =>
        rw [if_neg (by decide)]
        refine ⟨C, Sub.refl C, ?_, h⟩
        rw [f1, List.filter_cons_of_neg (by rw [ew]; decide)]
        rfl
      | false =>
        rw [if_pos (by rfl)]
        exact ⟨C, Sub.refl C, kx w _ C (by rw [e2, f2, List.filter_cons_of_pos (by rw [ew]; rfl)]; rfl) h⟩
    · obtain ⟨x2, rfl, f0, h⟩ := hI
      rw [List.take_of_length_le (Nat.le_refl _)] at f0
      exact ⟨C, Sub.refl C, _, _, rfl, by rw [e1]; exact f0, h⟩
  · obtain ⟨x1, x2, rfl, e0, h⟩ := hI
    rw [List.length_map, List.take_of_length_le (Nat.le_refl _)] at e0
    exact ret_k (k e0 C h)
/-- orders of pages -/
def lqA (x y : Pg) : Bool := leP (.str x.form) (.str y.form)
def lqT (x y : Pg) : Bool := leP (.tup [.str (x.cal.getD []), .str x.form]) (.tup [.str (y.cal.getD []), .str y.form])
def lqM (x y : Pg) : Bool := leP (.tup [.int (0 - (x.marks.length : Int)), .str x.form]) (.tup [.int (0 - (y.marks.length : Int)), .str y.form])
/-- keys of a page -/
inductive KF : (D → D) → (Pg → Pg → Bool) → Prop
  | a : KF keyA lqA
  | t : KF keyT lqT
  | m : KF keyM lqM
theorem keyA_pg (g : Pg) : keyA (pgD g) = .str g.form := rfl
theorem keyT_pg (g : Pg) : keyT (pgD g) = .tup [.str (g.cal.getD []), .str g.form] := by
  cases g with
  | mk f c m p => cases c <;> rfl
theorem keyM_pg (g : Pg) : keyM (pgD g) = .tup [.int (0 - (g.marks.length : Int)), .str g.form] := by
  show D.tup [.int (0 - ((g.marks.map D.str).length : Int)), .str g.form] = _
  rw [List.length_map]
theorem keyOk_of {f : D → D} {h : Pg → D} (e : ∀ g, f (pgD g) = h g) (al : ∀ a b, PySem.W.alike (toP (h a)) (toP (h b)) = true) (so : (∀ g, ∃ x r, toP (h g) = .tuple (x :: r)) ∨ ∀ g, toP (h g) ≠ .none ∧ ∀ xs, toP (h g) ≠ .tuple xs) (np : ∀ g, npt (h g) = true ∧ dep (h g) ≤ 40) (gs : List Pg) : KeyOk f (gs.map pgD) := by
  have e1 : (gs.map pgD).map (fun x => toP (f x)) = gs.map fun g => toP (h g) := by
    rw [List.map_map]
    exact List.map_congr_left fun g _ => by show toP (f (pgD g)) = _; rw [e]
  refine ⟨?_, ?_, fun x hx => ?_⟩
  · rw [e1]
    intro a ha b hb
    obtain ⟨x, _, rfl⟩ := List.mem_map.mp ha
    obtain ⟨y, _, rfl⟩ := List.mem_map.mp hb
    exact al x y
  · rw [e1]
    rcases so with so | so
    · refine .inl fun d hd => ?_
      obtain ⟨x, _, rfl⟩ := List.mem_map.mp hd
      exact so x
    · refine .inr fun d hd => ?_
      obtain ⟨x, _, rfl⟩ := List.mem_map.mp hd
      exact so x
  · obtain ⟨d, _, rfl⟩ := List.mem_map.mp hx
    rw [e]
    exact np d
theorem KF.ok {f : D → D} {le : Pg → Pg → Bool} (k : KF f le) (gs : List Pg) : KeyOk f (gs.map pgD) := by
  cases k with
  | a => exact keyOk_of keyA_pg (fun _ _ => rfl) (.inr fun g => ⟨nofun, fun xs => nofun⟩) (fun g => ⟨rfl, by show (0 : Nat) ≤ 40; decide⟩) gs
  | t => exact keyOk_of keyT_pg (fun _ _ => rfl) (.inl fun g => ⟨_, _, rfl⟩) (fun g => ⟨rfl, by show (1 : Nat) ≤ 40; decide⟩) gs
  | m => exact keyOk_of keyM_pg (fun _ _ => rfl) (.inl fun g => ⟨_, _, rfl⟩) (fun g => ⟨rfl, by show (1 : Nat) ≤ 40; decide⟩) gs
theorem KF.sort {f : D → D} {le : Pg → Pg → Bool} (k : KF f le) (gs : List Pg) : (gs.map pgD).mergeSort (KB.leK f) = (gs.mergeSort le).map pgD := by
  refine (W.sort_maps pgD fun a _ b _ => ?_).symm
  show _ = leP (f (pgD a)) (f (pgD b))
  cases k with
  | a => rfl
  | t => rw [keyT_pg, keyT_pg]; rfl
  | m => rw [keyM_pg, keyM_pg]; rfl
end K47
namespace K47
open PySem PySem.Spec PyProof.Rows KB
open L2 hiding op_eqD op_neD call_listD
variable {S : Addr → Prop} {C0 C : Cp} {L L1 L2 : List Ent} {p q r li so bd T0 : Addr} {Q : DQ} {E : Exn → Cp → Prop} {fs : List Pt} {gs : List Pg} {es : List Ed} {d : D}
noncomputable def hitR (gs : List Pg) (es : List Ed) (RS : List Pt) (g : Pg) : Bool := RS.any (fitR gs es g)
def limL {α : Type} (m : Option Nat) (xs : List α) : List α := match m with
  | none => xs
  | some n => xs.take n
def mostD : Option Nat → D
  | none => .non
  | some n => .int n
noncomputable def foundF (gs : List Pg) (es : List Ed) (RS : List Pt) (le : Pg → Pg → Bool) (back : Bool) (most : Option Nat) : Pt :=
  limL most (if back then (((gs.filter (hitR gs es RS)).mergeSort le).map Pg.form).reverse else ((gs.filter (hitR gs es RS)).mergeSort le).map Pg.form)
theorem putFd_lt {f : Str} {v : D} : ∀ {fs : Fs} {n : Nat}, fs.length < n → (putFd f v fs).length < n + 1
  | [], n, h => by show 1 < n + 1; omega
  | (g, x) :: r, n, h => by
    unfold putFd
    split
    · exact Nat.lt_succ_of_lt h
    · rw [List.length_cons] at h ⊢
      have := putFd_lt (f := f) (v := v) (fs := r) (n := n - 1) (by omega)
      omega
theorem sought_init (h : St S C0 C ((so, .ins "Sought" [], true) :: L)) (k : ∀ bd C', St S C0 C' (sos so li bd [] L) → Q .non C') : D_Sought____init__ [.ptr so, .ptr li] C Q E := by
  unfold D_Sought____init__ runD r_Sought____init__
  try simp only [List.length, Nat.reduceAdd, List.map, Nat.reduceSub, List.replicate, List.append_nil, dSeq_p, dSetF_e, dVar_p, List.getElem?_cons_zero, Option.some.injEq, exists_eq_left', dAlt_p, dEmp_e_p, dEmpG_e_p, List.getElem?_cons_succ, true_and]
  refine setF_st h (by repeat (first | exact Nat.zero_lt_succ _ | apply putFd_lt)) .here fun C h => ?_
  refine .inl (alloc_st h fun bd C h => ?_)
  refine setF_st h (by repeat (first | exact Nat.zero_lt_succ _ | apply putFd_lt)) (.there .here) fun C h => ?_
  exact ret_k (k bd C h.swap)
theorem hits {RS : List Pt} {g : Pg} {F : FB} (h : St S C0 C (sos so li bd F L)) (I : SI gs es F) (a : At L li (Li fs gs es)) (gl : gs.length ≤ 100000) (e1 : es.length ≤ 200) (hP : ∀ g ∈ gs, PgB g) (fl : F.length + RS.flatten.length ≤ 1000000) (hg : PgB g) (hw : ∀ row ∈ RS, ∀ w ∈ row, SWok w) {x1 x2 x3 x4 x6 x7 x8 : Option D}
    (hz : RS.length < sizeLine) (k : ∀ (F' : FB) C', SI gs es F' → F'.length ≤ F.length + RS.flatten.length → St S C0 C' (sos so li bd F' L) → Q (.bl (hitR gs es RS g)) C') :
    dCB anyR (dCons (dLc (dOverT (dVar 1)) (gNm 10) (dYes) (dMeth "Sought" "fits_row" D_Sought__fits_row [] (dVar 5) (dCons (dVar 9) (dCons (dVar 10) (dNil)))) [10]) (dNil)) [x1, some (.tup (RS.map pD)), x2, x3, x4, some (.ptr so), x6, x7, x8, some (pgD g), none] C Q := by
  try simp only [dCB_p, dCons_p, dNil_p, dLc_e_p, dOverT_p, dVar_p, List.getElem?_cons_succ, List.getElem?_cons_zero, Option.some.injEq, exists_eq_left']
  refine lc_st (fun i acc C => ∃ F', acc = ((RS.take i).map fun w => D.bl (fitR gs es g w)) ∧ SI gs es F' ∧ F'.length ≤ F.length + (RS.take i).flatten.length ∧ St S C0 C (sos so li bd F' L)) ⟨F, rfl, I, Nat.le_refl _, h⟩ (fun _ _ _ _ => trivial) (fun i x acc C hi ex ha hI => ?_) (by rw [List.length_map]; exact hz) fun acc C hI => ?_
  · obtain ⟨F', rfl, I', fl', h⟩ := hI
    rw [List.length_map] at hi
    rw [List.getElem?_map, List.getElem?_eq_getElem hi] at ex
    cases ex
    have e4 : (RS.take (i + 1)).flatten.length = (RS.take i).flatten.length + (RS[i]).length := by
      rw [List.take_add_one, List.getElem?_eq_getElem hi, List.flatten_append, List.length_append]
      simp
    have e5 : (RS.take (i + 1)).flatten.length ≤ RS.flatten.length := by
      have := congrArg (fun l => (List.flatten l).length) (List.take_append_drop (i + 1) RS)
      simp only [List.flatten_append, List.length_append] at this
      omega
    try simp only [wipeD, List.foldr_cons, List.foldr_nil, List.set_cons_succ, List.set_cons_zero, dMeth_e, List.append_nil, dCons_p, dNil_p, dVar_p, dYes_p, if_true, gNm_p, List.getElem?_cons_succ, List.getElem?_cons_zero, Option.some.injEq, exists_eq_left']
    refine isI_st h .here rfl ?_
    refine fits_row h I' a gl e1 hP (by omega) hg (hw _ (List.getElem_mem hi)) fun F'' C' I'' fl'' h => ?_
    refine ⟨C', Sub.refl _, F'', ?_, I'', by omega, h⟩
    rw [List.take_add_one, List.getElem?_eq_getElem hi, List.map_append]
    rfl
  · obtain ⟨F', rfl, I', fl', h⟩ := hI
    rw [List.length_map, List.take_length] at *
    refine alloc_st h fun r C h => ?_
    rw [show RS.map (fun w => D.bl (fitR gs es g w)) = (RS.map (fitR gs es g)).map D.bl by rw [List.map_map]; rfl] at h
    refine any_st h .here ?_
    have := k F' C I' fl' h.tail
    unfold hitR at this
    rw [List.any_map]
    exact this
theorem cut_take {α : Type} (xs : List α) (m : Nat) : cutL xs none (some (m : Int)) = xs.take m := by
  unfold cutL
  rw [HT.sIx_none, HT.sIx_nat, List.drop_zero, Nat.sub_zero, ← List.take_eq_take_min]
theorem St.dropA {X : List Ent} (h : KB.St S C0 C (X ++ L)) : KB.St S C0 C L := by
  induction X with
  | nil => exact h
  | cons e X ih => exact ih h.tail
theorem search3 {W : DX} {ED : DEnds} {RS : List Pt} {ol : List Nat} {nm : Str} {kf : D → D} {le : Pg → Pg → Bool} {back : Bool} {most : Option Nat} (h : St S C0 C L) (a : At L li (Li fs gs es)) (ht : At L T0 (.tb "search" "search.<locals>.<lambda>")) (gl : gs.length ≤ 100000) (e1 : es.length ≤ 200) (hP : ∀ g ∈ gs, PgB g)
    (fl : gs.length * RS.flatten.length + RS.flatten.length ≤ 1000000) (hz : RS.length < sizeLine) (hw : ∀ row ∈ RS, ∀ w ∈ row, SWok w) (ho : lookK tb_ORDERS ol = some (.fn nm)) (hk : lookKf [("address_key", keyA), ("title_key", keyT), ("marks_key", keyM)] nm = some kf) (kk : KF kf le) (hm : ∀ m, most = some m → m ≤ 100000)
    (k : ∀ C', St S C0 C' L → ED.rt (pD (foundF gs es RS le back most)) C') : r_search_3 W ED [some (.ptr li), some (.tup (RS.map pD)), some (.str ol), some (.bl back), some (mostD most), none, none, none, none, none, none] C := by
  unfold r_search_3
  try simp only [dSeq_p, dAsg_p, gNm_p, List.set_cons_succ, List.set_cons_zero, dIf_p, dDrop_p, dBM0_p, dVar_p, List.getElem?_cons_succ, List.getElem?_cons_zero, Option.some.injEq, exists_eq_left', dNext_p, dTru_p, truD_b_p, exists_eq_left, dLc_e_p, dOver_p, dSortKf_p, dCons_p, dNil_p, dKItem_p, D.str.injEq, dOverT_p, dFld_e, dMake_e, List.append_nil]
  refine alloc_st h fun so C h => ?_
  refine sought_init h fun bd C h => ⟨rfl, ?_⟩
  refine getF_st h (.there (.there (at_appS a))) (v := .tup (gs.map pgD)) rfl ?_
  skip
  refine lc_st (fun i acc C => ∃ F', acc = ((gs.take i).filter (hitR gs es RS)).map pgD ∧ SI gs es F' ∧ F'.length ≤ i * RS.flatten.length ∧ St S C0 C (sos so li bd F' L)) ⟨[], rfl, .nil, Nat.zero_le _, h⟩ (fun _ _ _ _ => trivial) (fun i x acc C hi ex ha hI => ?_) (by rw [List.length_map, sizeLine_eq]; omega) fun acc C hI => ?_
  · obtain ⟨F', rfl, I', fl', h⟩ := hI
    rw [List.length_map] at hi
    rw [List.getElem?_map, List.getElem?_eq_getElem hi] at ex
    cases ex
    have hg := hP _ (List.getElem_mem hi)
    have e3 : (gs.take (i + 1)).filter (hitR gs es RS) = (gs.take i).filter (hitR gs es RS) ++ [gs[i]].filter (hitR gs es RS) := by
      rw [List.take_add_one, List.getElem?_eq_getElem hi, List.filter_append]
      rfl
    have e4 : (i + 1) * RS.flatten.length ≤ gs.length * RS.flatten.length := Nat.mul_le_mul_right _ hi
    have e5 : (i + 1) * RS.flatten.length = i * RS.flatten.length + RS.flatten.length := Nat.succ_mul _ _
    generalize gs[i] = g at *
    simp only [gNm_p, dTru_p, wipeD, List.foldr_cons, List.foldr_nil, List.set_cons_succ, List.set_cons_zero]
    refine hits h I' (a) gl e1 hP (by omega) hg hw hz fun F'' C' I'' fl'' h => ?_
    refine ⟨_, rfl, ?_⟩
    cases ew : hitR gs es RS g with
    | true =>
      rw [if_pos rfl]
      try simp only [dVar_p, List.getElem?_cons_succ, List.getElem?_cons_zero, Option.some.injEq, exists_eq_left']
      refine ⟨C', Sub.refl _, F'', ?_, I'', by omega, h⟩
      rw [e3, List.filter_cons_of_pos ew, List.map_append]
      rfl
    | false =>
      rw [if_neg (by decide)]
      refine ⟨C', Sub.refl _, F'', ?_, I'', by omega, h⟩
      rw [e3, List.filter_cons_of_neg (by rw [ew]; decide)]
      rw [List.filter_nil, List.append_nil]
  obtain ⟨F', rfl, I', fl', h⟩ := hI
  rw [List.length_map, List.take_length]
  refine alloc_st h fun fp C h => ?_
  skip
  refine ⟨ol, _, rfl, ho, ⟨_, h.get (.there (.there (.there (at_appS ht))))⟩, nm, kf, rfl, hk, .ptr fp, _, rfl, .inl (.inl (h.get .here)), kk.ok _, fun x hx => ?_, fun p2 hp2 => ?_⟩
  · obtain ⟨g, hg, rfl⟩ := List.mem_map.mp hx
    have hb := hP g ((List.mem_filter.mp hg).1)
    refine ⟨_, _, _, _, rfl, ?_⟩
    cases e : g.cal with
    | none => exact .inl rfl
    | some t => exact .inr ⟨t, rfl, by rw [sizeLine_eq]; have := hb.cal t e; omega⟩
  have h := h.new (c := .lst (((gs.filter (hitR gs es RS)).map pgD).mergeSort (KB.leK kf))) hp2
  rw [kk.sort] at h ⊢
  generalize up C p2 (.lst (((gs.filter (hitR gs es RS)).mergeSort le).map pgD)) = C at h ⊢
  have hl : ((gs.filter (hitR gs es RS)).mergeSort le).length ≤ 100000 := by
    rw [List.length_mergeSort]
    exact Nat.le_trans (List.length_filter_le _ _) gl
  have hd : foundF gs es RS le back most = limL most (if back then (((gs.filter (hitR gs es RS)).mergeSort le).map Pg.form).reverse else ((gs.filter (hitR gs es RS)).mergeSort le).map Pg.form) := rfl
  generalize (gs.filter (hitR gs es RS)).mergeSort le = zs at h hl hd ⊢
  skip
  refine ⟨_, .inl (h.get .here), ?_⟩
  refine lc_map zs (fun g => .str g.form) pgD rfl h (fun _ h => .inl (h.get .here)) (fun g C hg h Q' k' => ?_) (by rw [sizeLine_eq]; omega) fun r C h => ?_
  · try simp only [wipeD, List.foldr_cons, List.foldr_nil, List.set_cons_succ, List.set_cons_zero, dOp_p, dC_p, dVar_p, gNm_p, List.getElem?_cons_succ, List.getElem?_cons_zero, Option.some.injEq, exists_eq_left']
    refine ix_t (xs := [.str g.form, tlD g.cal, .tup (g.marks.map D.str), .tup (g.paths.map pD)]) (i := 0) rfl ?_
    exact k' C h
  have fin : ∀ (fp2 : Addr) (ys : Pt) C, ys.length ≤ 100000 → foundF gs es RS le back most = limL most ys → St S C0 C ((fp2, .lst (ys.map D.str), true) :: L) → ∀ x5 x6 x7 x9 x10, r_search_2 W ED [some (.ptr li), some (.tup (RS.map pD)), some (.str ol), some (.bl back), some (mostD most), x5, x6, x7, some (.ptr fp2), x9, x10] C := by
    intro fp2 ys C yl ey h x5 x6 x7 x9 x10
    unfold r_search_2
    cases most with
    | none =>
      unfold mostD
      try simp only [dSeq_p, dIf_p, dAsg_p, gNm_p, List.set_cons_succ, List.set_cons_zero, dSl_p, dPart_p, dVar_p, List.getElem?_cons_succ, List.getElem?_cons_zero, Option.some.injEq, exists_eq_left', dNoP_p, dNext_p, dTest_p, dOp_p, isNR_p, Bool.not_true, D.bl.injEq, dC_p, true_and, Bool.false_eq_true, if_false]
      unfold r_search_1
      try simp only [dRet_p, dCB_p, dCons_p, dNil_p, dVar_p, List.getElem?_cons_succ, List.getElem?_cons_zero, Option.some.injEq, exists_eq_left']
      refine tup_st h .here ?_
      rw [ey] at k
      exact k C h.tail
    | some m =>
      unfold mostD
      try simp only [dSeq_p, dIf_p, dAsg_p, gNm_p, List.set_cons_succ, List.set_cons_zero, dSl_p, dPart_p, dVar_p, List.getElem?_cons_succ, List.getElem?_cons_zero, Option.some.injEq, exists_eq_left', D.int.injEq, dNoP_p, dNext_p, dTest_p, dOp_p, isNR_p, Bool.not_true, D.bl.injEq, dC_p, true_and, if_true]
      refine sl_st h .here fun r C h => ?_
      unfold r_search_1
      try simp only [dRet_p, dCB_p, dCons_p, dNil_p, dVar_p, List.getElem?_cons_succ, List.getElem?_cons_zero, Option.some.injEq, exists_eq_left']
      rw [cut_take] at h
      refine tup_st h .here ?_
      rw [ey] at k
      have := k C h.tail.tail
      unfold pD limL at this
      rw [List.map_take] at this
      exact this
  have h := h.snd.snd.snd.snd
  have h : St S C0 C ((r, .lst (zs.map fun g => .str g.form), true) :: L) := by
    have h := h.perm (List.perm_middle (l₁ := famL clB F')).symm
    exact St.dropA h
  cases back with
  | true =>
    rw [if_pos rfl] at hd ⊢
    refine ⟨ty_st h .here, rev_st h .here fun C h => ?_⟩
    refine fin r (zs.map Pg.form).reverse C (by rw [List.length_reverse, List.length_map]; exact hl) hd ?_ _ _ _ _ _
    rw [List.map_reverse, List.map_map]
    exact h
  | false =>
    rw [if_neg (by decide)] at hd ⊢
    refine fin r (zs.map Pg.form) C (by rw [List.length_map]; exact hl) hd ?_ _ _ _ _ _
    rw [List.map_map]
    exact h
def ordO : D → Option (Pg → Pg → Bool)
  | .str l => if l = [97, 100, 100, 114, 101, 115, 115] then some lqA else if l = [116, 105, 116, 108, 101] then some lqT else if l = [109, 97, 114, 107, 115] then some lqM else none
  | _ => none
def strO : D → List Nat
  | .str l => l
  | _ => []
theorem swO_str {d : D} (h : swO d = true) : d = .str (strO d) ∧ swP (strO d) = true := by
  cases d with
  | str l => exact ⟨rfl, h⟩
  | _ => cases h
theorem ordO_none {l : List Nat} (h : ordO (.str l) = none) : (lookK tb_ORDERS l).isSome = false := by
  have hd : (if l = [97, 100, 100, 114, 101, 115, 115] then some lqA else if l = [116, 105, 116, 108, 101] then some lqT else if l = [109, 97, 114, 107, 115] then some lqM else none) = none := h
  by_cases a : l = [97, 100, 100, 114, 101, 115, 115]
  · rw [if_pos a] at hd; cases hd
  by_cases b : l = [116, 105, 116, 108, 101]
  · rw [if_neg a, if_pos b] at hd; cases hd
  by_cases c : l = [109, 97, 114, 107, 115]
  · rw [if_neg a, if_neg b, if_pos c] at hd; cases hd
  have a' : ¬ [97, 100, 100, 114, 101, 115, 115] = l := fun z => a z.symm
  have b' : ¬ [116, 105, 116, 108, 101] = l := fun z => b z.symm
  have c' : ¬ [109, 97, 114, 107, 115] = l := fun z => c z.symm
  unfold tb_ORDERS lookK
  simp [List.find?, a', b', c', a, b, c]
theorem ordO_some {l : List Nat} {le : Pg → Pg → Bool} (h : ordO (.str l) = some le) : ∃ nm kf, lookK tb_ORDERS l = some (.fn nm) ∧ lookKf [("address_key", keyA), ("title_key", keyT), ("marks_key", keyM)] nm = some kf ∧ KF kf le := by
  have hd : (if l = [97, 100, 100, 114, 101, 115, 115] then some lqA else if l = [116, 105, 116, 108, 101] then some lqT else if l = [109, 97, 114, 107, 115] then some lqM else none) = some le := h
  by_cases a : l = [97, 100, 100, 114, 101, 115, 115]
  · rw [if_pos a] at hd
    subst a
    obtain rfl := Option.some.inj hd
    exact ⟨"address_key", keyA, rfl, by kernel_rfl, .a⟩
  by_cases b : l = [116, 105, 116, 108, 101]
  · rw [if_neg a, if_pos b] at hd
    subst b
    obtain rfl := Option.some.inj hd
    exact ⟨"title_key", keyT, rfl, by kernel_rfl, .t⟩
  by_cases c : l = [109, 97, 114, 107, 115]
  · rw [if_neg a, if_neg b, if_pos c] at hd
    subst c
    obtain rfl := Option.some.inj hd
    exact ⟨"marks_key", keyM, rfl, by kernel_rfl, .m⟩
  rw [if_neg a, if_neg b, if_neg c] at hd
  cases hd
theorem search_ {RS : List (List D)} {o : D} {back : Bool} {most : Option Nat} (h : St S C0 C L) (a : At L li (Li fs gs es)) (ht : At L T0 (.tb "search" "search.<locals>.<lambda>")) (gl : gs.length ≤ 100000) (e1 : es.length ≤ 200) (hP : ∀ g ∈ gs, PgB g)
    (fl : gs.length * RS.flatten.length + RS.flatten.length ≤ 1000000) (hz : RS.length < sizeLine) (hb : ∀ row ∈ RS, ∀ w ∈ row, Th L w) (ho : ∃ p, ShL L o p) (hm : ∀ m, most = some m → m ≤ 100000)
    (kx : ∀ w rest C', badO RS = w :: rest → St S C0 C' L → E ("NoWord", [("word", w)]) C')
    (ky : ∀ C', badO RS = [] → ordO o = none → St S C0 C' L → E ("NoOrder", [("order", o)]) C')
    (k : ∀ RS' le C', badO RS = [] → RS = RS'.map (List.map D.str) → ordO o = some le → St S C0 C' L → Q (pD (foundF gs es RS' le back most)) C') : D_search [.ptr li, .tup (RS.map D.tup), o, .bl back, mostD most] C Q E := by
  unfold D_search runX r_search
  refine ⟨rfl, ?_⟩
  try simp only [List.map, List.length, Nat.reduceAdd, Nat.reduceSub, List.replicate, List.cons_append, List.nil_append, dSeq_p, dDrop_p, dIf_p, dRaise_p, dCons_p, Nat.reduceLeDiff, dNil_p, true_and, dVar_p, List.getElem?_cons_succ, List.getElem?_cons_zero, Option.some.injEq, exists_eq_left', dNext_p, dOr_p, if_true, dTest_p, dKIn_p, D.bl.injEq, dNot_p, dTru_p, dCB_p, dC_p, dCallX_p, List.append_nil]
  refine look h hb (fun e0 C h => ?_) fun w rest C e h => ⟨C, Sub.refl C, kx w rest C e h⟩
  obtain ⟨p, hp⟩ := ho
  have odd : kitB (nmP p) "str" = some false → ordO o = none → (∀ l, o ≠ .str l) → isiR [o, D.ty "str"] C fun d C1 =>
    ∃ k,
      truD C1 d k ∧
        if (!k) = true then
          ∃ C'', KB.Sub C'' C1 ∧ E (Str.ofString "NoOrder", ([Str.ofString "order"].zip [o]).reverse) C''
        else
          ∃ l,
            o = D.str l ∧
              if (!(lookK tb_ORDERS l).isSome) = true then
                ∃ C'', KB.Sub C'' C1 ∧ E (Str.ofString "NoOrder", ([Str.ofString "order"].zip [o]).reverse) C''
              else
                r_search_3 (fun x x_1 C' => ∃ C'', KB.Sub C'' C' ∧ E x C'')
                  { nx := fun x C' => ∃ C'', KB.Sub C'' C' ∧ Q D.non C'',
                    rt := fun d C' => ∃ C'', KB.Sub C'' C' ∧ Q d C'' }
                  [some (D.ptr li), some (D.tup (List.map D.tup RS)), some o, some (D.bl back), some (mostD most), none,
                    none, none, none, none, none]
                  C1 := by
    intro hk ho hn
    refine isi_sh h hp hk ⟨_, rfl, ?_⟩
    rw [if_pos (by rfl)]
    exact ⟨C, Sub.refl C, ky C e0 ho h⟩
  cases hp with
  | non => exact odd (by kernel_rfl) rfl nofun
  | bl b => exact odd (by kernel_rfl) rfl nofun
  | int b => exact odd (by kernel_rfl) rfl nofun
  | tup a => exact odd (by kernel_rfl) rfl nofun
  | lst a b => exact odd (by kernel_rfl) rfl nofun
  | dk a b => exact odd (by kernel_rfl) rfl nofun
  | str ol =>
    refine isS (b := true) (by kernel_rfl) ⟨_, rfl, ?_⟩
    rw [if_neg (by decide)]
    refine ⟨ol, rfl, ?_⟩
    cases eo : ordO (.str ol) with
    | none =>
      rw [ordO_none eo, if_pos (by rfl)]
      exact ⟨C, Sub.refl C, ky C e0 eo h⟩
    | some le =>
      obtain ⟨nm, kf, g1, g2, g3⟩ := ordO_some eo
      rw [if_neg (by rw [g1]; exact Bool.false_ne_true)]
      have hall : ∀ row ∈ RS, ∀ w ∈ row, swO w = true := fun row hr w hw => by
        cases ew : swO w with
        | true => rfl
        | false =>
          have : w ∈ badO RS := List.mem_filter.mpr ⟨List.mem_flatten.mpr ⟨row, hr, hw⟩, by rw [ew]; rfl⟩
          rw [e0] at this
          cases this
      have eRS : RS = (RS.map (List.map strO)).map (List.map D.str) := by
        rw [List.map_map]
        conv => lhs; rw [← List.map_id RS]
        refine List.map_congr_left fun row hr => ?_
        show row = (row.map strO).map D.str
        rw [List.map_map]
        conv => lhs; rw [← List.map_id row]
        exact List.map_congr_left fun w hw => (swO_str (hall row hr w hw)).1
      have ef : (RS.map (List.map strO)).flatten.length = RS.flatten.length := by
        rw [← List.map_flatten, List.length_map]
      have eD : RS.map D.tup = (RS.map (List.map strO)).map pD := by
        conv => lhs; rw [eRS]
        rw [List.map_map]
        rfl
      rw [eD]
      refine search3 h a ht gl e1 hP (by rw [ef]; exact fl) (by rw [List.length_map]; exact hz) (fun row hr w hw => ?_) g1 g2 g3 hm fun C h => ret_k (k _ le C e0 eRS eo h)
      obtain ⟨row0, hr0, rfl⟩ := List.mem_map.mp hr
      obtain ⟨d, hd, rfl⟩ := List.mem_map.mp hw
      obtain ⟨z1, z2⟩ := swO_str (hall row0 hr0 d hd)
      exact ⟨z2, (hb row0 hr0 d hd).st _ z1⟩
end K47
namespace K47
open PySem PySem.Spec PyProof.Rows KB
open L2 hiding op_eqD op_neD call_listD
variable {S : Addr → Prop} {C0 C : Cp} {L L1 L2 : List Ent} {p q : Addr} {s : PS} {Q : DQ} {E : Exn → Cp → Prop}
theorem flat_pD (p : Pt) : flatG (pD p) = true := flat_strs p
theorem depth_strs (p : Pt) : NestedKey.depthAll (nks (p.map D.str)) ≤ 1 := by
  induction p with
  | nil => simp [nks, NestedKey.depthAll]
  | cons a r ih => simp only [List.map_cons, nks, nk, NestedKey.depthAll, NestedKey.depth]; omega
def addK (acc : Pt) (f : List Nat) : Pt := if f ∈ acc then acc else acc ++ [f]
def kT (f : List Nat) : DKey × D := (.inr f, .bl true)
theorem put_kT (acc : Pt) (f : List Nat) : putA (acc.map kT) (.inr f) (.bl true) = (addK acc f).map kT := by
  have e : ((acc.map kT).any fun kv => decide (kv.1 = Sum.inr f)) = decide (f ∈ acc) := by
    rw [List.any_map, Bool.eq_iff_iff, List.any_eq_true, decide_eq_true_eq]
    constructor
    · rintro ⟨x, hx, h⟩
      simp only [kT, Function.comp, decide_eq_true_eq, Sum.inr.injEq] at h
      exact h ▸ hx
    · intro h
      exact ⟨f, h, by simp [kT]⟩
  unfold putA addK
  rw [e]
  by_cases h : f ∈ acc
  · rw [if_pos (by simpa using h), if_pos h, List.map_map]
    refine List.map_congr_left fun a ha => ?_
    by_cases q : a = f
    · subst q; simp [kT]
    · simp [kT, q]
  · rw [if_neg (by simpa using h), if_neg h, List.map_append]
    rfl
theorem addK_ok {acc : Pt} {f : List Nat} (nd : acc.Nodup) : (addK acc f).Nodup ∧ (∀ x, x ∈ addK acc f ↔ x ∈ acc ∨ x = f) ∧ (addK acc f).length ≤ acc.length + 1 := by
  unfold addK
  split
  · rename_i h
    exact ⟨nd, fun x => ⟨.inl, fun q => q.elim id fun q => q ▸ h⟩, Nat.le_succ _⟩
  · rename_i h
    refine ⟨?_, fun x => by simp, by simp⟩
    rw [List.nodup_append]
    exact ⟨nd, by simp, fun x hx y hy e' => h (by rw [← List.mem_singleton.mp hy, ← e']; exact hx)⟩
def Clo (es : List Ed) (xs : Pt) : Prop := ∀ e ∈ es, e.2 ∈ xs → e.1 ∈ xs
theorem clo_all {es : List Ed} {m : List Nat} {xs : Pt} (nd : xs.Nodup) (hr : ∀ x ∈ xs, Reach es x m) (hl : es.length + 1 ≤ xs.length) : Clo es xs := by
  intro e he h2
  by_cases h1 : e.1 ∈ xs
  · exact h1
  · exfalso
    have := reach_len (b := m) (es := es.map sw) (S := e.1 :: xs) (List.nodup_cons.mpr ⟨h1, nd⟩) (fun x hx => by
      rcases List.mem_cons.mp hx with rfl | hx
      · exact reach_sw.mp (reach_pre (y := e.2) he (hr _ h2))
      · exact reach_sw.mp (hr x hx))
    rw [List.length_map, List.length_cons] at this
    omega
theorem reach_clo {es : List Ed} {m x : List Nat} {xs : Pt} (hm : m ∈ xs) (hc : Clo es xs) (h : Reach es x m) : x ∈ xs := by
  have h2 := reach_sw.mp h
  clear h
  induction h2 with
  | base => exact hm
  | step _ h2 ih => exact hc (_, _) (mem_sw.mp h2) ih
theorem inside_of {m : List Nat} {es : List Ed} (h : St S C0 C L) (el : es.length ≤ 30) (k : ∀ (xs : Pt) r C', (∀ x, x ∈ xs ↔ Reach es x m) → xs.length ≤ 31 → St S C0 C' ((r, .lst (xs.map D.str), true) :: L) → Q (.ptr r) C') : D__law_inside [.tup (es.map edD), .str m] C Q E := by
  unfold D__law_inside runD r__law_inside
  try simp only [List.length, Nat.reduceAdd, List.map, Nat.reduceSub, List.replicate, List.cons_append, List.nil_append, dSeq_p, dAsg_p, gNm_p, List.set_cons_succ, List.set_cons_zero, dFor_e_p, dOverT_p, dVar_p, List.getElem?_cons_zero, Option.some.injEq, exists_eq_left', dLst_e_p, dCons_p, Nat.reduceLeDiff, dNil_p, true_and, List.getElem?_cons_succ]
  refine alloc_st h fun r C h => ?_
  skip
  have xl : ∀ {xs : Pt}, xs.Nodup → (∀ x ∈ xs, Reach es x m) → xs.length ≤ es.length + 1 := fun nd hr => by
    have := reach_len (b := m) (es := es.map sw) nd fun x hx => reach_sw.mp (hr x hx)
    rwa [List.length_map] at this
  refine for_st (fun j sl C => ∃ (x3 x4 x5 : Option D) (xs : Pt), sl = [some (.tup (es.map edD)), some (.str m), some (.ptr r), x3, x4, x5] ∧ xs.Nodup ∧ m ∈ xs ∧ (∀ x ∈ xs, Reach es x m) ∧ (Clo es xs ∨ j + 1 ≤ xs.length) ∧ St S C0 C ((r, .lst (xs.map D.str), true) :: L))
    ⟨none, none, none, [m], rfl, by simp, List.mem_cons_self, fun x hx => by rw [List.mem_singleton.mp hx]; exact .base, .inr (Nat.le_refl _), h⟩ (fun _ _ _ _ => trivial) (fun j x sl C hj hx hJ => ?_) fun sl C hJ => ?_
  · obtain ⟨x3, x4, x5, xs, rfl, nd, hm, hr, hc, h⟩ := hJ
    unfold l__law_inside_2
    try simp only [dFor_e_p, dOverT_p, dVar_p, gNm_p, List.set_cons_succ, List.set_cons_zero, List.getElem?_cons_zero, Option.some.injEq, exists_eq_left']
    refine for_st (fun i sl C => ∃ (x4 x5 : Option D) (ys : Pt), sl = [some (.tup (es.map edD)), some (.str m), some (.ptr r), some x, x4, x5] ∧ ys.Nodup ∧ m ∈ ys ∧ (∀ y ∈ ys, Reach es y m) ∧ ((ys = xs ∧ Clo (es.take i) xs) ∨ (¬ Clo es xs ∧ xs.length + 1 ≤ ys.length)) ∧ St S C0 C ((r, .lst (ys.map D.str), true) :: L))
      ⟨_, _, xs, rfl, nd, hm, hr, .inl ⟨rfl, by intro e he; rw [List.take_zero] at he; cases he⟩, h⟩ (fun _ _ _ _ => trivial) (fun i x sl C hi hx hJ => ?_) fun sl C hJ => ?_
    · obtain ⟨x4, x5, ys, rfl, nd, hm, hr, hd, h⟩ := hJ
      rw [List.length_map] at hi
      rw [List.getElem?_map, List.getElem?_eq_getElem hi] at hx
      cases hx
      have te : es.take (i + 1) = es.take i ++ [es[i]] := by rw [List.take_add_one, List.getElem?_eq_getElem hi]; rfl
      have hmem : es[i] ∈ es := List.getElem_mem hi
      generalize es[i] = e at te hmem
      unfold edD
      unfold l__law_inside_1
      try simp only [dIf_p, dDrop_p, dBM_p, dCons_p, dNil_p, dVar_p, dNext_p, dAnd_p, dTest_p, dOp_p, Bool.false_eq_true, if_false, gTp_p, D.tup.injEq, gCn_p, gNl_p, gNm_p, List.set_cons_succ, List.set_cons_zero, List.getElem?_cons_succ, List.getElem?_cons_zero, Option.some.injEq, List.cons.injEq, and_true, true_and, exists_eq_left', List.length, Nat.reduceAdd, ex2]
      have same : (e.2 ∈ ys → e.1 ∈ ys) → ∃ C'', KB.Sub C'' C ∧ ∃ (x4 x5 : Option D) (zs : Pt), (some (D.str e.1) = x4 ∧ some (D.str e.2) = x5) ∧ zs.Nodup ∧ m ∈ zs ∧ (∀ y ∈ zs, Reach es y m) ∧ ((zs = xs ∧ Clo (es.take (i + 1)) xs) ∨ (¬ Clo es xs ∧ xs.length + 1 ≤ zs.length)) ∧ St S C0 C'' ((r, .lst (zs.map D.str), true) :: L) := fun hq => by
        refine ⟨C, Sub.refl _, _, _, ys, ⟨rfl, rfl⟩, nd, hm, hr, ?_, h⟩
        rcases hd with ⟨e1, e2⟩ | e1
        · subst e1
          refine .inl ⟨rfl, fun f hf h2 => ?_⟩
          rw [te] at hf
          rcases List.mem_append.mp hf with hf | hf
          · exact e2 f hf h2
          · rw [List.mem_singleton.mp hf] at h2 ⊢; exact hq h2
        · exact .inr e1
      refine inL_st h .here rfl (npts_strs _) ?_
      rw [memD_strs]
      try simp only [Bool.false_eq_true, if_false, D.bl.injEq, exists_eq_left', decide_eq_true_eq]
      by_cases c2 : e.2 ∈ ys
      · rw [if_pos (by simpa using c2)]
        refine inL_st h .here rfl (npts_strs _) ?_
        rw [memD_strs]
        try simp only [if_true, D.bl.injEq, exists_eq_left']
        by_cases c1 : e.1 ∈ ys
        · rw [if_neg (by simpa using c1)]
          exact same fun _ => c1
        · rw [if_pos (by simpa using c1)]
          refine ⟨ty_st h .here, ?_⟩
          have re : Reach es e.1 m := reach_pre (y := e.2) hmem (hr _ c2)
          have nd2 : (ys ++ [e.1]).Nodup := by
            rw [List.nodup_append]
            exact ⟨nd, by simp, fun x hx y hy e' => c1 (by rw [← List.mem_singleton.mp hy, ← e']; exact hx)⟩
          have hr2 : ∀ y ∈ ys ++ [e.1], Reach es y m := fun y hy => by
            rcases List.mem_append.mp hy with hy | hy
            · exact hr y hy
            · rw [List.mem_singleton.mp hy]; exact re
          have ll := xl nd hr
          refine app_st (xs := ys.map D.str) h (by rw [sizeLine_eq, List.length_map]; omega) .here fun C h => ?_
          refine ⟨C, Sub.refl _, _, _, ys ++ [e.1], ⟨rfl, rfl⟩, nd2, List.mem_append_left _ hm, hr2, .inr ?_, by rw [List.map_append]; exact h⟩
          rw [List.length_append, List.length_singleton]
          rcases hd with ⟨e1, e2⟩ | ⟨e1, e2⟩
          · subst e1
            exact ⟨fun z => c1 (z e hmem c2), Nat.le_refl _⟩
          · exact ⟨e1, by omega⟩
      · rw [if_neg (by simpa using c2)]
        exact same fun z => absurd z c2
    · obtain ⟨x4, x5, ys, rfl, nd, hm, hr, hd, h⟩ := hJ
      rw [List.length_map, List.take_of_length_le (Nat.le_refl _)] at hd
      refine ⟨C, Sub.refl _, _, _, _, ys, rfl, nd, hm, hr, ?_, h⟩
      rcases hd with ⟨e1, e2⟩ | ⟨e1, e2⟩
      · subst e1; exact .inl e2
      · rcases hc with hc | hc
        · exact absurd hc e1
        · exact .inr (by omega)
  · obtain ⟨x3, x4, x5, xs, rfl, nd, hm, hr, hc, h⟩ := hJ
    rw [List.length_map] at hc
    unfold r__law_inside_1
    try simp only [dRet_p, dVar_p, List.getElem?_cons_succ, List.getElem?_cons_zero, Option.some.injEq, exists_eq_left']
    have hc : Clo es xs := hc.elim id fun hc => clo_all nd hr hc
    have := xl nd hr
    exact ret_k (k xs r C (fun x => ⟨hr x, reach_clo hm hc⟩) (by omega) h)
theorem srt_ups {ms : Pt} {t : List D} (nd : ms.Nodup) (e : t = (ms.map D.str).mergeSort leP) : ∃ ts : Pt, t = ts.map D.str ∧ Up D.str ts ∧ ∀ x, x ∈ ts ↔ x ∈ ms := by
  have := up_srt (f := D.str) (P := (· ∈ ms)) (t := t) ⟨ms, nd, fun _ => Iff.rfl, e⟩
  exact this
/-- at most n signs of words -/
def AL (n : Nat) (l : List Nat) : Prop := l.length ≤ n ∧ ∀ c ∈ l, c ∈ ALPHA
theorem AL.app {n m : Nat} {a b : List Nat} (h : AL n a) (g : AL m b) : AL (n + m) (a ++ b) := ⟨by rw [List.length_append]; have := h.1; have := g.1; omega, fun c hc => (List.mem_append.mp hc).elim (h.2 c) (g.2 c)⟩
theorem AL.mono {n m : Nat} {a : List Nat} (h : AL n a) (g : n ≤ m) : AL m a := ⟨Nat.le_trans h.1 g, h.2⟩
theorem one_al {c : Nat} (h : c ∈ ALPHA) : AL 1 [c] := ⟨Nat.le_refl _, fun d hd => by rw [List.mem_singleton.mp hd]; exact h⟩
theorem AL.take {n j : Nat} {l : List Nat} (h : AL n l) : AL n (l.take j) := ⟨by rw [List.length_take]; have := h.1; omega, fun c hc => h.2 c (List.mem_of_mem_take hc)⟩
theorem AL.drop {n j : Nat} {l : List Nat} (h : AL n l) : AL n (l.drop j) := ⟨by rw [List.length_drop]; have := h.1; omega, fun c hc => h.2 c (List.mem_of_mem_drop hc)⟩
/-- a word -/
structure Wk (l : List Nat) : Prop where
  lo : 1 ≤ l.length
  hi : l.length ≤ 12
  al : ∀ c ∈ l, c ∈ ALPHA
theorem Wk.tn {l : List Nat} (h : Wk l) : Tn 12 l := ⟨h.hi, sg_sub alpha_sg h.al⟩
theorem Wk.isW {l : List Nat} (h : Wk l) : K47.isW l = true := by
  unfold K47.isW
  rw [decide_eq_true ⟨h.lo, h.hi⟩, Bool.true_and, List.all_eq_true]
  exact fun c hc => decide_eq_true (h.al c hc)
theorem Wk.no {l : List Nat} {c : Nat} (h : Wk l) (hc : c ∉ ALPHA) : c ∉ l := fun m => hc (h.al c m)
theorem wk_of {l : List Nat} {cc j : Nat} (h : AL 11 l) (hc : cc ∈ ALPHA) : Wk (l.take j ++ [cc] ++ l.drop j) := by
  have e : (l.take j).length + (l.drop j).length = l.length := by rw [← List.length_append, List.take_append_drop]
  refine ⟨by rw [List.length_append, List.length_append, List.length_singleton]; omega, by rw [List.length_append, List.length_append, List.length_singleton]; have := h.1; omega, fun c m => ?_⟩
  rcases List.mem_append.mp m with m | m
  · rcases List.mem_append.mp m with m | m
    · exact h.2 c (List.mem_of_mem_take m)
    · rw [List.mem_singleton.mp m]; exact hc
  · exact h.2 c (List.mem_of_mem_drop m)
theorem wordsK {n : Nat} (n37 : n ≤ 37) (h : St S C0 C L) (d : Del L p s.c true L1) (k : ∀ (ys : List (List Nat)) r (s' : PS) C', ys.length = n → (∀ y ∈ ys, Wk y) → St S C0 C' ((r, .lst (ys.map D.str), true) :: (p, s'.c, true) :: L1) → Q (.ptr r) C') : D__law_words [.ptr p, .int (n : Int)] C Q E := by
  have h := h.front d
  unfold D__law_words runD r__law_words
  try simp only [List.length, Nat.reduceAdd, List.map, Nat.reduceSub, List.replicate, List.cons_append, List.nil_append, dSeq_p, dAsg_p, gTp_p, gCn_p, gNl_p, dFor_e_p, dRng1_p, Int.reducePow, Int.reduceNeg, dCons_p, List.cons.injEq, dNil_p, and_true, dCall_p, List.append_nil, dC_p, dVar_p, gNm_p, List.set_cons_succ, List.set_cons_zero, List.getElem?_cons_zero, Option.some.injEq, exists_eq_left', dTup_p, D.tup.injEq, Nat.reduceLeDiff, ex2, true_and]
  refine take h (by (repeat (first | exact KB.Del.here | assumption | apply KB.Del.there))) (by decide) (by decide) fun t s1 C ht h => ?_
  try simp only [D.int.injEq, Int.reduceNeg, exists_eq_left', Int.toNat_natCast]
  refine ⟨by omega, by omega, ?_⟩
  refine forR_st t (fun i sl C => ∃ (x2 : Option D) (l : List Nat) (s' : PS), sl = [some (.ptr p), some (.int (n : Int)), x2, some (.str ALPHA), some (.str l), none, none, none] ∧ AL i l ∧ St S C0 C ((p, s'.c, true) :: L1)) ⟨none, [], s1, rfl, ⟨Nat.le_refl _, (fun c hc => nomatch hc)⟩, h⟩ (fun _ => trivial) (fun i sl C hi hI => ?_) fun sl C hI => ?_
  · obtain ⟨x2, l, s', rfl, hl, h⟩ := hI
    unfold l__law_words_1
    try simp only [dAsg_p, gNm_p, dOp_p, dCall_p, List.append_nil, dCons_p, dNil_p, dC_p, dVar_p, List.set_cons_succ, List.set_cons_zero, List.getElem?_cons_succ, List.getElem?_cons_zero, Option.some.injEq, List.cons.injEq, and_true, true_and, exists_eq_left']
    refine take h (by (repeat (first | exact KB.Del.here | assumption | apply KB.Del.there))) (by decide) (by decide) fun t2 s2 C ht2 h => ?_
    have hj : t2 < ALPHA.length := by show t2 < 37; omega
    refine ix_s (by decide) (atI_nat (List.getElem?_eq_getElem hj)) ?_
    have hc : ALPHA[t2] ∈ ALPHA := List.getElem_mem hj
    generalize ALPHA[t2] = cc at hc
    try simp only [addD_ss_p, List.length, Nat.reduceAdd, D.str.injEq]
    refine ⟨by rw [sizeLine_eq]; have := hl.1; omega, ?_⟩
    exact ⟨C, Sub.refl C, _, l ++ [cc], s2, ⟨rfl, rfl⟩, hl.app (one_al hc), h⟩
  · obtain ⟨x2, l, s', rfl, hl, h⟩ := hI
    have hl : AL 11 l := hl.mono (by omega)
    have hz := hl.1
    unfold r__law_words_1
    try simp only [dSeq_p, dAsg_p, gTp_p, gCn_p, gNl_p, dRet_p, dLc_e_p, dRng1_p, Int.reducePow, Int.reduceNeg, dCons_p, List.cons.injEq, dNil_p, and_true, dVar_p, gNm_p, List.set_cons_succ, List.set_cons_zero, List.getElem?_cons_succ, List.getElem?_cons_zero, Option.some.injEq, exists_eq_left', D.int.injEq, Int.toNat_natCast, dTup_p, D.tup.injEq, List.length, Nat.reduceLeDiff, ex2, Nat.reduceAdd, true_and, dOp_p, dCall_p, List.append_nil, dC_p, dCB_p, lenR_s, addD_ii_p]
    refine ⟨by rw [sizeLine_eq]; omega, ?_⟩
    refine take h (by (repeat (first | exact KB.Del.here | assumption | apply KB.Del.there))) (by omega) (by omega) fun t1 s1 C ht1 h => ?_
    refine take h (by (repeat (first | exact KB.Del.here | assumption | apply KB.Del.there))) (by decide) (by decide) fun t2 s2 C ht2 h => ?_
    refine take h (by (repeat (first | exact KB.Del.here | assumption | apply KB.Del.there))) (by decide) (by decide) fun t3 s3 C ht3 h => ?_
    try simp only [Int.reduceNeg, addD_ii_p]
    refine ⟨by omega, by omega, ?_⟩
    try rw [Int.toNat_natCast]
    refine lc_pot (m := n) (P := Wk) (f := D.str) (fun _ => trivial) h (by omega) (fun i s' C hi h Q' k' => ?_) fun ys q s3 C hl hP h => ?_
    · try simp only [wipeD, List.foldr_cons, List.foldr_nil, List.set_cons_succ, List.set_cons_zero, dOp_p, dSl_p, dNoP_p, dPart_p, dVar_p, dC_p, gNm_p, List.getElem?_cons_succ, List.getElem?_cons_zero, Option.some.injEq, exists_eq_left', D.int.injEq, slD_s_p, mulD_ii_p, addD_ii_p, modD_ii_p]
      refine ⟨by rw [sizeLine_eq]; omega, CMulW_small (by omega), by decide, ?_⟩
      have e0 := Int.emod_nonneg ((t2 : Int) + (1 + (t3 : Int)) * (i : Int)) (b := 37) (by decide)
      have e1 := Int.emod_lt_of_pos ((t2 : Int) + (1 + (t3 : Int)) * (i : Int)) (b := 37) (by decide)
      generalize hx : ((t2 : Int) + (1 + (t3 : Int)) * (i : Int)) % 37 = x at e0 e1
      obtain ⟨j, rfl⟩ : ∃ j : Nat, x = j := ⟨x.toNat, by omega⟩
      have hj : j < ALPHA.length := by show j < 37; omega
      refine ix_s (by decide) (atI_nat (List.getElem?_eq_getElem hj)) ?_
      have hc : ALPHA[j] ∈ ALPHA := List.getElem_mem hj
      generalize ALPHA[j] = cc at hc
      rw [cut_to]
      try simp only [addD_ss_p, List.length, Nat.reduceAdd]
      have z1 := (hl.take (j := t1)).1
      have z2 := (hl.drop (j := t1)).1
      refine ⟨by rw [sizeLine_eq]; omega, by rw [sizeLine_eq]; omega, ?_⟩
      rw [cut_drop]
      refine ⟨by rw [sizeLine_eq, List.length_append]; simp only [List.length_cons, List.length_nil]; omega, ?_⟩
      exact k' _ s' C (wk_of hl hc) h
    · exact ret_k (k ys q s3 C hl hP h)
theorem Wk.len {l : List Nat} (h : Wk l) : l.length ≤ 30 := Nat.le_trans h.hi (by decide)
theorem Wk.sa {l : List Nat} (h : Wk l) : Sa l := h.tn.2
/-- some sign is no blank -/
def NB (l : List Nat) : Prop := ∃ c ∈ l, c ≠ 32
theorem Wk.nb {l : List Nat} (h : Wk l) : NB l := by
  cases l with
  | nil => have := h.lo; simp at this
  | cons c r => exact ⟨c, List.mem_cons_self, fun e => absurd (h.al c List.mem_cons_self) (by rw [e]; decide)⟩
theorem join_nb {a u : List Nat} {r : Pt} (h : NB u) : NB (joinD a (u :: r)) := by
  obtain ⟨c, hc, n⟩ := h
  cases r with
  | nil => exact ⟨c, by simpa [joinD, TL.joinL] using hc, n⟩
  | cons z r =>
    have e : joinD a (u :: z :: r) = u ++ a ++ joinD a (z :: r) := by simp [joinD, TL.joinL]
    exact ⟨c, by rw [e]; exact List.mem_append_left _ (List.mem_append_left _ hc), n⟩
theorem upper_cons {c : Nat} {r : List Nat} (hc : c < 128) : upperL (c :: r) = (if 97 ≤ c ∧ c ≤ 122 then c - 32 else c) :: upperL r := by
  unfold upperL
  have : (⟨(c :: r).toArray⟩ : Str) = ⟨#[c]⟩ ++ ⟨r.toArray⟩ := by
    show (⟨(c :: r).toArray⟩ : Str) = ⟨#[c] ++ r.toArray⟩
    simp
  rw [this, PySem.W.KOpn.upper_app, PySem.W.KOpn.upper_one hc]
  show (#[_] ++ (Txt.upper ⟨r.toArray⟩).cps).toList = _
  rw [Array.toList_append]
  rfl
theorem upper_nb {l : List Nat} (h : Wk l) : NB (upperL l) := by
  cases l with
  | nil => have := h.lo; simp at this
  | cons c r =>
    have hc := h.al c List.mem_cons_self
    rw [upper_cons (h.sa c List.mem_cons_self)]
    refine ⟨_, List.mem_cons_self, ?_⟩
    revert hc
    have : ∀ c ∈ ALPHA, (if 97 ≤ c ∧ c ≤ 122 then c - 32 else c) ≠ 32 := by decide
    exact this c
end K47
namespace K47
open PySem PySem.Spec PyProof.Rows KB
open L2 hiding op_eqD op_neD call_listD
variable {S : Addr → Prop} {C0 C : Cp} {L L1 : List Ent} {p q : Addr} {s : PS} {Q : DQ} {E : Exn → Cp → Prop}
theorem upper_sa : ∀ l : List Nat, Sa l → (upperL l).length = l.length
  | [], _ => rfl
  | c :: r, h => by
    have i1 := upper_sa r fun x hx => h x (List.mem_cons_of_mem _ hx)
    have hc := h c List.mem_cons_self
    have e : upperL (c :: r) = (if 97 ≤ c ∧ c ≤ 122 then c - 32 else c) :: upperL r := by
      unfold upperL
      have : (⟨(c :: r).toArray⟩ : Str) = ⟨#[c]⟩ ++ ⟨r.toArray⟩ := by
        show (⟨(c :: r).toArray⟩ : Str) = ⟨#[c] ++ r.toArray⟩
        simp
      rw [this, PySem.W.KOpn.upper_app, PySem.W.KOpn.upper_one hc]
      show (#[_] ++ (Txt.upper ⟨r.toArray⟩).cps).toList = _
      rw [Array.toList_append]
      rfl
    rw [e, List.length_cons, List.length_cons, i1]
theorem nk_pD (a b : Pt) (h : nk (pD a) = nk (pD b)) : a = b := pD_inj a b (nk_inj _ _ (flat_pD a) (flat_pD b) h)
theorem keyG_pD (p : Pt) : keyG (pD p) := by
  refine ⟨⟨_, rfl⟩, ?_, flat_pD p⟩
  have := depth_strs p
  simp only [pD, nk, NestedKey.depth]
  omega
/-- up to n of a row, rising -/
structure SomeOk {α : Type} (f : α → D) (row : List α) (n : Nat) (xs : List α) : Prop where
  up : Up f xs
  sub : ∀ x ∈ xs, x ∈ row
  len : xs.length ≤ n
theorem row_ne {α : Type} {f : α → D} {row : List α} {G : DQ} (h : St S C0 C L) (a : At L q (.lst (row.map f))) (o : okEqs (row.map f)) (ne : row ≠ []) (k : ∀ C', St S C0 C' L → G (.bl true) C') : alloc (.lst []) C fun y C2 => eqR true (.ptr q) y C2 G := by
  refine alloc_st h fun z C h => ?_
  refine eqL_st h (.there a) .here o (by rfl) ?_
  have : eqDs (row.map f) [] = false := by
    cases row with
    | nil => exact absurd rfl ne
    | cons x r => rfl
  rw [this]
  exact k C h.tail
theorem law_someS {row : Pt} {n : Nat} (h : St S C0 C L) (d : Del L p s.c true L1) (a : At L1 q (.lst (row.map D.str))) (ne : row ≠ []) (rl : row.length ≤ 100) (n1 : n ≤ 40) (k : ∀ (xs : Pt) (s' : PS) C', SomeOk D.str row n xs → St S C0 C' ((p, s'.c, true) :: L1) → Q (.tup (xs.map D.str)) C') : D__law_some [.ptr p, .ptr q, .int (n : Int)] C Q E := by
  have h := h.front d
  unfold D__law_some runD r__law_some
  try simp only [List.length, Nat.reduceAdd, List.map, Nat.reduceSub, List.replicate, List.cons_append, List.nil_append, dSeq_p, dAsg_p, gNm_p, List.set_cons_succ, List.set_cons_zero, dFor_e_p, dRng1_p, Int.reducePow, Int.reduceNeg, dCons_p, List.cons.injEq, dNil_p, and_true, dCall_p, List.append_nil, dOp_p, dC_p, dVar_p, List.getElem?_cons_succ, List.getElem?_cons_zero, Option.some.injEq, exists_eq_left', addD_ii_p, dAlt_p, dEmp_e_p, dEmpG_e_p, true_and]
  refine .inl ?_
  refine alloc_st h fun f C h => ?_
  skip
  refine take h (by (repeat (first | exact KB.Del.here | assumption | apply KB.Del.there))) (by omega) (by omega) fun t s1 C ht h => ?_
  try simp only [D.int.injEq, Int.reduceNeg, exists_eq_left', Int.toNat_natCast]
  refine ⟨by omega, by omega, ?_⟩
  have rpos := List.length_pos_iff.mpr ne
  refine forR_st t (fun i sl C => ∃ (x4 : Option D) (s' : PS) (ks : Pt), sl = [some (.ptr p), some (.ptr q), some (.int n), some (.ptr f), x4] ∧ ks.Nodup ∧ (∀ x ∈ ks, x ∈ row) ∧ ks.length ≤ i ∧ St S C0 C ((p, s'.c, true) :: (f, .dk (ks.map kT), true) :: L1)) ⟨none, s1, [], rfl, List.nodup_nil, (fun x hx => by cases hx), Nat.le_refl _, h⟩ (fun _ => trivial) (fun i sl C hi hI => ?_) fun sl C hI => ?_
  · clear h
    obtain ⟨x4, s', ks, rfl, nd, hs, kl, h⟩ := hI
    unfold l__law_some_1
    try simp only [dIf_p, dSetI_p, dOp_p, dCall_p, List.append_nil, dCons_p, dNil_p, dCB_p, dVar_p, dC_p, dNext_p, dTest_p, dLst_e_p, List.length, Nat.reduceLeDiff, true_and, gNm_p, List.set_cons_succ, List.set_cons_zero, List.getElem?_cons_succ, List.getElem?_cons_zero, Option.some.injEq, List.cons.injEq, and_true, exists_eq_left']
    refine row_ne h (.there (.there a)) (npts_strs _) ne fun C h => ?_
    try simp only [D.bl.injEq, exists_eq_left', if_true]
    refine len_st h (.there (.there a)) ?_
    rw [List.length_map]
    refine take h (by (repeat (first | exact KB.Del.here | assumption | apply KB.Del.there))) (by omega) (by omega) fun u s2 C hu h => ?_
    refine ix_st h (.there (.there a)) (at_map (f := D.str) (as := row) (j := u) (by omega)) ?_
    have hm : row[u]'(by omega) ∈ row := List.getElem_mem _
    generalize row[u]'(by omega) = x at hm
    have h := h.front (p := f) (.there .here)
    refine put_k (h.get .here) (.inr x) (by rw [List.length_map, sizeLine_eq]; omega) ?_
    rw [put_kT]
    obtain ⟨a1, a2, a3⟩ := addK_ok (f := x) nd
    refine ⟨_, Sub.refl _, _, s2, addK ks x, rfl, a1, fun y hy => ?_, by omega, (h.put .here).front (p := p) (.there .here)⟩
    rcases (a2 y).mp hy with hy | hy
    · exact hs y hy
    · rw [hy]; exact hm
  · clear h
    obtain ⟨x4, s', ks, rfl, nd, hs, kl, h⟩ := hI
    unfold r__law_some_1
    try simp only [dRet_p, dCB_p, dCons_p, dNil_p, dVar_p, List.getElem?_cons_succ, List.getElem?_cons_zero, Option.some.injEq, exists_eq_left']
    refine sorted_l (xs := ks.map D.str) (.inr (.inl ⟨_, h.get (.there .here), by rw [List.map_map]; rfl⟩)) (sortOk_strs ks) fun u hu => ?_
    have h := h.new (c := .lst ((ks.map D.str).mergeSort leP)) hu
    obtain ⟨ts, et, ut, ht⟩ := srt_ups nd rfl
    rw [et] at h ⊢
    have tl : ts.length = ks.length := by
      have := congrArg List.length et
      rw [List.length_mergeSort, List.length_map, List.length_map] at this
      exact this.symm
    refine tup_st h .here ?_
    exact ret_k (k ts s' _ ⟨ut, fun x hx => hs x ((ht x).mp hx), by omega⟩ (h.tail.snd))
theorem law_someP {row : List Pt} {n : Nat} (h : St S C0 C L) (d : Del L p s.c true L1) (a : At L1 q (.lst (row.map pD))) (ne : row ≠ []) (rl : row.length ≤ 100) (n1 : n ≤ 40) (k : ∀ (xs : List Pt) (s' : PS) C', SomeOk pD row n xs → St S C0 C' ((p, s'.c, true) :: L1) → Q (.tup (xs.map pD)) C') : D__law_some [.ptr p, .ptr q, .int (n : Int)] C Q E := by
  have h := h.front d
  unfold D__law_some runD r__law_some
  try simp only [List.length, Nat.reduceAdd, List.map, Nat.reduceSub, List.replicate, List.cons_append, List.nil_append, dSeq_p, dAsg_p, gNm_p, List.set_cons_succ, List.set_cons_zero, dFor_e_p, dRng1_p, Int.reducePow, Int.reduceNeg, dCons_p, List.cons.injEq, dNil_p, and_true, dCall_p, List.append_nil, dOp_p, dC_p, dVar_p, List.getElem?_cons_succ, List.getElem?_cons_zero, Option.some.injEq, exists_eq_left', addD_ii_p, dAlt_p, dEmp_e_p, dEmpG_e_p, true_and]
  refine .inr ?_
  refine alloc_st h fun f C h => ?_
  skip
  refine take h (by (repeat (first | exact KB.Del.here | assumption | apply KB.Del.there))) (by omega) (by omega) fun t s1 C ht h => ?_
  try simp only [D.int.injEq, Int.reduceNeg, exists_eq_left', Int.toNat_natCast]
  refine ⟨by omega, by omega, ?_⟩
  have rpos := List.length_pos_iff.mpr ne
  refine forR_st t (fun i sl C => ∃ (x4 : Option D) (s' : PS) (ks : List Pt), sl = [some (.ptr p), some (.ptr q), some (.int n), some (.ptr f), x4] ∧ ks.Nodup ∧ (∀ x ∈ ks, x ∈ row) ∧ ks.length ≤ i ∧ St S C0 C ((p, s'.c, true) :: (f, .dg (setG pD ks), true) :: L1)) ⟨none, s1, [], rfl, List.nodup_nil, (fun x hx => by cases hx), Nat.le_refl _, h⟩ (fun _ => trivial) (fun i sl C hi hI => ?_) fun sl C hI => ?_
  · clear h
    obtain ⟨x4, s', ks, rfl, nd, hs, kl, h⟩ := hI
    unfold l__law_some_1
    try simp only [dIf_p, dSetI_p, dOp_p, dCall_p, List.append_nil, dCons_p, dNil_p, dCB_p, dVar_p, dC_p, dNext_p, dTest_p, dLst_e_p, List.length, Nat.reduceLeDiff, true_and, gNm_p, List.set_cons_succ, List.set_cons_zero, List.getElem?_cons_succ, List.getElem?_cons_zero, Option.some.injEq, List.cons.injEq, and_true, exists_eq_left']
    refine row_ne h (.there (.there a)) (okEqs_pDs _) ne fun C h => ?_
    try simp only [D.bl.injEq, exists_eq_left', if_true]
    refine len_st h (.there (.there a)) ?_
    rw [List.length_map]
    refine take h (by (repeat (first | exact KB.Del.here | assumption | apply KB.Del.there))) (by omega) (by omega) fun u s2 C hu h => ?_
    refine ix_st h (.there (.there a)) (at_map (f := pD) (as := row) (j := u) (by omega)) ?_
    have hm : row[u]'(by omega) ∈ row := List.getElem_mem _
    generalize row[u]'(by omega) = x at hm
    refine putG_st (f := pD) nk_pD (y := x) (keyG_pD _) h (.there .here) (by rw [sizeLine_eq]; omega) fun ks2 C ek h => ?_
    refine ⟨C, Sub.refl _, _, s2, ks2, rfl, ?_, fun y hy => ?_, ?_, h.front (p := p) (.there .here)⟩
    · rw [ek]
      split
      · exact nd
      · rename_i hn
        rw [List.nodup_append]
        exact ⟨nd, by simp, fun x hx y hy e' => hn (by rw [← List.mem_singleton.mp hy, ← e']; exact hx)⟩
    · rw [ek] at hy
      split at hy
      · exact hs y hy
      · rcases List.mem_append.mp hy with hy | hy
        · exact hs y hy
        · rw [List.mem_singleton.mp hy]; exact hm
    · rw [ek]
      split
      · omega
      · rw [List.length_append, List.length_singleton]; omega
  · clear h
    obtain ⟨x4, s', ks, rfl, nd, hs, kl, h⟩ := hI
    unfold r__law_some_1
    try simp only [dRet_p, dCB_p, dCons_p, dNil_p, dVar_p, List.getElem?_cons_succ, List.getElem?_cons_zero, Option.some.injEq, exists_eq_left']
    refine sorted_l (xs := ks.map pD) (.inr (.inr ⟨_, h.get (.there .here), by unfold setG; rw [List.map_map]; rfl⟩)) (sortOk_pDs ks) fun u hu => ?_
    have h := h.new (c := .lst ((ks.map pD).mergeSort leP)) hu
    obtain ⟨ts, et, ut, ht⟩ := up_srt (f := pD) (P := (· ∈ ks)) (t := (ks.map pD).mergeSort leP) ⟨ks, nd, fun _ => Iff.rfl, rfl⟩
    rw [et] at h ⊢
    have tl : ts.length = ks.length := by
      have := congrArg List.length et
      rw [List.length_mergeSort, List.length_map, List.length_map] at this
      exact this.symm
    refine tup_st h .here ?_
    exact ret_k (k ts s' _ ⟨ut, fun x hx => hs x ((ht x).mp hx), by omega⟩ (h.tail.snd))
end K47
namespace K47
open PySem PySem.Spec PyProof.Rows KB
open L2 hiding op_eqD op_neD call_listD
variable {S : Addr → Prop} {C0 C : Cp} {L L1 : List Ent} {p q : Addr} {s : PS} {Q : DQ} {E : Exn → Cp → Prop}
theorem itoD_small (n : Nat) (h : n < 100000) : (itoD (n : Int)).length ≤ 30 := by
  have e := (Nat.length_repr_le_iff (n := n) (k := 5) (by decide)).mpr (by simpa using h)
  have e2 : toString (n : Int) = n.repr := rfl
  unfold itoD
  rw [e2, Str.ofString_eq_toList]
  show (n.repr.toList.map Char.toNat).length ≤ 30
  rw [List.length_map, String.length_toList]
  omega
theorem pickW {ws : Pt} {Q : DQ} (h : St S C0 C L) (d : Del L p s.c true L1) (a : At L q (.lst (ws.map D.str))) (ne : ws ≠ []) (wl : ws.length ≤ 100) (hw : ∀ y ∈ ws, Wk y) (k : ∀ y (s' : PS) C', y ∈ ws → Wk y → St S C0 C' ((p, s'.c, true) :: L1) → Q (.str y) C') (aq : At L1 q (.lst (ws.map D.str))) :
    lenR [.ptr q] C fun x C1 => D__law_take [.ptr p, x] C1 (fun y C2 => ixD (.ptr q) y C2 Q) fun _ _ => False := by
  have rpos := List.length_pos_iff.mpr ne
  refine len_st h a ?_
  rw [List.length_map]
  refine take h d (by omega) (by omega) fun t s1 C ht h => ?_
  refine ix_st h (.there aq) (at_map (f := D.str) (as := ws) (j := t) (by omega)) ?_
  have hm : ws[t]'(by omega) ∈ ws := List.getElem_mem _
  exact k _ s1 C hm (hw _ hm) h
theorem law_form {ws : Pt} (h : St S C0 C L) (d : Del L p s.c true L1) (a : At L1 q (.lst (ws.map D.str))) (ne : ws ≠ []) (wl : ws.length ≤ 100) (hw : ∀ y ∈ ws, Wk y) (k : ∀ (l : List Nat) (s' : PS) C', l.length ≤ 400 → 108 ∈ l → St S C0 C' ((p, s'.c, true) :: L1) → Q (.str l) C') : D__law_form [.ptr p, .ptr q] C Q E := by
  have h := h.front d
  unfold D__law_form runD r__law_form
  try simp only [List.length, Nat.reduceAdd, List.map, Nat.reduceSub, List.replicate, List.cons_append, List.nil_append, dSeq_p, dPar_p, List.set_cons_succ, List.set_cons_zero, dAsg_p, gNm_p, dFor_e_p, dRng1_p, Int.reducePow, Int.reduceNeg, dCons_p, List.cons.injEq, dNil_p, and_true, dCall_p, List.append_nil, dC_p, dVar_p, List.getElem?_cons_zero, Option.some.injEq, exists_eq_left', dOp_p, List.getElem?_cons_succ, dCB_p, ex2, dLst_e_p, Nat.reduceLeDiff, true_and]
  refine alloc_st h fun z1 C h => ?_
  refine take h (by (repeat (first | exact KB.Del.here | assumption | apply KB.Del.there))) (by omega) (by omega) fun t1 s1 C ht1 h => ?_
  obtain ⟨kind, ek, kl, k8⟩ : ∃ kind : List Nat, atI [D.str [108, 101, 97, 102], D.str [115, 101, 97, 108]] (t1 : Int) = some (.str kind) ∧ kind.length ≤ 4 ∧ 108 ∈ kind := by
    have : t1 = 0 ∨ t1 = 1 := by omega
    rcases this with e | e <;> subst e
    · exact ⟨_, rfl, by decide, by decide⟩
    · exact ⟨_, rfl, by decide, by decide⟩
  refine ix_st h (.there .here) ek ?_
  have h := h.snd
  refine take h .here (by omega) (by omega) fun t2 s2 C ht2 h => ?_
  try simp only [Int.reduceNeg, addD_ss_p, List.length, Nat.reduceAdd, addD_ii_p, strR_i, List.cons_append, List.nil_append]
  have il := itoD_small (1000 + t2) (by omega)
  rw [show ((1000 + t2 : Nat) : Int) = 1000 + (t2 : Int) by omega] at il
  refine ⟨Nat.lt_trans ((Nat.log2_lt (by omega)).mpr (show _ < 2 ^ 20 by omega)) (by decide), by rw [sizeLine_eq]; omega, ?_⟩
  refine alloc_st h fun z2 C h => ?_
  refine take h (by (repeat (first | exact KB.Del.here | assumption | apply KB.Del.there))) (by omega) (by omega) fun t3 s3 C ht3 h => ?_
  obtain ⟨gate, eg, gl⟩ : ∃ gate : List Nat, atI [D.str [], D.str (58 :: itoD (1000 + (t2 : Int)))] (t3 : Int) = some (.str gate) ∧ gate.length ≤ 31 := by
    have : t3 = 0 ∨ t3 = 1 := by omega
    rcases this with e | e <;> subst e
    · exact ⟨_, rfl, by decide⟩
    · exact ⟨_, rfl, by rw [List.length_cons]; omega⟩
  refine ix_st h (.there .here) eg ?_
  have h := h.snd
  refine ⟨by rw [sizeLine_eq]; omega, ?_⟩
  refine pickW h .here (.there a) ne wl hw (aq := a) fun y1 s4 C _ h1 h => ?_
  have l1 := h1.hi
  try simp only [Int.reduceNeg, addD_ss_p, List.length, Nat.reduceAdd]
  simp only [List.length_append, List.length_cons, List.length_nil]
  refine ⟨by rw [sizeLine_eq]; omega, by rw [sizeLine_eq]; omega, ?_⟩
  refine pickW h .here (.there a) ne wl hw (aq := a) fun y2 s5 C _ h2 h => ?_
  have l2 := h2.hi
  try simp only [Int.reduceNeg, addD_ss_p]
  simp only [List.length_append, List.length_cons, List.length_nil]
  refine ⟨by rw [sizeLine_eq]; omega, by rw [sizeLine_eq]; omega, ?_⟩
  generalize hf0 : kind ++ [58, 47, 47] ++ y1 ++ [46] ++ y2 ++ gate = f0
  have f08 : 108 ∈ f0 := by
    rw [← hf0]
    simp [k8]
  have f0l : f0.length ≤ 110 := by
    rw [← hf0]
    simp only [List.length_append, List.length_cons, List.length_nil]
    omega
  refine take h .here (by omega) (by omega) fun t6 s6 C ht6 h => ?_
  refine ⟨_, rfl, by omega, by omega, ?_⟩
  rw [Int.toNat_natCast]
  refine forR_st t6 (fun i sl C => ∃ (x3 : Option D) (s' : PS) (f : List Nat), sl = [some (.ptr p), some (.ptr q), some (.str f), x3, some (.str kind), some (.str gate)] ∧ f.length ≤ 110 + 31 * i ∧ 108 ∈ f ∧ St S C0 C ((p, s'.c, true) :: L1)) ⟨none, s6, f0, rfl, by omega, f08, h⟩ (fun _ => trivial) (fun i sl C hi hI => ?_) fun sl C hI => ?_
  · clear h
    obtain ⟨x3, s', f, rfl, fl, f8, h⟩ := hI
    unfold l__law_form_1
    try simp only [dAsg_p, gNm_p, dOp_p, dCall_p, List.append_nil, dCons_p, dNil_p, dCB_p, dVar_p, dC_p, List.set_cons_succ, List.set_cons_zero, List.getElem?_cons_succ, List.getElem?_cons_zero, Option.some.injEq, List.cons.injEq, and_true, true_and, exists_eq_left', addD_ss_p, List.length, Nat.reduceAdd]
    refine ⟨by rw [sizeLine_eq]; omega, ?_⟩
    refine pickW h .here (.there a) ne wl hw (aq := a) fun y3 s7 C _ h3 h => ?_
    have l3 := h3.hi
    try simp only [addD_ss_p, D.str.injEq]
    simp only [List.length_append, List.length_cons, List.length_nil]
    refine ⟨by rw [sizeLine_eq]; omega, ?_⟩
    refine ⟨C, Sub.refl _, _, s7, _, ⟨rfl, rfl⟩, ?_, by simp [f8], h⟩
    simp only [List.length_append, List.length_cons, List.length_nil]
    omega
  · clear h
    obtain ⟨x3, s', f, rfl, fl, f8, h⟩ := hI
    unfold r__law_form_2
    try simp only [dSeq_p, dIf_p, dAsg_p, gNm_p, List.set_cons_succ, List.set_cons_zero, dOp_p, dCall_p, List.append_nil, dCons_p, dNil_p, dCB_p, dVar_p, List.getElem?_cons_succ, List.getElem?_cons_zero, Option.some.injEq, exists_eq_left', dC_p, addD_ss_p, List.length, Nat.reduceAdd, dNext_p, dTest_p]
    refine take h .here (by omega) (by omega) fun t8 s8 C ht8 h => ?_
    try simp only [eqR_ii, Bool.false_eq_true, if_false, D.bl.injEq, exists_eq_left', beq_iff_eq]
    split
    · refine ⟨by rw [sizeLine_eq]; omega, ?_⟩
      refine pickW h .here (.there a) ne wl hw (aq := a) fun y3 s9 C _ h3 h => ?_
      have l3 := h3.hi
      try simp only [addD_ss_p]
      simp only [List.length_append, List.length_cons, List.length_nil]
      refine ⟨by rw [sizeLine_eq]; omega, ?_⟩
      unfold r__law_form_1
      try simp only [dRet_p, dVar_p, List.getElem?_cons_succ, List.getElem?_cons_zero, Option.some.injEq, exists_eq_left']
      exact ret_k (k _ s9 C (by simp only [List.length_append, List.length_cons, List.length_nil]; omega) (by simp [f8]) h)
    · unfold r__law_form_1
      try simp only [dRet_p, dVar_p, List.getElem?_cons_succ, List.getElem?_cons_zero, Option.some.injEq, exists_eq_left']
      exact ret_k (k _ s8 C (by omega) f8 h)
theorem law_title {ws : Pt} (h : St S C0 C L) (d : Del L p s.c true L1) (a : At L1 q (.lst (ws.map D.str))) (ne : ws ≠ []) (wl : ws.length ≤ 100) (hw : ∀ y ∈ ws, Wk y) (k : ∀ (l : Option (List Nat)) (s' : PS) C', (∀ x, l = some x → x.length ≤ 200 ∧ NB x) → St S C0 C' ((p, s'.c, true) :: L1) → Q (tlD l) C') : D__law_title [.ptr p, .ptr q] C Q E := by
  have h := h.front d
  unfold D__law_title runD r__law_title
  try simp only [List.length, Nat.reduceAdd, List.map, Nat.reduceSub, List.replicate, List.cons_append, List.nil_append, dSeq_p, dAsg_p, gNm_p, List.set_cons_succ, List.set_cons_zero, dFor_e_p, dRng1_p, Int.reducePow, Int.reduceNeg, dCons_p, List.cons.injEq, dNil_p, and_true, dCall_p, List.append_nil, dC_p, dVar_p, List.getElem?_cons_zero, Option.some.injEq, exists_eq_left', dLst_e_p, Nat.reduceLeDiff, true_and]
  refine alloc_st h fun f C h => ?_
  skip
  refine take h (by (repeat (first | exact KB.Del.here | assumption | apply KB.Del.there))) (by omega) (by omega) fun t1 s1 C ht1 h => ?_
  try simp only [D.int.injEq, Int.reduceNeg, exists_eq_left', Int.toNat_natCast]
  refine ⟨by omega, by omega, ?_⟩
  refine forR_st t1 (fun i sl C => ∃ (x3 x4 : Option D) (s' : PS) (us : Pt), sl = [some (.ptr p), some (.ptr q), some (.ptr f), x3, x4] ∧ (∀ u ∈ us, u.length ≤ 30 ∧ NB u) ∧ us.length ≤ i ∧ St S C0 C ((p, s'.c, true) :: (f, .lst (us.map D.str), true) :: L1)) ⟨none, none, s1, [], rfl, (fun x hx => by cases hx), Nat.le_refl _, h⟩ (fun _ => trivial) (fun i sl C hi hI => ?_) fun sl C hI => ?_
  · clear h
    obtain ⟨x3, x4, s', us, rfl, hu, ul, h⟩ := hI
    unfold l__law_title_1
    try simp only [dSeq_p, dAsg_p, gNm_p, dDrop_p, dBM_p, dCons_p, dNil_p, dOp_p, dCall_p, List.append_nil, dC_p, dVar_p, dLst_e_p, List.length, Nat.reduceLeDiff, true_and, dBM0_p, dCB_p, List.set_cons_succ, List.set_cons_zero, List.getElem?_cons_succ, List.getElem?_cons_zero, Option.some.injEq, List.cons.injEq, and_true, exists_eq_left']
    refine pickW h .here (.there (.there a)) ne wl hw (aq := .there a) fun y s2 C _ hy h => ?_
    skip
    have yl := hy.len
    have yu := upper_sa y hy.sa
    refine ⟨ty_st h (.there .here), by rfl, ?_⟩
    refine ⟨y, rfl, rfl, by omega, ?_⟩
    refine alloc_st h fun z C h => ?_
    refine take h (by (repeat (first | exact KB.Del.here | assumption | apply KB.Del.there))) (by omega) (by omega) fun t3 s3 C ht3 h => ?_
    obtain ⟨w, ew, wl2⟩ : ∃ w : List Nat, atI [D.str y, D.str (upperL y)] (t3 : Int) = some (.str w) ∧ w.length ≤ 30 ∧ NB w := by
      have : t3 = 0 ∨ t3 = 1 := by omega
      rcases this with e | e <;> subst e
      · exact ⟨_, rfl, yl, hy.nb⟩
      · exact ⟨_, rfl, by rw [yu]; exact yl, upper_nb hy⟩
    refine ix_st h (.there .here) ew ?_
    have h := h.snd
    refine app_st (xs := us.map D.str) h (by rw [sizeLine_eq, List.length_map]; omega) (.there .here) fun C h => ?_
    refine ⟨C, Sub.refl _, _, _, s3, us ++ [w], ⟨rfl, rfl⟩, fun u hu' => ?_, by rw [List.length_append, List.length_singleton]; omega, by rw [List.map_append]; exact h⟩
    rcases List.mem_append.mp hu' with hu' | hu'
    · exact hu u hu'
    · rw [List.mem_singleton.mp hu']; exact wl2
  · clear h
    obtain ⟨x3, x4, s', us, rfl, hu, ul, h⟩ := hI
    unfold r__law_title_1
    try simp only [dRet_p, dIfE_p, dBM_p, dCons_p, dNil_p, dVar_p, List.getElem?_cons_succ, List.getElem?_cons_zero, Option.some.injEq, exists_eq_left', dC_p, dTest_p, dOp_p, dLst_e_p, List.length, Nat.reduceLeDiff, true_and]
    refine alloc_st h fun z C h => ?_
    refine eqL_st h (.there (.there .here)) .here (npts_strs _) (by rfl) ?_
    have h := h.tail
    cases us with
    | nil =>
      rw [show eqDs (([] : Pt).map D.str) [] = true from rfl]
      try simp only [Bool.not_true, if_true, D.bl.injEq, exists_eq_left', Bool.false_eq_true, if_false]
      exact ret_k (k none s' C (fun x hx => by cases hx) h.snd)
    | cons u r =>
      rw [show eqDs ((u :: r).map D.str) [] = false from rfl]
      try simp only [Bool.not_false, if_true, D.bl.injEq, exists_eq_left']
      refine ⟨by rfl, ?_⟩
      have s1 := sum_le (n := 30) fun v hv => (hu v hv).1
      have s2 := join_le [32] (n := 30) fun v hv => (hu v hv).1
      refine join_st h (.there .here) (by simp only [List.length_cons, List.length_nil] at *; omega) ?_
      exact ret_k (k (some (joinD [32] (u :: r))) s' C (fun x hx => by
        cases hx
        exact ⟨by simp only [List.length_cons, List.length_nil] at *; omega, join_nb (hu u List.mem_cons_self).2⟩) h.snd)
end K47
namespace K47
open PySem PySem.Spec PyProof.Rows KB
open L2 hiding op_eqD op_neD call_listD
variable {S : Addr → Prop} {C0 C : Cp} {L L1 : List Ent} {p q : Addr} {s : PS} {Q : DQ} {E : Exn → Cp → Prop}
theorem leS_lt {x y : List Nat} (h : leS x y = true) (n : x ≠ y) : x < y := by
  rw [leS_eq] at h
  have h : strKind.blt y x = false := by simpa using h
  cases e : strKind.blt x y with
  | true => exact of_decide_eq_true e
  | false => exact absurd (strKind.total x y e h) n
theorem up_strlt {xs : Pt} (h : Up D.str xs) : xs.Pairwise (· < ·) :=
  (List.Pairwise.and h.1 h.2).imp fun {a b} q => leS_lt q.2 q.1
structure FoOk (n : Nat) (fs : List Pt) : Prop where
  up : Up pD fs
  nr : [] ∉ fs
  len : fs.length ≤ n
  each : ∀ p ∈ fs, p.length ≤ n ∧ ∀ w ∈ p, Wk w
theorem law_folders {ws : Pt} {n : Nat} (h : St S C0 C L) (d : Del L p s.c true L1) (a : At L1 q (.lst (ws.map D.str))) (ne : ws ≠ []) (wl : ws.length ≤ 100) (hw : ∀ y ∈ ws, Wk y) (n1 : n ≤ 40) (k : ∀ (fs : List Pt) (s' : PS) C', FoOk n fs → St S C0 C' ((p, s'.c, true) :: L1) → Q (.tup (fs.map pD)) C') : D__law_folders [.ptr p, .ptr q, .int (n : Int)] C Q E := by
  have h := h.front d
  unfold D__law_folders runD r__law_folders
  try simp only [List.length, Nat.reduceAdd, List.map, Nat.reduceSub, List.replicate, List.cons_append, List.nil_append, dSeq_p, dAsg_p, gNm_p, List.set_cons_succ, List.set_cons_zero, dFor_e_p, dRng1_p, Int.reducePow, Int.reduceNeg, dCons_p, List.cons.injEq, dNil_p, and_true, dCall_p, List.append_nil, dOp_p, dC_p, dVar_p, List.getElem?_cons_succ, List.getElem?_cons_zero, Option.some.injEq, exists_eq_left', addD_ii_p, dLst_e_p, Nat.reduceLeDiff, true_and, dTup_p]
  refine alloc_st h fun f C h => ?_
  skip
  refine take h (by (repeat (first | exact KB.Del.here | assumption | apply KB.Del.there))) (by omega) (by omega) fun t1 s1 C ht1 h => ?_
  try simp only [D.int.injEq, Int.reduceNeg, exists_eq_left', Int.toNat_natCast]
  refine ⟨by omega, by omega, ?_⟩
  have h : St S C0 C ((p, s1.c, true) :: (f, .lst (([[]] : List Pt).map pD), true) :: L1) := h
  refine forR_st t1 (fun i sl C => ∃ (x4 x5 : Option D) (s' : PS) (ks : List Pt), sl = [some (.ptr p), some (.ptr q), some (.int n), some (.ptr f), x4, x5] ∧ ks.Nodup ∧ [] ∈ ks ∧ ks.length ≤ i + 1 ∧ (∀ w ∈ ks, w.length ≤ i ∧ ∀ x ∈ w, Wk x) ∧ St S C0 C ((p, s'.c, true) :: (f, .lst (ks.map pD), true) :: L1)) ⟨none, none, s1, [[]], rfl, by simp, List.mem_cons_self, Nat.le_refl _, (fun w hw => by rw [List.mem_singleton.mp hw]; exact ⟨Nat.le_refl _, fun x hx => by cases hx⟩), h⟩ (fun _ => trivial) (fun i sl C hi hI => ?_) fun sl C hI => ?_
  · clear h
    obtain ⟨x4, x5, s', ks, rfl, nd, h0, kl, hk, h⟩ := hI
    unfold l__law_folders_1
    try simp only [dSeq_p, dAsg_p, gNm_p, dIf_p, dDrop_p, dBM_p, dCons_p, dNil_p, dVar_p, dNext_p, dTest_p, dOp_p, dTup_p, List.length, Nat.reduceLeDiff, true_and, dCall_p, List.append_nil, dCB_p, List.set_cons_succ, List.set_cons_zero, List.getElem?_cons_succ, List.getElem?_cons_zero, Option.some.injEq, List.cons.injEq, and_true, exists_eq_left']
    have kp := List.length_pos_of_mem h0
    refine len_st h (.there .here) ?_
    rw [List.length_map]
    refine take h .here (by omega) (by omega) fun t2 s2 C ht2 h => ?_
    refine ix_st h (.there .here) (at_map (f := pD) (as := ks) (j := t2) (by omega)) ?_
    have hm : ks[t2]'(by omega) ∈ ks := List.getElem_mem _
    generalize ks[t2]'(by omega) = w at hm
    refine pickW h .here (.there (.there a)) ne wl hw (aq := .there a) fun y s3 C _ hy h => ?_
    obtain ⟨wl1, wl2⟩ := hk w hm
    unfold pD
    try simp only [addD_tt_p, List.length, Nat.reduceAdd]
    refine ⟨by rw [sizeLine_eq, List.length_map]; omega, ?_⟩
    rw [show D.tup (w.map D.str ++ [D.str y]) = pD (w ++ [y]) by unfold pD; rw [List.map_append]; rfl]
    refine inL_st (xs := ks.map pD) h (.there .here) (npt_pD _) (okEqs_pDs _) ?_
    have em : memD (ks.map pD) (pD (w ++ [y])) = decide (w ++ [y] ∈ ks) := by
      rw [Bool.eq_iff_iff, decide_eq_true_eq]
      exact memD_map nb_pD pD_inj ks (w ++ [y])
    rw [em]
    try simp only [if_true, D.bl.injEq, exists_eq_left']
    by_cases hin : w ++ [y] ∈ ks
    · rw [if_neg (by simpa using hin)]
      exact ⟨C, Sub.refl _, _, _, s3, ks, ⟨rfl, rfl⟩, nd, h0, by omega, fun w hw => ⟨by have := (hk w hw).1; omega, (hk w hw).2⟩, h⟩
    · rw [if_pos (by simpa using hin)]
      refine ⟨ty_st h (.there .here), ?_⟩
      refine app_st (xs := ks.map pD) h (by rw [sizeLine_eq, List.length_map]; omega) (.there .here) fun C h => ?_
      refine ⟨C, Sub.refl _, _, _, s3, ks ++ [w ++ [y]], ⟨rfl, rfl⟩, ?_, List.mem_append_left _ h0, by rw [List.length_append, List.length_singleton]; omega, fun v hv => ?_, by rw [List.map_append]; exact h⟩
      · rw [List.nodup_append]
        exact ⟨nd, by simp, fun x hx z hz e' => hin (by rw [← List.mem_singleton.mp hz, ← e']; exact hx)⟩
      · rcases List.mem_append.mp hv with hv | hv
        · exact ⟨by have := (hk v hv).1; omega, (hk v hv).2⟩
        · rw [List.mem_singleton.mp hv]
          refine ⟨by rw [List.length_append, List.length_singleton]; omega, fun x hx => ?_⟩
          rcases List.mem_append.mp hx with hx | hx
          · exact wl2 x hx
          · rw [List.mem_singleton.mp hx]; exact hy
  · clear h
    obtain ⟨x4, x5, s', ks, rfl, nd, h0, kl, hk, h⟩ := hI
    unfold r__law_folders_1
    try simp only [dRet_p, dCB_p, dCons_p, dNil_p, dSl_p, dNoP_p, dPart_p, dC_p, D.int.injEq, exists_eq_left', dVar_p, List.getElem?_cons_succ, List.getElem?_cons_zero, Option.some.injEq]
    refine sortedU_st (f := pD) nd h (.there .here) (sortOk_pDs ks) fun bs r C ub pm h => ?_
    refine sl_st h .here fun r2 C h => ?_
    rw [cut_one, ← List.map_drop] at h
    have h := h.snd
    obtain ⟨b, r', eb⟩ := List.exists_cons_of_ne_nil (List.ne_nil_of_mem (pm.mem_iff.mpr h0))
    have b0 : b = [] := by
      cases b with
      | nil => rfl
      | cons x xs =>
        exfalso
        have hin : [] ∈ bs := pm.mem_iff.mpr h0
        rw [eb] at hin
        have := (List.pairwise_cons.mp (eb ▸ ub.2)).1 [] ((List.mem_cons.mp hin).resolve_left (by simp))
        have h2 : leP (pD (x :: xs)) (pD []) = false := rfl
        rw [h2] at this; cases this
    subst b0
    subst eb
    refine tup_st h .here ?_
    have nr := List.nodup_cons.mp ub.1
    refine ret_k (k r' s' C ⟨ub.sub (List.sublist_cons_self _ _), nr.1, ?_, fun w hw => ?_⟩ h.tail.snd)
    · have := pm.length_eq
      rw [List.length_cons] at this
      omega
    · obtain ⟨z1, z2⟩ := hk w (pm.mem_iff.mp (List.mem_cons_of_mem _ hw))
      exact ⟨by omega, z2⟩
structure EdOk (ms : Pt) (n : Nat) (es : List Ed) : Prop where
  up : Up edD es
  len : es.length ≤ n
  each : ∀ e ∈ es, e.1 ∈ ms ∧ e.2 ∈ ms
theorem law_pairs {ms : Pt} {n : Nat} (h : St S C0 C L) (d : Del L p s.c true L1) (a : At L1 q (.lst (ms.map D.str))) (ne : ms ≠ []) (ml : ms.length ≤ 100) (n1 : n ≤ 40) (k : ∀ (es : List Ed) (s' : PS) C', EdOk ms n es → St S C0 C' ((p, s'.c, true) :: L1) → Q (.tup (es.map edD)) C') : D__law_pairs [.ptr p, .ptr q, .int (n : Int)] C Q E := by
  have h := h.front d
  unfold D__law_pairs runD r__law_pairs
  try simp only [List.length, Nat.reduceAdd, List.map, Nat.reduceSub, List.replicate, List.cons_append, List.nil_append, dSeq_p, dAsg_p, gNm_p, List.set_cons_succ, List.set_cons_zero, dFor_e_p, dRng1_p, Int.reducePow, Int.reduceNeg, dCons_p, List.cons.injEq, dNil_p, and_true, dCall_p, List.append_nil, dOp_p, dC_p, dVar_p, List.getElem?_cons_succ, List.getElem?_cons_zero, Option.some.injEq, exists_eq_left', addD_ii_p, dAlt_p, dEmp_e_p, dEmpG_e_p, true_and]
  refine .inr (alloc_st h fun f C h => ?_)
  skip
  refine take h (by (repeat (first | exact KB.Del.here | assumption | apply KB.Del.there))) (by omega) (by omega) fun t1 s1 C ht1 h => ?_
  try simp only [D.int.injEq, Int.reduceNeg, exists_eq_left', Int.toNat_natCast]
  refine ⟨by omega, by omega, ?_⟩
  have rpos := List.length_pos_iff.mpr ne
  refine forR_st t1 (fun i sl C => ∃ (x4 x5 x6 : Option D) (s' : PS) (ks : List Ed), sl = [some (.ptr p), some (.ptr q), some (.int n), some (.ptr f), x4, x5, x6] ∧ ks.Nodup ∧ (∀ x ∈ ks, x.1 ∈ ms ∧ x.2 ∈ ms) ∧ ks.length ≤ i ∧ St S C0 C ((p, s'.c, true) :: (f, .dg (setG edD ks), true) :: L1)) ⟨none, none, none, s1, [], rfl, List.nodup_nil, (fun x hx => by cases hx), Nat.le_refl _, h⟩ (fun _ => trivial) (fun i sl C hi hI => ?_) fun sl C hI => ?_
  · clear h
    obtain ⟨x4, x5, x6, s', ks, rfl, nd, hk, kl, h⟩ := hI
    unfold l__law_pairs_1
    try simp only [dSeq_p, dPar_p, dIf_p, dSetI_p, dTup_p, dCons_p, List.length, Nat.reduceLeDiff, dNil_p, true_and, dOp_p, dCB_p, dVar_p, dC_p, dNext_p, dTest_p, List.cons.injEq, and_true, ex2, dCall_p, List.append_nil, gNm_p, List.set_cons_succ, List.set_cons_zero, List.getElem?_cons_zero, Option.some.injEq, List.getElem?_cons_succ, exists_eq_left']
    refine len_st h (.there (.there a)) ?_
    rw [List.length_map]
    refine take h .here (by omega) (by omega) fun t2 s2 C ht2 h => ?_
    refine len_st h (.there (.there a)) ?_
    rw [List.length_map]
    refine take h .here (by omega) (by omega) fun t3 s3 C ht3 h => ?_
    try simp only [max_ii, min_ii, eqR_ii, if_true, D.bl.injEq, exists_eq_left']
    have i1 : ∃ i1 : Nat, (if (t3 : Int) < (t2 : Int) then (t3 : Int) else (t2 : Int)) = (i1 : Int) ∧ i1 < ms.length := by
      split
      · exact ⟨t3, rfl, by omega⟩
      · exact ⟨t2, rfl, by omega⟩
    have i2 : ∃ i2 : Nat, (if (t3 : Int) > (t2 : Int) then (t3 : Int) else (t2 : Int)) = (i2 : Int) ∧ i2 < ms.length := by
      split
      · exact ⟨t3, rfl, by omega⟩
      · exact ⟨t2, rfl, by omega⟩
    obtain ⟨j1, e1, l1⟩ := i1
    obtain ⟨j2, e2, l2⟩ := i2
    rw [e1, e2]
    split
    · refine ix_st h (.there (.there a)) (at_map (f := D.str) (as := ms) (j := j1) l1) (ix_st h (.there (.there a)) (at_map (f := D.str) (as := ms) (j := j2) l2) ?_)
      refine putG_st (f := edD) nk_ed (y := (ms[j1], ms[j2])) (keyG_ed _) h (.there .here) (by rw [sizeLine_eq]; omega) fun ks2 C ek h => ?_
      refine ⟨C, Sub.refl _, _, _, _, s3, ks2, ⟨rfl, rfl, rfl⟩, ?_, fun y hy => ?_, ?_, h.front (p := p) (.there .here)⟩
      · rw [ek]
        split
        · exact nd
        · rename_i hn
          rw [List.nodup_append]
          exact ⟨nd, by simp, fun x hx y hy e' => hn (by rw [← List.mem_singleton.mp hy, ← e']; exact hx)⟩
      · rw [ek] at hy
        split at hy
        · exact hk y hy
        · rcases List.mem_append.mp hy with hy | hy
          · exact hk y hy
          · rw [List.mem_singleton.mp hy]; exact ⟨List.getElem_mem _, List.getElem_mem _⟩
      · rw [ek]
        split
        · omega
        · rw [List.length_append, List.length_singleton]; omega
    · exact ⟨C, Sub.refl _, _, _, _, s3, ks, ⟨rfl, rfl, rfl⟩, nd, hk, by omega, h⟩
  · clear h
    obtain ⟨x4, x5, x6, s', ks, rfl, nd, hk, kl, h⟩ := hI
    unfold r__law_pairs_1
    try simp only [dRet_p, dCB_p, dCons_p, dNil_p, dVar_p, List.getElem?_cons_succ, List.getElem?_cons_zero, Option.some.injEq, exists_eq_left']
    refine sorted_l (xs := ks.map edD) (.inr (.inr ⟨_, h.get (.there .here), by unfold setG; rw [List.map_map]; rfl⟩)) (sortOk_eds ks) fun u hu => ?_
    have h := h.new (c := .lst ((ks.map edD).mergeSort leP)) hu
    obtain ⟨ts, et, ut, ht⟩ := up_srt (f := edD) (P := (· ∈ ks)) (t := (ks.map edD).mergeSort leP) ⟨ks, nd, fun _ => Iff.rfl, rfl⟩
    rw [et] at h ⊢
    have tl : ts.length = ks.length := by
      have := congrArg List.length et
      rw [List.length_mergeSort, List.length_map, List.length_map] at this
      exact this.symm
    refine tup_st h .here ?_
    exact ret_k (k ts s' _ ⟨ut, by omega, fun x hx => hk x ((ht x).mp hx)⟩ (h.tail.snd))
/-! ### pages -/
structure PgOk (ms : Pt) (g : Pg) : Prop where
  bd : PgB g
  nf : NB g.form ∧ g.form.length ≤ 400
  nc : ∀ t, g.cal = some t → NB t ∧ t.length ≤ 200
  ml : g.marks.length ≤ 3
  mm : ∀ m ∈ g.marks, m ∈ ms
def kvP (g : Pg) : DKey × D := (.inr g.form, pgD g)
theorem put_kvP {ms : Pt} {g : Pg} (hg : PgOk ms g) {gs : List Pg} (nd : (gs.map Pg.form).Nodup) (hs : ∀ x ∈ gs, PgOk ms x) : ∃ gs' : List Pg, putA (gs.map kvP) (.inr g.form) (pgD g) = gs'.map kvP ∧ (gs'.map Pg.form).Nodup ∧ (∀ x ∈ gs', PgOk ms x) ∧ gs'.length ≤ gs.length + 1 := by
  unfold putA
  split
  · refine ⟨gs.map fun x => if x.form = g.form then g else x, ?_, ?_, fun x hx => ?_, by rw [List.length_map]; omega⟩
    · rw [List.map_map, List.map_map]
      refine List.map_congr_left fun x hx => ?_
      by_cases e : x.form = g.form
      · simp [kvP, e]
      · simp [kvP, e]
    · rw [List.map_map]
      have : (gs.map (Pg.form ∘ fun x => if x.form = g.form then g else x)) = gs.map Pg.form := List.map_congr_left fun x hx => by
        by_cases e : x.form = g.form
        · simp [e]
        · simp [e]
      rw [this]; exact nd
    · obtain ⟨y, hy, rfl⟩ := List.mem_map.mp hx
      split
      · exact hg
      · exact hs y hy
  · rename_i hn
    refine ⟨gs ++ [g], by rw [List.map_append]; rfl, ?_, fun x hx => ?_, by simp⟩
    · rw [List.map_append, List.nodup_append]
      refine ⟨nd, by simp, fun x hx y hy e => hn ?_⟩
      rw [List.mem_singleton.mp hy] at e
      subst e
      obtain ⟨z, hz, e⟩ := List.mem_map.mp hx
      rw [List.any_eq_true]
      exact ⟨kvP z, List.mem_map.mpr ⟨z, hz, rfl⟩, by simpa [kvP] using e⟩
    · rcases List.mem_append.mp hx with hx | hx
      · exact hs x hx
      · rw [List.mem_singleton.mp hx]; exact hg
theorem look_kvP : ∀ {gs : List Pg} {g : Pg}, (gs.map Pg.form).Nodup → g ∈ gs → lookA (gs.map kvP) (.inr g.form) = some (pgD g)
  | [], g, _, h => by cases h
  | x :: r, g, nd, h => by
    rw [List.map_cons, lookA_cons]
    rw [List.map_cons] at nd
    have nd2 := List.nodup_cons.mp nd
    rcases List.mem_cons.mp h with h | h
    · subst h
      rw [if_pos (show (kvP g).1 = Sum.inr g.form from rfl)]; rfl
    · rw [if_neg, look_kvP nd2.2 h]
      intro e
      simp only [kvP, Sum.inr.injEq] at e
      exact nd2.1 (by rw [e]; exact List.mem_map.mpr ⟨g, h, rfl⟩)
theorem pick_forms {gs : List Pg} : ∀ ts : Pt, (∀ x ∈ ts, x ∈ gs.map Pg.form) → ∃ hs : List Pg, hs.map Pg.form = ts ∧ ∀ g ∈ hs, g ∈ gs
  | [], _ => ⟨[], rfl, fun g hg => by cases hg⟩
  | t :: r, h => by
    obtain ⟨hs, e, hh⟩ := pick_forms r fun x hx => h x (List.mem_cons_of_mem _ hx)
    obtain ⟨g, hg, eg⟩ := List.mem_map.mp (h t List.mem_cons_self)
    refine ⟨g :: hs, by rw [List.map_cons, eg, e], fun x hx => ?_⟩
    rcases List.mem_cons.mp hx with hx | hx
    · rw [hx]; exact hg
    · exact hh x hx
structure PgsOk (ms : Pt) (n : Nat) (gs : List Pg) : Prop where
  lt : (gs.map Pg.form).Pairwise (· < ·)
  len : gs.length ≤ n
  each : ∀ g ∈ gs, PgOk ms g
theorem law_pages {ws ms : Pt} {fs : List Pt} {n : Nat} {r : Addr} (h : St S C0 C L) (d : Del L p s.c true L1) (a : At L1 q (.lst (ws.map D.str))) (ne : ws ≠ []) (wl : ws.length ≤ 100) (hw : ∀ y ∈ ws, Wk y) (b : At L1 r (.lst (ms.map D.str))) (mne : ms ≠ []) (ml : ms.length ≤ 100) (fl : fs.length ≤ 40) (fe : ∀ w ∈ fs, w.length ≤ 100) (n1 : n ≤ 40)
    (k : ∀ (gs : List Pg) (s' : PS) C', PgsOk ms n gs → St S C0 C' ((p, s'.c, true) :: L1) → Q (.tup (gs.map pgD)) C') : D__law_pages [.ptr p, .ptr q, .ptr r, .tup (fs.map pD), .int (n : Int)] C Q E := by
  have h := h.front d
  unfold D__law_pages runD r__law_pages
  try simp only [List.length, Nat.reduceAdd, List.map, Nat.reduceSub, List.replicate, List.cons_append, List.nil_append, dSeq_p, dAsg_p, gNm_p, List.set_cons_succ, List.set_cons_zero, dFor_e_p, dRng1_p, Int.reducePow, Int.reduceNeg, dCons_p, List.cons.injEq, dNil_p, and_true, dCall_p, List.append_nil, dOp_p, dC_p, dVar_p, List.getElem?_cons_succ, List.getElem?_cons_zero, Option.some.injEq, exists_eq_left', addD_ii_p, dAlt_p, dEmp_e_p, dEmpG_e_p, true_and]
  refine .inl (alloc_st h fun f C h => ?_)
  skip
  refine take h (by (repeat (first | exact KB.Del.here | assumption | apply KB.Del.there))) (by omega) (by omega) fun t1 s1 C ht1 h => ?_
  try simp only [D.int.injEq, Int.reduceNeg, exists_eq_left', Int.toNat_natCast]
  refine ⟨by omega, by omega, ?_⟩
  refine forR_st t1 (fun i sl C => ∃ (x6 x7 x8 x9 : Option D) (s' : PS) (gs : List Pg), sl = [some (.ptr p), some (.ptr q), some (.ptr r), some (.tup (fs.map pD)), some (.int n), some (.ptr f), x6, x7, x8, x9] ∧ (gs.map Pg.form).Nodup ∧ (∀ g ∈ gs, PgOk ms g) ∧ gs.length ≤ i ∧ St S C0 C ((p, s'.c, true) :: (f, .dk (gs.map kvP), true) :: L1)) ⟨none, none, none, none, s1, [], rfl, List.nodup_nil, (fun x hx => by cases hx), Nat.le_refl _, h⟩ (fun _ => trivial) (fun i sl C hi hI => ?_) fun sl C hI => ?_
  · clear h
    obtain ⟨x6, x7, x8, x9, s', gs, rfl, nd, hg, gl, h⟩ := hI
    unfold l__law_pages_1
    try simp only [dSeq_p, dPar_p, dAsg_p, gNm_p, dSetI_p, dVar_p, dTup_p, dCons_p, List.length, Nat.reduceLeDiff, dNil_p, true_and, dIfE_p, dTest_p, dOp_p, dCall_p, List.append_nil, dC_p, dCB_p, dLst_e_p, List.cons.injEq, and_true, ex2, List.set_cons_succ, List.set_cons_zero, List.getElem?_cons_zero, Option.some.injEq, List.getElem?_cons_succ, exists_eq_left']
    refine law_form h .here (.there a) ne wl hw fun form s2 C fl2 f8 h => ?_
    skip
    refine law_title h .here (.there a) ne wl hw fun cal s3 C cl h => ?_
    skip
    refine alloc_st h fun z1 C h => ?_
    refine listT_st h fun z2 C h => ?_
    refine add_st (xs := [.tup []]) (ys := fs.map pD) h (.there .here) .here (by rw [sizeLine_eq, List.length_map]; simp only [List.length_cons, List.length_nil]; omega) fun z3 C h => ?_
    have h := (h.snd).snd
    have h : St S C0 C ((z3, .lst ((([] : Pt) :: fs).map pD), true) :: (p, s3.c, true) :: (f, .dk (gs.map kvP), true) :: L1) := h
    refine law_someP (n := 3) h (.there .here) .here (by simp) (by rw [List.length_cons]; omega) (by omega) fun ps s4 C hps h => ?_
    try simp only [eqR_tt_p, if_true, D.bl.injEq, exists_eq_left']
    have h := h.snd
    refine law_someS (n := 3) h .here (.there b) mne ml (by omega) fun mk s5 C hmk h => ?_
    skip
    have pg : ∀ C ps', (ps'.length ≤ 100) → (∀ w ∈ ps', w.length ≤ 100000) → St S C0 C ((p, s5.c, true) :: (f, .dk (gs.map kvP), true) :: L1) → setR (.ptr f) (.str form) (pgD ⟨form, cal, mk, ps'⟩) C fun C4 => ∃ C'', KB.Sub C'' C4 ∧ ∃ (x6 x7 x8 x9 : Option D) (s' : PS) (gs : List Pg), (some (D.int (i : Int)) = x6 ∧ some (D.tup (ps.map pD)) = x7 ∧ some (D.str form) = x8 ∧ some (tlD cal) = x9) ∧ (gs.map Pg.form).Nodup ∧ (∀ g ∈ gs, PgOk ms g) ∧ gs.length ≤ i + 1 ∧ St S C0 C'' ((p, s'.c, true) :: (f, .dk (gs.map kvP), true) :: L1) := by
      intro C ps' hp1 hp2 h
      obtain ⟨gs', e, n1, n2, n3⟩ := put_kvP (g := ⟨form, cal, mk, ps'⟩) (ms := ms) ⟨⟨by show form.length ≤ _; omega, fun t e => by have := (cl t e).1; omega, by have := hmk.len; show mk.length ≤ _; omega, by show ps'.length ≤ _; omega, hp2⟩, ⟨⟨108, f8, by decide⟩, fl2⟩, fun t e => ⟨(cl t e).2, (cl t e).1⟩, hmk.len, hmk.sub⟩ nd hg
      have h := h.front (p := f) (.there .here)
      refine put_k (h.get .here) (.inr form) (by rw [List.length_map, sizeLine_eq]; omega) ?_
      rw [e]
      exact ⟨_, Sub.refl _, _, _, _, _, s5, gs', ⟨rfl, rfl, rfl, rfl⟩, n1, n2, by omega, (h.put .here).front (p := p) (.there .here)⟩
    have dp := deps_of (ds := ps.map pD) (n := 3) fun d hd => by
      obtain ⟨w, _, rfl⟩ := List.mem_map.mp hd
      simp [dep_pD]
    refine ⟨⟨(okEqs_pDs ps).1, by unfold dep; omega⟩, by rfl, ?_⟩
    split
    · exact pg C ps (by have := hps.len; omega) (fun w hw => by
        rcases List.mem_cons.mp (hps.sub w hw) with e | m
        · rw [e]; exact Nat.zero_le _
        · have := fe w m; omega) h
    · exact pg C [[]] (by decide) (fun w hw => by rw [List.mem_singleton.mp hw]; exact Nat.zero_le _) h
  · clear h
    obtain ⟨x6, x7, x8, x9, s', gs, rfl, nd, hg, gl, h⟩ := hI
    unfold r__law_pages_1
    try simp only [dRet_p, dCB_p, dCons_p, dNil_p, dLc_e_p, dOver_p, dVar_p, List.getElem?_cons_succ, List.getElem?_cons_zero, Option.some.injEq, exists_eq_left']
    refine sorted_l (xs := (gs.map Pg.form).map D.str) (.inr (.inl ⟨_, h.get (.there .here), by rw [List.map_map, List.map_map]; rfl⟩)) (sortOk_strs _) fun u hu => ?_
    have h := h.new (c := .lst (((gs.map Pg.form).map D.str).mergeSort leP)) hu
    obtain ⟨ts, et, ut, ht⟩ := srt_ups nd rfl
    rw [et] at h ⊢
    have tl : ts.length = gs.length := by
      have := congrArg List.length et
      rw [List.length_mergeSort, List.length_map, List.length_map, List.length_map] at this
      exact this.symm
    generalize up C u (.lst (ts.map D.str)) = C at h
    obtain ⟨hs, eh, hh⟩ := pick_forms (gs := gs) ts fun x hx => (ht x).mp hx
    have hl : hs.length = ts.length := by rw [← eh, List.length_map]
    refine ⟨_, .inl (h.get .here), ?_⟩
    refine lc_map hs pgD (fun g => .str g.form) (by rw [← eh, List.map_map]; rfl) h (fun C h => .inl (h.get .here)) (fun g C hgm h Q' k => ?_) (by rw [sizeLine_eq]; omega) fun w C h => ?_
    · try simp only [wipeD, List.foldr_cons, List.foldr_nil, List.set_cons_succ, List.set_cons_zero, dGetI_eq_p, dVar_p, gNm_p, List.getElem?_cons_succ, List.getElem?_cons_zero, Option.some.injEq, exists_eq_left']
      exact getS_st h (.there (.there .here)) (look_kvP nd (hh g hgm)) (k C h)
    · refine tup_st h .here ?_
      exact ret_k (k hs s' C ⟨by rw [eh]; exact up_strlt ut, by omega, fun g hg' => hg g (hh g hg')⟩ (h.tail.tail.snd))
end K47
namespace K47
open PySem PySem.Spec PyProof.Rows KB
open L2 hiding op_eqD op_neD call_listD
variable {S : Addr → Prop} {C0 C : Cp} {L L0 L1 L2 : List Ent} {p q r : Addr} {s : PS} {Q : DQ} {E : Exn → Cp → Prop} {d : D} {w w0 l x : List Nat} {c : Nat}
theorem swP_of (h : x.take 1 ≠ [45]) : swP x = plainF x := by
  unfold swP
  rw [if_neg h]
theorem swP_not (x : List Nat) : swP (45 :: x) = plainF x := by
  unfold swP
  rw [if_pos (by rfl)]
  rfl
theorem pl_plus (h : 32 ∉ w) : plainF (43 :: w) = isW w := by
  unfold plainF
  rw [if_neg (by simp [h]), if_pos (by rfl)]
  rfl
theorem pl_way (h : 32 ∉ w) : plainF (47 :: w) = (decide (w = []) || (splitL w [47]).all isW) := by
  unfold plainF
  rw [if_neg (by simp [h]), if_neg (by simp), if_pos (by rfl)]
  rfl
theorem pl_else (h : 32 ∉ l) (h0 : l ≠ []) (h1 : l.take 1 ≠ [43]) (h2 : l.take 1 ≠ [47]) (h3 : l.take 1 ≠ [45]) (h4 : l ≠ [124]) : plainF l = true := by
  unfold plainF
  rw [if_neg (by rintro (e | e | e | e); exact h0 e; exact h4 e; exact h e; exact h3 e), if_neg h1, if_neg h2]
theorem n32 (h : Wk w) : 32 ∉ w := h.no (by decide)
theorem n47 (h : Wk w) : 47 ∉ w := h.no (by decide)
/-! ### splitting -/
theorem walk_hit {z : List Nat} {n c : Nat} {r cur : List Nat} (h : (c :: r).take z.length = z) : walk z (n + 1) (c :: r) cur = cur :: walk z n ((c :: r).drop z.length) [] := if_pos h
theorem walk_miss {z : List Nat} {n c : Nat} {r cur : List Nat} (h : (c :: r).take z.length ≠ z) : walk z (n + 1) (c :: r) cur = walk z n r (cur ++ [c]) := if_neg h
theorem walk_one {c : Nat} : ∀ (a : List Nat) (n : Nat) (cur : List Nat), c ∉ a → a.length < n → walk [c] n a cur = [cur ++ a]
  | [], 0, cur, _, h => absurd h (Nat.not_lt_zero _)
  | [], n + 1, cur, _, _ => by rw [List.append_nil]; rfl
  | x :: a, 0, cur, _, h => absurd h (Nat.not_lt_zero _)
  | x :: a, n + 1, cur, hn, h => by
    rw [walk_miss (by show ¬ [x] = [c]; intro e; cases e; exact hn List.mem_cons_self), walk_one a n _ (fun m => hn (List.mem_cons_of_mem _ m)) (by rw [List.length_cons] at h; omega), List.append_assoc]
    rfl
theorem walk_cut {c : Nat} : ∀ (a b : List Nat) (n : Nat) (cur : List Nat), c ∉ a → walk [c] (a.length + 1 + n) (a ++ c :: b) cur = (cur ++ a) :: walk [c] n b []
  | [], b, n, cur, _ => by
    rw [List.append_nil, show ([] : List Nat).length + 1 + n = n + 1 by simp; omega]
    exact walk_hit rfl
  | x :: a, b, n, cur, hn => by
    rw [show (x :: a).length + 1 + n = (a.length + 1 + n) + 1 by rw [List.length_cons]; omega]
    show walk [c] _ (x :: (a ++ c :: b)) cur = _
    rw [walk_miss (by show ¬ [x] = [c]; intro e; cases e; exact hn List.mem_cons_self), walk_cut a b n _ (fun m => hn (List.mem_cons_of_mem _ m)), List.append_assoc]
    rfl
theorem split_one {a : List Nat} {c : Nat} (h : c ∉ a) : splitL a [c] = [a] := by
  rw [splitL_walk (by simp), walk_one a _ [] h (Nat.lt_succ_self _)]
  rfl
theorem split_cut {a b : List Nat} {c : Nat} (h : c ∉ a) : splitL (a ++ c :: b) [c] = a :: splitL b [c] := by
  rw [splitL_walk (by simp), splitL_walk (by simp), show (a ++ c :: b).length + 1 = a.length + 1 + (b.length + 1) by rw [List.length_append, List.length_cons]; omega, walk_cut a b _ [] h]
  rfl
/-- a text is cut at its first blank, or has none -/
theorem cut_at (c : Nat) : ∀ l : List Nat, c ∉ l ∨ ∃ a b, l = a ++ c :: b ∧ c ∉ a
  | [] => .inl (by simp)
  | x :: r => by
    by_cases e : x = c
    · exact .inr ⟨[], r, by rw [e]; rfl, by simp⟩
    · rcases cut_at c r with h | ⟨a, b, h, n⟩
      · exact .inl (by simp [h, Ne.symm e])
      · exact .inr ⟨x :: a, b, by rw [h]; rfl, by simp [n, Ne.symm e]⟩
theorem split_no (c : Nat) : ∀ (n : Nat) (l : List Nat), l.length ≤ n → ∀ w ∈ splitL l [c], c ∉ w
  | n, l, hl, w, hw => by
    rcases cut_at c l with h | ⟨a, b, h, hn⟩
    · rw [split_one h] at hw
      rw [List.mem_singleton.mp hw]; exact h
    · rw [h, split_cut hn] at hw
      rcases List.mem_cons.mp hw with e | m
      · rw [e]; exact hn
      · have : b.length < l.length := by rw [h, List.length_append, List.length_cons]; omega
        match n with
        | 0 => omega
        | n + 1 => exact split_no c n b (by omega) w m
theorem split_all (c : Nat) : ∀ (n : Nat) (l : List Nat), l.length ≤ n → ∀ x ∈ l, x ≠ c → ∃ w ∈ splitL l [c], x ∈ w
  | n, l, hl, x, hx, hn => by
    rcases cut_at c l with h | ⟨a, b, h, ha⟩
    · exact ⟨l, by rw [split_one h]; exact List.mem_cons_self, hx⟩
    · rw [h, split_cut ha]
      have hb : b.length < l.length := by rw [h, List.length_append, List.length_cons]; omega
      rw [h] at hx
      rcases List.mem_append.mp hx with m | m
      · exact ⟨a, List.mem_cons_self, m⟩
      · rcases List.mem_cons.mp m with e | m
        · exact absurd e hn
        · match n with
          | 0 => omega
          | n + 1 =>
            obtain ⟨w, h1, h2⟩ := split_all c n b (by omega) x m hn
            exact ⟨w, List.mem_cons_of_mem _ h1, h2⟩
theorem cut_mid {α : Type} (xs : List α) (i j : Nat) (h : i ≤ xs.length) : cutL xs (some (i : Int)) (some ((i : Int) + (j : Int))) = (xs.drop i).take j := by
  unfold cutL
  rw [show (i : Int) + (j : Int) = ((i + j : Nat) : Int) from rfl, HT.sIx_nat, HT.sIx_nat, Nat.min_eq_left h]
  rcases Nat.le_total (i + j) xs.length with g | g
  · rw [Nat.min_eq_left g]
    congr 1
    omega
  · rw [Nat.min_eq_right g, List.take_of_length_le (by rw [List.length_drop]; omega), List.take_of_length_le (by rw [List.length_drop]; omega)]
theorem piece {t : List Nat} (h : St S C0 C L) (d : Del L p s.c true L1) (hn : NB t) (tl : t.length ≤ 1000) (k : ∀ l (s' : PS) C', l ≠ [] → 32 ∉ l → l.length ≤ 1000 → St S C0 C' ((p, s'.c, true) :: L1) → Q (.str l) C') : D__law_piece [.ptr p, .str t] C Q E := by
  have h := h.front d
  unfold D__law_piece runD r__law_piece
  try simp only [List.length, Nat.reduceAdd, List.map, Nat.reduceSub, List.replicate, List.cons_append, List.nil_append, dSeq_p, dAsg_p, gNm_p, List.set_cons_succ, List.set_cons_zero, dRet_p, dSl_p, dPart_p, dOp_p, dCall_p, List.append_nil, dCons_p, dNil_p, dC_p, dVar_p, List.getElem?_cons_zero, Option.some.injEq, exists_eq_left', List.getElem?_cons_succ, dCB_p, dLc_e_p, dOver_p, dBM_p, true_and]
  have s1 := split_len (l := t) (z := [32]) (by simp)
  have s2 := split_each (l := t) (z := [32]) (by simp)
  refine ⟨rfl, split_st h (by simp) (by omega) fun r C h => ?_⟩
  refine ⟨_, .inl (h.get .here), ?_⟩
  refine lc_pick (splitL t [32]) (fun w => !(w == [])) D.str D.str rfl h (fun _ h => .inl (h.get .here)) (fun w C hw h Qt Q' k1 k2 => ?_) (by rw [sizeLine_eq]; omega) fun r2 C h => ?_
  · try simp only [wipeD, List.foldr_cons, List.foldr_nil, List.set_cons_succ, List.set_cons_zero, dVar_p, dTest_p, dOp_p, dC_p, gNm_p, List.getElem?_cons_succ, List.getElem?_cons_zero, Option.some.injEq, exists_eq_left', eqR_ss, if_true, D.bl.injEq]
    cases e : (!w == [])
    · rw [if_neg (by decide)]
      exact k2 e _ C h
    · rw [if_pos rfl]
      exact k1 e C h
  · have h := h.snd.swap
    obtain ⟨zs, hzs⟩ : ∃ zs, zs = (splitL t [32]).filter fun w => !(w == []) := ⟨_, rfl⟩
    rw [← hzs] at h
    have hz : ∀ z ∈ zs, z ≠ [] ∧ 32 ∉ z ∧ z.length ≤ t.length := fun z m => by
      rw [hzs] at m
      obtain ⟨m1, m2⟩ := List.mem_filter.mp m
      exact ⟨by simpa using m2, split_no 32 _ t (Nat.le_refl _) z m1, s2 z m1⟩
    have zl : zs.length ≤ 1001 := by
      have := List.length_filter_le (fun w => !(w == [])) (splitL t [32])
      rw [← hzs] at this
      omega
    have zp : 0 < zs.length := by
      obtain ⟨c, hc, n⟩ := hn
      obtain ⟨w, m, hw⟩ := split_all 32 _ t (Nat.le_refl _) c hc n
      refine List.length_pos_of_mem (a := w) ?_
      rw [hzs]
      exact List.mem_filter.mpr ⟨m, by cases w with | nil => cases hw | cons a b => rfl⟩
    refine len_st h (.there .here) ?_
    rw [List.length_map]
    refine take h .here (by omega) (by omega) fun t1 s1 C ht1 h => ?_
    have hj : t1 < zs.length := by omega
    refine ix_st h (.there .here) (at_map hj) ?_
    obtain ⟨z1, z2, z3⟩ := hz _ (List.getElem_mem hj)
    generalize zs[t1] = z at z1 z2 z3
    have zz := List.length_pos_iff.mpr z1
    try simp only [slD_s_p, lenR_s]
    refine ⟨by rw [sizeLine_eq]; omega, ?_⟩
    refine take h .here (by omega) (by omega) fun t2 s2 C ht2 h => ?_
    try simp only [D.int.injEq, addD_ii_p, exists_eq_left']
    refine take h .here (by omega) (by omega) fun t3 s3 C ht3 h => ?_
    try simp only [addD_ii_p, D.int.injEq, exists_eq_left']
    refine ⟨by rw [sizeLine_eq]; omega, ?_⟩
    rw [show (t2 : Int) + 1 + (t3 : Int) = (t2 : Int) + ((1 + t3 : Nat) : Int) by omega, cut_mid z t2 (1 + t3) (by omega)]
    refine ret_k (k _ s3 C ?_ ?_ ?_ h.snd)
    · intro e
      have := congrArg List.length e
      rw [List.length_take, List.length_drop, List.length_nil] at this
      omega
    · exact fun m => z2 (List.mem_of_mem_drop (List.mem_of_mem_take m))
    · rw [List.length_take, List.length_drop]; omega
end K47
namespace K47
open PySem PySem.Spec PyProof.Rows KB
open L2 hiding op_eqD op_neD call_listD
variable {S : Addr → Prop} {C0 C : Cp} {L L0 L1 L2 : List Ent} {p q r : Addr} {s : PS} {Q : DQ} {E : Exn → Cp → Prop} {d : D} {w w0 l x : List Nat} {c : Nat} {gs : List Pg} {fs : List Pt} {ms ws : Pt}
theorem word_end {ED : DEnds} {f : List Nat} {x1 x2 x3 x4 x5 x6 x8 : Option D} (h : St S C0 C ((p, s.c, true) :: L)) (hf : plainF f = true) (fl : f.length ≤ 4000) (f45 : f.take 1 ≠ [45]) (k : ∀ l (s' : PS) C', SWok l → l.length ≤ 4001 → St S C0 C' ((p, s'.c, true) :: L) → ED.rt (.str l) C') : r__law_search_word_2 ED [some (.ptr p), x1, x2, x3, x4, x5, x6, some (.str f), x8] C := by
  unfold r__law_search_word_2
  try simp only [dRet_p, dOp_p, dVar_p, List.getElem?_cons_succ, List.getElem?_cons_zero, Option.some.injEq, exists_eq_left', dCall_p, List.append_nil, dCons_p, dNil_p, dC_p, dLst_e_p, List.length, Nat.reduceLeDiff, true_and]
  refine alloc_st h fun z C h => ?_
  refine take h (by (repeat (first | exact KB.Del.here | assumption | apply KB.Del.there))) (by decide) (by decide) fun t s1 C ht h => ?_
  have e : t = 0 ∨ t = 1 ∨ t = 2 := by omega
  have e1 : SWok f := ⟨by rw [swP_of f45]; exact hf, by omega⟩
  have e2 : SWok (45 :: f) := ⟨by rw [swP_not]; exact hf, by rw [List.length_cons]; omega⟩
  rcases e with e | e | e <;> subst e
  · refine ix_st h (.there .here) (show atI _ ((0 : Nat) : Int) = some (.str []) from rfl) ?_
    try simp only [addD_ss_p, List.length, List.nil_append]
    exact ⟨by rw [sizeLine_eq]; omega, k f s1 C e1 (by omega) h.snd⟩
  · refine ix_st h (.there .here) (show atI _ ((1 : Nat) : Int) = some (.str []) from rfl) ?_
    try simp only [addD_ss_p, List.length, List.nil_append]
    exact ⟨by rw [sizeLine_eq]; omega, k f s1 C e1 (by omega) h.snd⟩
  · refine ix_st h (.there .here) (show atI _ ((2 : Nat) : Int) = some (.str [45]) from rfl) ?_
    try simp only [addD_ss_p, List.length, Nat.reduceAdd, List.cons_append, List.nil_append]
    exact ⟨by rw [sizeLine_eq]; omega, k _ s1 C e2 (by rw [List.length_cons]; omega) h.snd⟩
theorem memD_three (z : List Nat) : memD [.str [43], .str [45], .str [47]] (.str z) = decide (z ∈ ([[43], [45], [47]] : List (List Nat))) := memD_strs [[43], [45], [47]] z
theorem memD_two (z : List Nat) : memD [.str [], .str [124]] (.str z) = decide (z ∈ ([[], [124]] : List (List Nat))) := memD_strs [[], [124]] z
theorem repl_ok (h : Wk w) : plainF (mapS 45 97 w) = true ∧ (mapS 45 97 w).take 1 ≠ [45] ∧ (mapS 45 97 w).length = w.length := by
  have al : ∀ x ∈ mapS 45 97 w, x ∈ ALPHA ∧ x ≠ 45 := fun x m => by
    unfold mapS at m
    obtain ⟨y, hy, rfl⟩ := List.mem_map.mp m
    by_cases e : y = 45
    · rw [if_pos e]; exact ⟨by decide, by decide⟩
    · rw [if_neg e]; exact ⟨h.al y hy, e⟩
  have hd : ∀ c, c ∉ ALPHA ∨ c = 45 → (mapS 45 97 w).take 1 ≠ [c] := fun c hc e => by
    cases ez : mapS 45 97 w with
    | nil => rw [ez] at e; cases e
    | cons a b =>
      rw [ez] at e al
      have e : [a] = [c] := e
      obtain rfl := List.head_eq_of_cons_eq e
      have := al a List.mem_cons_self
      rcases hc with hc | hc
      · exact hc this.1
      · exact this.2 hc
  have ln : (mapS 45 97 w).length = w.length := List.length_map _
  refine ⟨pl_else (fun m => absurd (al 32 m).1 (by decide)) (fun e => ?_) (hd 43 (.inl (by decide))) (hd 47 (.inl (by decide))) (hd 45 (.inr rfl)) (fun e => hd 124 (.inl (by decide)) (by rw [e]; rfl)), hd 45 (.inr rfl), ln⟩
  rw [e] at ln
  have := h.lo
  rw [List.length_nil] at ln
  omega
theorem strip_end {ED : DEnds} {f : List Nat} {x1 x2 x3 x5 x6 x8 : Option D} (h : St S C0 C ((p, s.c, true) :: L)) (aw : At L r (.lst (ws.map D.str))) (hw : ∀ m ∈ ws, Wk m) (wp : 2 ≤ ws.length) (f2 : 32 ∉ f) (fl : f.length ≤ 1000) (k : ∀ l (s' : PS) C', SWok l → l.length ≤ 4001 → St S C0 C' ((p, s'.c, true) :: L) → ED.rt (.str l) C') :
    whK (dTest (dOp (KB.inR false) (dSl (dVar 7) dNoP (dPart (dC (D.int 1)))) (dTup (dCons (dC (D.str [43])) (dCons (dC (D.str [45])) (dCons (dC (D.str [47])) dNil)))))) l__law_search_word_1 { ED with nx := r__law_search_word_1 { ED with nx := r__law_search_word_2 ED } } [some (.ptr p), x1, x2, x3, some (.ptr r), x5, x6, some (.str f), x8] C := by
  refine ⟨fun m sl C => ∃ f, sl = [some (.ptr p), x1, x2, x3, some (.ptr r), x5, x6, some (.str f), x8] ∧ m = f.length ∧ f.length ≤ 1000 ∧ 32 ∉ f ∧ St S C0 C ((p, s.c, true) :: L), ⟨_, f, rfl, rfl, fl, f2, h⟩, fun m sl C hI => ?_⟩
  obtain ⟨f, rfl, rfl, fl, f2, h⟩ := hI
  try simp only [dTest_p, dOp_p, dTup_p, inR_t, Bool.false_eq_true, if_false, D.bl.injEq, exists_eq_left', dCons_p, List.length, Nat.reduceLeDiff, dNil_p, true_and, dC_p, dSl_p, dPart_p, D.int.injEq, dNoP_p, dVar_p, List.getElem?_cons_succ, List.getElem?_cons_zero, Option.some.injEq, slD_s_p]
  refine ⟨by rw [sizeLine_eq]; omega, rfl, npts_strs [[43], [45], [47]], ?_⟩
  rw [memD_three, take_one f]
  by_cases c : f.take 1 ∈ ([[43], [45], [47]] : List (List Nat))
  · rw [if_pos (decide_eq_true c)]
    unfold l__law_search_word_1
    try simp only [dAsg_p, gNm_p, List.set_cons_succ, List.set_cons_zero, List.cons.injEq, Option.some.injEq, and_true, true_and, dSl_p, dNoP_p, dPart_p, dC_p, D.int.injEq, exists_eq_left', dVar_p, List.getElem?_cons_succ, List.getElem?_cons_zero, slD_s_p, D.str.injEq]
    refine ⟨by rw [sizeLine_eq]; omega, ?_⟩
    rw [cut_one]
    have fp : f ≠ [] := fun e => by rw [e] at c; revert c; decide
    have := List.length_pos_iff.mpr fp
    refine ⟨(f.drop 1).length, by rw [List.length_drop]; omega, C, Sub.refl C, rfl, by rw [List.length_drop]; omega, fun m => f2 (List.mem_of_mem_drop m), h⟩
  · rw [if_neg (by rw [decide_eq_false c]; decide)]
    simp only [List.mem_cons, List.not_mem_nil, or_false, not_or] at c
    unfold r__law_search_word_1
    try simp only [dIf_p, dAsg_p, gNm_p, List.set_cons_succ, List.set_cons_zero, dRepl_p, dOp_p, dC_p, dVar_p, List.getElem?_cons_succ, List.getElem?_cons_zero, Option.some.injEq, exists_eq_left', dNext_p, dTest_p, dTup_p, inR_t, Bool.false_eq_true, if_false, D.bl.injEq, dCons_p, List.length, Nat.reduceLeDiff, dNil_p, true_and]
    refine ⟨rfl, npts_strs [[], [124]], ?_⟩
    rw [memD_two]
    by_cases c2 : f ∈ ([[], [124]] : List (List Nat))
    · rw [if_pos (decide_eq_true c2)]
      obtain ⟨w0, hw0, a0⟩ : ∃ w0, Wk w0 ∧ atI (ws.map D.str) 0 = some (.str w0) := ⟨ws[0], hw _ (List.getElem_mem _), at_map (j := 0) (by omega)⟩
      refine ix_st h (.there aw) a0 ?_
      obtain ⟨z1, z2, z3⟩ := repl_ok hw0
      have := hw0.hi
      refine ⟨w0, rfl, by omega, ?_⟩
      exact word_end h z1 (by omega) z2 k
    · rw [if_neg (by rw [decide_eq_false c2]; decide)]
      simp only [List.mem_cons, List.not_mem_nil, or_false, not_or] at c2
      exact word_end h (pl_else f2 c2.1 c.1 c.2.2 c.2.1 c2.2) (by omega) c.2.1 k
theorem three {A B : List Nat} {j : Nat} {K : DQ} {i : Int} (h : St S C0 C ((p, s.c, true) :: L)) (aw : At L r (.lst (ws.map D.str))) (hw : ∀ m ∈ ws, Wk m) (wp : 2 ≤ ws.length) (wl : ws.length ≤ 1000) (hA : NB A ∧ A.length ≤ 1000) (hB : NB B ∧ B.length ≤ 1000) (hj : i = (j : Int)) (j3 : j < 3)
    (k : ∀ l (s' : PS) C', l ≠ [] → 32 ∉ l → l.length ≤ 1000 → St S C0 C' ((p, s'.c, true) :: L) → K (.str l) C') :
    lenR [.ptr r] C fun x C1 => D__law_take [.ptr p, x] C1 (fun y C2 => ixD (.ptr r) y C2 fun x C1 => KB.alloc (.lst [.str A, .str B, x]) C1 fun x C1 => ixD x (.int i) C1 fun x C1 => D__law_piece [.ptr p, x] C1 K fun _ _ => False) fun _ _ => False := by
  refine len_st h (.there aw) ?_
  rw [List.length_map]
  refine take h .here (by omega) (by omega) fun t s1 C ht h => ?_
  have ht : t < ws.length := by omega
  refine ix_st h (.there aw) (at_map ht) ?_
  have hW := hw _ (List.getElem_mem ht)
  generalize ws[t] = W at hW
  refine alloc_st h fun z C h => ?_
  subst hj
  have : ∃ T, atI [D.str A, .str B, .str W] (j : Int) = some (.str T) ∧ NB T ∧ T.length ≤ 1000 := by
    match j, j3 with
    | 0, _ => exact ⟨A, rfl, hA⟩
    | 1, _ => exact ⟨B, rfl, hB⟩
    | 2, _ => exact ⟨W, rfl, hW.nb, by have := hW.hi; omega⟩
    | j + 3, h => omega
  obtain ⟨T, eT, nT, lT⟩ := this
  refine ix_st h .here eT ?_
  exact piece h.tail .here nT lT k
theorem split_join : ∀ {ps : Pt}, ps ≠ [] → (∀ w ∈ ps, 47 ∉ w) → splitL (joinD [47] ps) [47] = ps
  | [], h, _ => absurd rfl h
  | [y], _, h => by
    have e : joinD [47] [y] = y := by simp [joinD, TL.joinL]
    rw [e, split_one (h y List.mem_cons_self)]
  | y :: z :: r, _, h => by
    have e : joinD [47] (y :: z :: r) = y ++ 47 :: joinD [47] (z :: r) := by simp [joinD, TL.joinL]
    rw [e, split_cut (h y List.mem_cons_self), split_join (by simp) fun w m => h w (List.mem_cons_of_mem _ m)]
theorem way_ok {ps : Pt} (hw : ∀ w ∈ ps, Wk w) : plainF (47 :: joinD [47] ps) = true := by
  have n : 32 ∉ joinD [47] ps := fun m => by
    rcases join_mem m with e | ⟨y, hy, m⟩
    · revert e; decide
    · exact n32 (hw y hy) m
  rw [pl_way n]
  cases ps with
  | nil => rfl
  | cons y r =>
    rw [split_join (by simp) fun w m => n47 (hw w m), List.all_eq_true.mpr fun w m => (hw w m).isW, Bool.or_true]
theorem search_word (h : St S C0 C L) (d : Del L p s.c true L1) (am : At L1 q (.lst (ms.map D.str))) (aw : At L1 r (.lst (ws.map D.str))) (hg : ∀ g ∈ gs, NB g.form ∧ g.form.length ≤ 1000 ∧ ∀ t, g.cal = some t → NB t ∧ t.length ≤ 1000) (gp : 0 < gs.length) (gl : gs.length ≤ 1000) (hm : ∀ m ∈ ms, Wk m) (mp : 0 < ms.length) (ml : ms.length ≤ 1000) (hw : ∀ m ∈ ws, Wk m) (wp : 2 ≤ ws.length) (wl : ws.length ≤ 1000) (hf : ∀ f ∈ fs, f.length ≤ 100 ∧ ∀ w ∈ f, Wk w) (fl : fs.length ≤ 1000)
    (k : ∀ l (s' : PS) C', SWok l → l.length ≤ 4001 → St S C0 C' ((p, s'.c, true) :: L1) → Q (.str l) C') : D__law_search_word [.ptr p, .tup (gs.map pgD), .tup (fs.map pD), .ptr q, .ptr r] C Q E := by
  have h := h.front d
  unfold D__law_search_word runD r__law_search_word
  try simp only [List.length, Nat.reduceAdd, List.map, Nat.reduceSub, List.replicate, List.cons_append, List.nil_append, dSeq_p, dPar_p, List.set_cons_succ, List.set_cons_zero, dIf_p, dAsg_p, gNm_p, dOp_p, dCall_p, List.append_nil, dCons_p, dNil_p, dCB_p, dVar_p, List.getElem?_cons_succ, List.getElem?_cons_zero, Option.some.injEq, exists_eq_left', dC_p, dBM_p, dTup_p, Nat.reduceLeDiff, true_and, addD_tt_p, lenR_t, List.length_cons, dWhile_e_p, dLst_e_p, dOrT_p, dTest_p, List.cons.injEq, and_true, ex2]
  refine take h .here (by decide) (by decide) fun t1 s1 C ht1 h => ?_
  try simp only [subD_ii_p, eqR_ii, Bool.false_eq_true, if_false, D.bl.injEq, exists_eq_left', beq_iff_eq]
  rw [List.length_map]
  refine take h .here (by omega) (by omega) fun t2 s2 C ht2 h => ?_
  have hj : t2 < gs.length := by omega
  have hgg := hg _ (List.getElem_mem hj)
  refine ix_t (i := (t2 : Int)) (d := pgD gs[t2]) (atI_nat (by rw [List.getElem?_map, List.getElem?_eq_getElem hj]; rfl)) ?_
  generalize gs[t2] = g at hgg
  by_cases c0 : t1 = 0
  · subst c0
    rw [if_pos (by rfl)]
    refine len_st h (.there am) ?_
    rw [List.length_map]
    refine take h .here (by omega) (by omega) fun t3 s3 C ht3 h => ?_
    have hj3 : t3 < ms.length := by omega
    refine ix_st h (.there am) (at_map hj3) ?_
    have hmm := hm _ (List.getElem_mem hj3)
    generalize ms[t3] = m at hmm
    have := hmm.hi
    try simp only [addD_ss_p, List.length, Nat.reduceAdd, List.cons_append, List.nil_append]
    refine ⟨by rw [sizeLine_eq]; omega, ?_⟩
    refine word_end h (by rw [pl_plus (n32 hmm)]; exact hmm.isW) (by rw [List.length_cons]; omega) (by simp) fun l s' C h1 h2 h => ret_k (k l s' C h1 h2 h)
  by_cases c1 : t1 = 1
  · subst c1
    rw [if_neg (by decide), if_pos (by rfl)]
    obtain ⟨w0, w1, hw0, hw1, a0, a1⟩ : ∃ w0 w1, Wk w0 ∧ Wk w1 ∧ atI (ws.map D.str) 0 = some (.str w0) ∧ atI (ws.map D.str) 1 = some (.str w1) := ⟨ws[0], ws[1], hw _ (List.getElem_mem _), hw _ (List.getElem_mem _), at_map (j := 0) (by omega), at_map (j := 1) (by omega)⟩
    refine ⟨by rw [sizeLine_eq, List.length_map]; omega, ?_⟩
    refine ix_st h (.there aw) a0 ?_
    refine ix_st h (.there aw) a1 ?_
    refine ix_st h (.there aw) a0 ?_
    obtain ⟨PS2, hPS⟩ : ∃ PS2 : List Pt, PS2 = [] :: (fs ++ [[w0], [w1, w0]]) := ⟨_, rfl⟩
    have pl : PS2.length = fs.length + 3 := by rw [hPS, List.length_cons, List.length_append]; rfl
    have pe : D.tup [] :: (fs.map pD ++ [D.tup [.str w0], .tup [.str w1, .str w0]]) = PS2.map pD := by
      rw [hPS, List.map_cons, List.map_append]
      rfl
    have pw : ∀ f ∈ PS2, f.length ≤ 100 ∧ ∀ w ∈ f, Wk w := by
      rw [hPS]
      intro f m
      rcases List.mem_cons.mp m with e | m
      · rw [e]; exact ⟨Nat.zero_le _, nofun⟩
      rcases List.mem_append.mp m with m | m
      · exact hf f m
      rcases List.mem_cons.mp m with e | m
      · rw [e]; exact ⟨by show 1 ≤ 100; decide, fun w hw => by rw [List.mem_singleton.mp hw]; exact hw0⟩
      rw [List.mem_singleton.mp m]
      refine ⟨by show 2 ≤ 100; decide, fun w hw => ?_⟩
      rcases List.mem_cons.mp hw with e | m
      · rw [e]; exact hw1
      · rw [List.mem_singleton.mp m]; exact hw0
    refine ⟨by rw [sizeLine_eq, List.length_map]; omega, rfl, ?_⟩
    rw [show (((fs.map pD ++ [D.tup [.str w0], .tup [.str w1, .str w0]]).length + 1 : Nat) : Int) = (PS2.length : Int) by rw [pl, List.length_append, List.length_map]; rfl, pe]
    refine take h .here (by omega) (by omega) fun t3 s3 C ht3 h => ?_
    have hj3 : t3 < PS2.length := by omega
    refine ix_t (i := (t3 : Int)) (d := pD PS2[t3]) (atI_nat (by rw [List.getElem?_map, List.getElem?_eq_getElem hj3]; rfl)) ?_
    obtain ⟨f1, f2⟩ := pw _ (List.getElem_mem hj3)
    generalize PS2[t3] = f at f1 f2
    have q1 := sum_le (n := 12) fun v hv => (f2 v hv).hi
    have q2 := join_le [47] (n := 12) fun v hv => (f2 v hv).hi
    have q3 : f.length * (12 + 1) ≤ 100 * 13 := Nat.mul_le_mul_right _ f1
    unfold pD
    refine joinT (by simp only [List.length_cons, List.length_nil] at *; omega) ?_
    rw [show ([47] : List Nat).length = 1 from rfl] at q2
    try simp only [addD_ss_p, List.length, Nat.reduceAdd, List.cons_append, List.nil_append]
    refine ⟨by rw [sizeLine_eq]; omega, ?_⟩
    refine word_end h (way_ok f2) (by rw [List.length_cons]; omega) (by simp) fun l s' C h1 h2 h => ret_k (k l s' C h1 h2 h)
  rw [if_neg (by omega), if_neg (by omega)]
  refine ix_t (i := 0) (d := .str g.form) rfl ?_
  refine ix_t (i := 1) (d := tlD g.cal) rfl ?_
  obtain ⟨g1, g2, g3⟩ := hgg
  cases ec : g.cal with
  | none =>
    refine ⟨false, rfl, ?_⟩
    rw [if_neg (by decide)]
    refine ix_t (i := 0) (d := .str g.form) rfl ?_
    refine three (j := t1 - 2) h aw hw wp wl ⟨g1, g2⟩ ⟨g1, g2⟩ (by omega) (by omega) fun l s' C l1 l2 l3 h => ?_
    exact strip_end h aw hw wp l2 l3 fun l s' C h1 h2 h => ret_k (k l s' C h1 h2 h)
  | some t =>
    obtain ⟨n1, n2⟩ := g3 t ec
    have tn : t ≠ [] := fun e => by obtain ⟨c, m, _⟩ := n1; rw [e] at m; cases m
    refine ⟨true, ?_, ?_⟩
    · cases t with
      | nil => exact absurd rfl tn
      | cons a b => exact ⟨by rw [sizeLine_eq]; omega, rfl⟩
    rw [if_pos rfl]
    refine three (j := t1 - 2) h aw hw wp wl ⟨g1, g2⟩ ⟨n1, n2⟩ (by omega) (by omega) fun l s' C l1 l2 l3 h => ?_
    exact strip_end h aw hw wp l2 l3 fun l s' C h1 h2 h => ret_k (k l s' C h1 h2 h)
end K47
namespace K47
open PySem PySem.Spec PyProof.Rows KB
open L2 hiding op_eqD op_neD call_listD
variable {S : Addr → Prop} {C0 C : Cp} {L L0 L1 L2 : List Ent} {p q r : Addr} {s : PS} {Q : DQ} {E : Exn → Cp → Prop} {d : D} {w w0 l x : List Nat} {c : Nat} {gs : List Pg} {es : List Ed} {fs : List Pt} {ms ws : Pt}
open Classical in
noncomputable def rch (es : List Ed) (m x : List Nat) : Bool := decide (Reach es x m)
open Classical in
theorem rch_iff {es : List Ed} {m x : List Nat} : rch es m x = true ↔ Reach es x m := by
  unfold rch
  exact decide_eq_true_iff
theorem bears_rch {g : Pg} {m : List Nat} : bears es m g = g.marks.any fun one => rch es m one := rfl
theorem form_inj {g g2 : Pg} (nd : (gs.map Pg.form).Nodup) (h : g ∈ gs) (h2 : g2 ∈ gs) (e : g.form = g2.form) : g = g2 := by
  induction gs with
  | nil => cases h
  | cons x r ih =>
    rw [List.map_cons] at nd
    obtain ⟨n1, n2⟩ := List.nodup_cons.mp nd
    rcases List.mem_cons.mp h with a | a <;> rcases List.mem_cons.mp h2 with b | b
    · rw [a, b]
    · exact absurd (List.mem_map.mpr ⟨g2, b, by rw [← e, a]⟩) n1
    · exact absurd (List.mem_map.mpr ⟨g, a, by rw [e, b]⟩) n1
    · exact ih n2 a b
theorem bearF_iff {g : Pg} (nd : (gs.map Pg.form).Nodup) (h : g ∈ gs) (m : List Nat) : decide (g.form ∈ bearF gs es m) = bears es m g := by
  rw [Bool.eq_iff_iff, decide_eq_true_eq]
  unfold bearF
  constructor
  · intro z
    obtain ⟨g2, h2, e⟩ := List.mem_map.mp z
    obtain ⟨h3, h4⟩ := List.mem_filter.mp h2
    rw [form_inj nd h h3 e.symm]
    exact h4
  · exact fun z => List.mem_map.mpr ⟨g, List.mem_filter.mpr ⟨h, z⟩, rfl⟩
theorem fits_plain {g : Pg} {N : Nat} (h : St S C0 C L) (hg : g ∈ gs) (nd : (gs.map Pg.form).Nodup) (el : es.length ≤ 30) (hP : PgB g) (hw : plainF w = true) (wl : w.length ≤ 2 ^ 18) (k : ∀ C', St S C0 C' L → Q (.bl (fit0 gs es g w)) C') : DO__law_fits (N + 1) [pgD g, .tup (es.map edD), .str w] C Q E := by
  have wn : w ≠ [] ∧ w.take 1 ≠ [45] := by
    unfold plainF at hw
    by_cases c : w = [] ∨ w = [124] ∨ 32 ∈ w ∨ w.take 1 = [45]
    · rw [if_pos c] at hw; cases hw
    · exact ⟨fun z => c (.inl z), fun z => c (.inr (.inr (.inr z)))⟩
  have hw2 : w.take 1 = [47] → w.take 1 ≠ [43] → (decide (w.drop 1 = []) || (splitL (w.drop 1) [47]).all isW) = true := fun z1 z2 => by
    unfold plainF at hw
    by_cases c : w = [] ∨ w = [124] ∨ 32 ∈ w ∨ w.take 1 = [45]
    · rw [if_pos c] at hw; cases hw
    · rw [if_neg c, if_neg z2, if_pos z1] at hw
      exact hw
  obtain ⟨c, r, rfl⟩ := List.exists_cons_of_ne_nil wn.1
  have c45 : c ≠ 45 := fun e => wn.2 (by rw [e]; rfl)
  have t43 : (c :: r).take 1 = [43] ↔ c = 43 := by simp
  have t47 : (c :: r).take 1 = [47] ↔ c = 47 := by simp
  have rl : r.length + 1 ≤ 2 ^ 18 := wl
  have k0 : fit0 gs es g (c :: r) = if c = 43 then bears es r g else if c = 47 then liesF g.paths (pathL r) else subL (c :: r) g.form || (match g.cal with | none => false | some t => subL (c :: r) (lowerL t)) := by
    unfold fit0
    by_cases e : c = 43
    · rw [if_pos e, if_pos (t43.mpr e)]
      exact bearF_iff nd hg r
    · rw [if_neg e, if_neg (fun z => e (t43.mp z))]
      by_cases e2 : c = 47
      · rw [if_pos e2, if_pos (t47.mpr e2)]
        rfl
      · rw [if_neg e2, if_neg (fun z => e2 (t47.mp z))]
        all_goals (cases g.cal <;> rfl)
  rw [k0] at k
  unfold DO__law_fits runD r__law_fits pgD
  try simp only [List.length, Nat.reduceAdd, List.map, Nat.reduceSub, List.replicate, List.cons_append, List.nil_append, dSeq_p, dAsg_p, gTp_p, gCn_p, gNl_p, dIf_p, dRet_p, dNotT_p, dCall_p, List.append_nil, dCons_p, dNil_p, dSl_p, dNoP_p, dPart_p, dC_p, D.int.injEq, exists_eq_left', dVar_p, dNext_p, dTest_p, dOp_p, gNm_p, List.set_cons_succ, List.set_cons_zero, List.getElem?_cons_succ, List.getElem?_cons_zero, Option.some.injEq, slD_s_p, D.tup.injEq, List.cons.injEq, ex2, true_and]
  have hd : ∀ {C : Cp} {Q : DQ}, Q (.str [c]) C → ixD (.str (c :: r)) (.int 0) C Q := fun k => ix_s (sl_ok (by show r.length + 1 ≤ _; omega)) (show atI (c :: r) ((0 : Nat) : Int) = some c from atI_nat rfl) k
  refine hd ?_
  try simp only [eqR_ss, Bool.false_eq_true, if_false, D.bl.injEq, exists_eq_left', beq_iff_eq, List.cons.injEq, and_true]
  rw [if_neg c45]
  unfold r__law_fits_3
  try simp only [dSeq_p, dIf_p, dRet_p, dCB_p, dCons_p, dNil_p, dLc_e_p, dAltI_p, dOverS_p, dVar_p, List.getElem?_cons_succ, List.getElem?_cons_zero, Option.some.injEq, exists_eq_left', dOverT_p, dNext_p, dTest_p, dOp_p, dC_p]
  refine hd ?_
  try simp only [eqR_ss, Bool.false_eq_true, if_false, D.bl.injEq, exists_eq_left', beq_iff_eq, List.cons.injEq, and_true]
  by_cases c43 : c = 43
  · rw [if_pos c43]
    rw [if_pos c43] at k
    refine .inr ?_
    refine lc_map g.marks (fun one => .bl (rch es r one)) D.str rfl h (fun _ _ => trivial) (fun y C2 hy h Q2 k2 => ?_) (by have := hP.marks; rw [sizeLine_eq]; omega) fun z C h => ?_
    · try simp only [wipeD, List.foldr_cons, List.foldr_nil, List.set_cons_succ, List.set_cons_zero, dOp_p, dCall_p, List.append_nil, dCons_p, dNil_p, dSl_p, dNoP_p, dPart_p, dC_p, D.int.injEq, exists_eq_left', dVar_p, gNm_p, List.getElem?_cons_succ, List.getElem?_cons_zero, Option.some.injEq, slD_s_p, List.length]
      refine ⟨sl_ok (by omega), ?_⟩
      rw [cut_one]
      refine inside_of h el fun xs q C hm xl h => ?_
      refine inL_st h .here rfl (npts_strs _) ?_
      rw [memD_strs]
      have e : decide (y ∈ xs) = rch es r y := by
        rw [Bool.eq_iff_iff, decide_eq_true_eq, rch_iff]
        exact hm y
      rw [if_neg (by decide), e]
      exact k2 C h.tail
    · rw [show g.marks.map (fun one => D.bl (rch es r one)) = (g.marks.map fun one => rch es r one).map D.bl by rw [List.map_map]; rfl] at h
      refine any_st h .here ?_
      have := k C h.tail
      rw [bears_rch] at this
      rw [List.any_map]
      exact ret_k this
  rw [if_neg c43]
  unfold r__law_fits_2
  try simp only [dSeq_p, dIf_p, dAsg_p, gNm_p, List.set_cons_succ, List.set_cons_zero, dRet_p, dCB_p, dCons_p, dNil_p, dLc_e_p, dAltI_p, dOverS_p, dVar_p, List.getElem?_cons_succ, List.getElem?_cons_zero, Option.some.injEq, exists_eq_left', dOverT_p, dOver_p, dBM_p, dC_p, dSl_p, dNoP_p, dPart_p, D.int.injEq, slD_s_p, List.length, dNext_p, dTest_p, dOp_p]
  refine hd ?_
  try simp only [eqR_ss, Bool.false_eq_true, if_false, D.bl.injEq, exists_eq_left', beq_iff_eq, List.cons.injEq, and_true]
  by_cases c47 : c = 47
  · rw [if_pos c47]
    rw [if_neg c43, if_pos c47] at k
    have rv := hw2 (t47.mpr c47) (fun z => c43 (t43.mp z))
    have rv : (decide (r = []) || (splitL r [47]).all isW) = true := rv
    refine ⟨sl_ok (by omega), rfl, ?_⟩
    rw [cut_one]
    have s1 := split_len (l := r) (z := [47]) (by simp)
    refine split_st h (by simp) (by show r.length ≤ _; omega) fun q C h => ?_
    refine ⟨_, .inl (h.get .here), ?_⟩
    refine lc_pick (splitL r [47]) (fun w => !(w == [])) D.str D.str rfl h (fun _ h => .inl (h.get .here)) (fun w C hw h Qt Q' k1 k2 => ?_) (by rw [sizeLine_eq]; show (splitL r [47]).length < _; omega) fun r2 C h => ?_
    · try simp only [wipeD, List.foldr_cons, List.foldr_nil, List.set_cons_succ, List.set_cons_zero, dVar_p, dTest_p, dOp_p, dC_p, gNm_p, List.getElem?_cons_succ, List.getElem?_cons_zero, Option.some.injEq, exists_eq_left', eqR_ss, if_true, D.bl.injEq]
      cases e : (!w == [])
      · rw [if_neg (by decide)]
        exact k2 e _ C h
      · rw [if_pos rfl]
        exact k1 e C h
    have ep : (splitL r [47]).filter (fun w => !(w == [])) = pathL r := by
      unfold pathL
      by_cases e : r = []
      · rw [if_pos e, e, split_one (by simp)]
        rfl
      · rw [if_neg e]
        rw [decide_eq_false e, Bool.false_or, List.all_eq_true] at rv
        refine List.filter_eq_self.mpr fun w hw => ?_
        have := rv w hw
        cases w with
        | nil => exact absurd this (by decide)
        | cons a b => rfl
    rw [ep] at h
    refine tup_st h .here ?_
    have h := h.tail.tail
    generalize pathL r = w at k h ⊢
    refine .inr ?_
    refine lc_map g.paths (fun one => .bl (decide (one.take w.length = w))) pD rfl h (fun _ _ => trivial) (fun y C'' hy h Q'' k => ?_) (by have := hP.paths; rw [sizeLine_eq]; omega) fun r C h => ?_
    · unfold pD
      try simp only [wipeD, List.foldr_cons, List.foldr_nil, List.set_cons_succ, List.set_cons_zero, dOp_p, dVar_p, dSl_p, dPart_p, dCB_p, dCons_p, dNil_p, dNoP_p, gNm_p, List.getElem?_cons_succ, List.getElem?_cons_zero, Option.some.injEq, exists_eq_left', lenR_t, D.int.injEq, slD_t_p, eqR_tt_p, Bool.false_eq_true, if_false]
      have ec : cutL (y.map D.str) none (some ((w.map D.str).length : Int)) = (y.take w.length).map D.str := by rw [cut_to, List.length_map, List.map_take]
      rw [ec]
      refine ⟨⟨npt_pD (y.take w.length), ?_⟩, ?_, ?_⟩
      · show dep (pD (y.take w.length)) ≤ 60
        rw [dep_pD]
        decide
      · exact npt_pD w
      · rw [show eqD (.tup ((y.take w.length).map D.str)) (.tup (w.map D.str)) = decide (y.take w.length = w) from eqD_pD _ _]
        exact k C'' h
    · rw [show g.paths.map (fun one => D.bl (decide (one.take w.length = w))) = (g.paths.map fun one => decide (one.take w.length = w)).map D.bl by rw [List.map_map]; rfl] at h
      refine any_st h .here ?_
      have := k C h.tail
      unfold liesF at this
      rw [List.any_map]
      exact ret_k this
  rw [if_neg c47]
  rw [if_neg c43, if_neg c47] at k
  unfold r__law_fits_1
  try simp only [dRet_p, dOrT_p, dAndT_p, dOp_p, dBM0_p, dVar_p, List.getElem?_cons_succ, List.getElem?_cons_zero, Option.some.injEq, exists_eq_left', isNR_p, Bool.not_true, truD_b_p, exists_eq_left, dC_p, true_and]
  refine inT_st ?_
  refine ⟨_, rfl, ?_⟩
  cases e : subL (c :: r) g.form with
  | true =>
    rw [if_pos rfl]
    have := k C h
    rw [e, Bool.true_or] at this
    exact ret_k this
  | false =>
    rw [if_neg (by decide)]
    have := k C h
    rw [e, Bool.false_or] at this
    cases ec : g.cal with
    | none =>
      rw [ec] at this
      exact ret_k this
    | some t =>
      rw [ec] at this
      have tl := hP.cal t ec
      rw [if_pos (by rfl)]
      refine ⟨rfl, t, rfl, rfl, by omega, ?_⟩
      exact inT_st (ret_k this)
theorem own_fits {g : Pg} (h : St S C0 C L) (hg : g ∈ gs) (nd : (gs.map Pg.form).Nodup) (el : es.length ≤ 30) (hP : PgB g) (hw : SWok w) (k : ∀ C', St S C0 C' L → Q (.bl (fitW gs es g w)) C') : D__law_fits [pgD g, .tup (es.map edD), .str w] C Q E := by
  obtain ⟨hs, wl⟩ := hw
  unfold swP at hs
  unfold fitW at k
  by_cases c : w.take 1 = [45]
  · rw [if_pos c] at hs k
    obtain ⟨r, rfl⟩ : ∃ r, w = 45 :: r := by
      cases w with
      | nil => cases c
      | cons a b => exact ⟨b, by rw [show a = 45 from List.head_eq_of_cons_eq c]⟩
    have rl : r.length + 1 ≤ 2 ^ 18 := wl
    show DO__law_fits (3 + 1) [pgD g, .tup (es.map edD), .str (45 :: r)] C Q E
    unfold DO__law_fits runD r__law_fits pgD
    try simp only [List.length, Nat.reduceAdd, List.map, Nat.reduceSub, List.replicate, List.cons_append, List.nil_append, dSeq_p, dAsg_p, gTp_p, gCn_p, gNl_p, dIf_p, dRet_p, dNotT_p, dCall_p, List.append_nil, dCons_p, dNil_p, dSl_p, dNoP_p, dPart_p, dC_p, D.int.injEq, exists_eq_left', dVar_p, dNext_p, dTest_p, dOp_p, gNm_p, List.set_cons_succ, List.set_cons_zero, List.getElem?_cons_succ, List.getElem?_cons_zero, Option.some.injEq, slD_s_p, D.tup.injEq, List.cons.injEq, ex2, true_and]
    refine ix_s (sl_ok (by show r.length + 1 ≤ _; omega)) (show atI (45 :: r) ((0 : Nat) : Int) = some 45 from atI_nat rfl) ?_
    try simp only [eqR_ss, Bool.false_eq_true, if_false, D.bl.injEq, exists_eq_left', beq_iff_eq, if_true]
    refine ⟨sl_ok (by omega), ?_⟩
    rw [cut_one]
    exact fits_plain (g := g) (N := 2) h hg nd el hP hs (by show r.length ≤ _; omega) fun C' h => ⟨_, rfl, ret_k (k C' h)⟩
  · rw [if_neg c] at hs k
    exact fits_plain (g := g) (N := 3) h hg nd el hP hs wl k
end K47
namespace K47
open PySem PySem.Spec PyProof.Rows KB
open L2 hiding op_eqD op_neD call_listD
variable {S : Addr → Prop} {C0 C : Cp} {L L0 L1 L2 : List Ent} {p q r rq : Addr} {s : PS} {Q : DQ} {E : Exn → Cp → Prop} {d : D} {w w0 l x : List Nat} {c : Nat} {gs : List Pg} {es : List Ed} {fs : List Pt} {ms ws : Pt} {RS : List Pt}
/-- the orders -/
inductive Or | a | t | m
def Or.nm : Or → List Nat
  | .a => [97, 100, 100, 114, 101, 115, 115]
  | .t => [116, 105, 116, 108, 101]
  | .m => [109, 97, 114, 107, 115]
def Or.rk (g : Pg) : Or → D
  | .a => .int 0
  | .t => .str (g.cal.getD [])
  | .m => .int (0 - (g.marks.length : Int))
def Or.le : Or → Pg → Pg → Bool
  | .a => lqA
  | .t => lqT
  | .m => lqM
def rkD (o : Or) (g : Pg) : D := .tup [o.rk g, .str g.form]
theorem ordO_nm (o : Or) : ordO (.str o.nm) = some o.le := by
  cases o
  · show (if Or.nm .a = [97, 100, 100, 114, 101, 115, 115] then some lqA else if Or.nm .a = [116, 105, 116, 108, 101] then some lqT else if Or.nm .a = [109, 97, 114, 107, 115] then some lqM else none) = _
    rw [if_pos (by rfl)]; rfl
  · show (if Or.nm .t = [97, 100, 100, 114, 101, 115, 115] then some lqA else if Or.nm .t = [116, 105, 116, 108, 101] then some lqT else if Or.nm .t = [109, 97, 114, 107, 115] then some lqM else none) = _
    rw [if_neg (by decide), if_pos (by rfl)]; rfl
  · show (if Or.nm .m = [97, 100, 100, 114, 101, 115, 115] then some lqA else if Or.nm .m = [116, 105, 116, 108, 101] then some lqT else if Or.nm .m = [109, 97, 114, 107, 115] then some lqM else none) = _
    rw [if_neg (by decide), if_neg (by decide), if_pos (by rfl)]; rfl
theorem rkD_le (o : Or) (a b : Pg) : leP (rkD o a) (rkD o b) = o.le a b := by
  cases o
  · show (!PyProof.Rows.lexLt itemOrd [.inl 1, .inl 0, .inl 1, .inr b.form, .inl 0] [.inl 1, .inl 0, .inl 1, .inr a.form, .inl 0]) = !PyProof.Rows.lexLt itemOrd [.inr b.form] [.inr a.form]
    simp only [PyProof.Rows.lexLt, itemLt]
    cases strKind.blt b.form a.form <;> cases strKind.blt a.form b.form <;> simp
  · rfl
  · rfl
theorem sort_rk (o : Or) (zs : List Pg) : (zs.map (rkD o)).mergeSort leP = (zs.mergeSort o.le).map (rkD o) := (W.sort_maps (rkD o) fun a _ b _ => (rkD_le o a b).symm).symm
theorem sortOk_rk (o : Or) (zs : List Pg) : SortOk (zs.map (rkD o)) := by
  refine ⟨.inl ⟨fun a ha b hb => ?_, .inl fun d hd => ?_⟩, fun x hx => ?_⟩
  · obtain ⟨c, hc, rfl⟩ := List.mem_map.mp ha
    obtain ⟨e, he, rfl⟩ := List.mem_map.mp hb
    obtain ⟨x, _, rfl⟩ := List.mem_map.mp hc
    obtain ⟨y, _, rfl⟩ := List.mem_map.mp he
    cases o <;> rfl
  · obtain ⟨c, hc, rfl⟩ := List.mem_map.mp hd
    obtain ⟨x, _, rfl⟩ := List.mem_map.mp hc
    exact ⟨_, rfl⟩
  · obtain ⟨c, hc, rfl⟩ := List.mem_map.mp hx
    cases o <;> exact ⟨rfl, by show (1 : Nat) ≤ 60; decide⟩
def dkO (g : Pg) : List (DKey × D) := [(.inr [97, 100, 100, 114, 101, 115, 115], .int 0), (.inr [116, 105, 116, 108, 101], .str (g.cal.getD [])), (.inr [109, 97, 114, 107, 115], .int (0 - (g.marks.length : Int)))]
theorem rank_of {K : DQ} {g : Pg} (h : St S C0 C L) (k : ∀ z C', St S C0 C' ((z, .dk (dkO g), true) :: L) → K (.ptr z) C') : ixD (pgD g) (.int 2) C fun x C1 => lenR [x] C1 fun y C2 => subD (.int 0) y C2 fun y C2 => ∃ kvs,
    [(D.str [97, 100, 100, 114, 101, 115, 115], D.int 0), (D.str [116, 105, 116, 108, 101], D.str (g.cal.getD [])), (D.str [109, 97, 114, 107, 115], y)] = List.map (fun kv => (keyD kv.fst, kv.snd)) kvs ∧ kvs.length ≤ 15 ∧ KB.alloc (.dk (mergeA [] kvs)) C2 K := by
  refine ix_t (i := 2) (d := .tup (g.marks.map D.str)) rfl ?_
  try simp only [lenR_t, subD_ii_p]
  refine ⟨dkO g, ?_, by show 3 ≤ 15; decide, ?_⟩
  · rw [List.length_map]
    rfl
  · have e : mergeA [] (dkO g) = dkO g := rfl
    rw [e]
    exact alloc_st h fun z C h => k z C h
theorem look_rk (o : Or) (g : Pg) : lookA (dkO g) (.inr o.nm) = some (o.rk g) := by cases o <;> rfl
theorem due {o : Or} {back : Bool} {most : Option Nat} (h : St S C0 C L) (ar : At L rq (.lst (RS.map pD))) (nd : (gs.map Pg.form).Nodup) (el : es.length ≤ 30) (gl : gs.length ≤ 1000) (hP : ∀ g ∈ gs, PgB g) (rl : RS.length ≤ 1000) (hw : ∀ row ∈ RS, row.length ≤ 1000 ∧ ∀ w ∈ row, SWok w) (hm : ∀ m, most = some m → m ≤ 100000)
    (k : ∀ C', St S C0 C' L → Q (pD (foundF gs es RS o.le back most)) C') : D__law_due [.tup (gs.map pgD), .tup (es.map edD), .ptr rq, .str o.nm, .bl back, mostD most] C Q E := by
  unfold D__law_due runD r__law_due
  try simp only [List.length, Nat.reduceAdd, List.map, Nat.reduceSub, List.replicate, List.cons_append, List.nil_append, dSeq_p, dAsg_p, gNm_p, List.set_cons_succ, List.set_cons_zero, dFor_e_p, dOverT_p, dVar_p, List.getElem?_cons_zero, Option.some.injEq, exists_eq_left', dLst_e_p, dNil_p, Nat.reduceLeDiff, true_and]
  refine alloc_st h fun f C h => ?_
  refine for_st (fun i sl C => ∃ x7 x9 f, sl = [some (.tup (gs.map pgD)), some (.tup (es.map edD)), some (.ptr rq), some (.str o.nm), some (.bl back), some (mostD most), some (.ptr f), x7, none, x9, none, none, none] ∧ St S C0 C ((f, .lst (((gs.take i).filter (hitR gs es RS)).map (rkD o)), true) :: L)) ⟨none, none, f, rfl, h⟩ (fun _ _ _ _ => trivial) (fun i x sl C hi ex hI => ?_) fun sl C hI => ?_
  · obtain ⟨x7, x9, f, rfl, h⟩ := hI
    rw [List.length_map] at hi
    rw [List.getElem?_map, List.getElem?_eq_getElem hi] at ex
    cases ex
    have hg := List.getElem_mem hi
    have e3 : (gs.take (i + 1)).filter (hitR gs es RS) = (gs.take i).filter (hitR gs es RS) ++ [gs[i]].filter (hitR gs es RS) := by
      rw [List.take_add_one, List.getElem?_eq_getElem hi, List.filter_append]
      rfl
    generalize gs[i] = g at *
    have hgP := hP g hg
    unfold l__law_due_1
    try simp only [dIf_p, dSeq_p, dAsg_p, gNm_p, dDrop_p, dBM_p, dCons_p, dNil_p, dTup_p, List.length, Nat.reduceLeDiff, true_and, dOp_p, dC_p, dVar_p, dAlt_p, dGetI_eq_p, dDisp_e_p, dPairs_c, dPairs_n, dCB_p, dIfE_p, dTest_p, isNR_p, Bool.not_true, D.bl.injEq, exists_eq_left', dNext_p, dTru_p, dLc_e_p, dOver_p, List.set_cons_succ, List.set_cons_zero, List.getElem?_cons_succ, List.getElem?_cons_zero, Option.some.injEq, List.cons.injEq, D.ptr.injEq, and_true]
    refine ⟨_, .inl (h.get (.there ar)), ?_⟩
    refine lc_map RS (fun row => .bl (fitR gs es g row)) pD rfl h (fun _ h => .inl (h.get (.there ar))) (fun row C hr h Q2 k2 => ?_) (by rw [sizeLine_eq]; omega) fun z C h => ?_
    · obtain ⟨w1, w2⟩ := hw row hr
      unfold pD
      try simp only [wipeD, List.foldr_cons, List.foldr_nil, List.set_cons_succ, List.set_cons_zero, dCB_p, dCons_p, dNil_p, dLc_e_p, dOverT_p, dVar_p, gNm_p, List.getElem?_cons_succ, List.getElem?_cons_zero, Option.some.injEq, exists_eq_left']
      refine lc_map row (fun w => .bl (fitW gs es g w)) D.str rfl h (fun _ _ => trivial) (fun w C hw h Q3 k3 => ?_) (by rw [sizeLine_eq]; omega) fun z C h => ?_
      · try simp only [wipeD, List.foldr_cons, List.foldr_nil, List.set_cons_succ, List.set_cons_zero, dCall_p, List.append_nil, dCons_p, dNil_p, dVar_p, gNm_p, List.getElem?_cons_succ, List.getElem?_cons_zero, Option.some.injEq, exists_eq_left']
        exact own_fits h hg nd el hgP (w2 w hw) k3
      · rw [show row.map (fun w => D.bl (fitW gs es g w)) = (row.map (fitW gs es g)).map D.bl by rw [List.map_map]; rfl] at h
        refine all_st h .here ?_
        have := k2 C h.tail
        unfold fitR at this
        rw [List.all_map]
        exact this
    rw [show RS.map (fun w => D.bl (fitR gs es g w)) = (RS.map (fitR gs es g)).map D.bl by rw [List.map_map]; rfl] at h
    refine any_st h .here ?_
    have h := h.tail
    have ea : ((RS.map (fitR gs es g)).any id) = hitR gs es RS g := by
      unfold hitR
      rw [List.any_map]
      rfl
    rw [ea]
    refine ⟨_, rfl, ?_⟩
    have ga : ∀ z C, St S C0 C ((z, .dk (dkO g), true) :: (f, .lst (((gs.take i).filter (hitR gs es RS)).map (rkD o)), true) :: L) → hitR gs es RS g = true → tyD C "list" (.ptr f) ∧ ((getX (.ptr z) (.str o.nm) C fun x_1 C1 => ixD (pgD g) (.int 0) C1 fun x_2 C1 => appendR (.ptr f) [D.tup [x_1, x_2]] C1 fun x_3 C1 => ∃ C'', KB.Sub C'' C1 ∧ ∃ x7 x9 f_1, (f = f_1 ∧ some (pgD g) = x7 ∧ some (D.ptr z) = x9) ∧ KB.St S C0 C'' ((f_1, Cell.lst (List.map (rkD o) (List.filter (hitR gs es RS) (List.take (i + 1) gs))), true) :: L)) ∨
        (ixD (.ptr z) (.str o.nm) C fun x_1 C1 => ixD (pgD g) (.int 0) C1 fun x_2 C1 => appendR (.ptr f) [D.tup [x_1, x_2]] C1 fun x_3 C1 => ∃ C'', KB.Sub C'' C1 ∧ ∃ x7 x9 f_1, (f = f_1 ∧ some (pgD g) = x7 ∧ some (D.ptr z) = x9) ∧ KB.St S C0 C'' ((f_1, Cell.lst (List.map (rkD o) (List.filter (hitR gs es RS) (List.take (i + 1) gs))), true) :: L))) := by
      intro z C h eh
      have fl : ((gs.take i).filter (hitR gs es RS)).length ≤ 1000 := Nat.le_trans (List.length_filter_le _ _) (by rw [List.length_take]; omega)
      refine ⟨ty_st h (.there .here), .inl ?_⟩
      refine getS_st h .here (look_rk o g) ?_
      refine ix_t (i := 0) (d := .str g.form) rfl ?_
      refine app_st (xs := ((gs.take i).filter (hitR gs es RS)).map (rkD o)) h (by rw [List.length_map, sizeLine_eq]; omega) (.there .here) fun C h => ?_
      refine ⟨C, Sub.refl C, _, _, f, ⟨rfl, rfl, rfl⟩, ?_⟩
      rw [e3, List.filter_cons_of_pos eh, List.map_append]
      exact h.tail
    cases eh : hitR gs es RS g with
    | false =>
      rw [if_neg (by decide)]
      refine ⟨C, Sub.refl C, _, _, f, ⟨rfl, rfl, rfl⟩, ?_⟩
      rw [e3, List.filter_cons_of_neg (by rw [eh]; decide), List.filter_nil, List.append_nil]
      exact h
    | true =>
      rw [if_pos rfl]
      refine ix_t (i := 1) (d := tlD g.cal) rfl ?_
      cases ec : g.cal with
      | none =>
        rw [if_neg (by simp [tlD])]
        have e : D.str [] = D.str (g.cal.getD []) := by rw [ec]; rfl
        rw [e]
        exact rank_of h fun z C h => ga z C h eh
      | some t =>
        rw [if_pos (by rfl)]
        refine ix_t (i := 1) (d := tlD g.cal) rfl ?_
        have e : tlD g.cal = D.str (g.cal.getD []) := by rw [ec]; rfl
        rw [e]
        exact rank_of h fun z C h => ga z C h eh
  · obtain ⟨x7, x9, f, rfl, h⟩ := hI
    rw [List.length_map, List.take_length] at h
    show r__law_due_2 _ _ C
    unfold r__law_due_2
    try simp only [dSeq_p, dAsg_p, gNm_p, List.set_cons_succ, List.set_cons_zero, dIf_p, dRevL_p, dVar_p, List.getElem?_cons_succ, List.getElem?_cons_zero, Option.some.injEq, exists_eq_left', dNext_p, dTru_p, truD_b_p, exists_eq_left, dLc_e_p, dOver_p, dCB_p, dCons_p, dNil_p]
    refine sorted_st h .here (sortOk_rk o _) fun z C h => ?_
    rw [sort_rk] at h
    have hl : ((gs.filter (hitR gs es RS)).mergeSort o.le).length ≤ 1000 := by
      rw [List.length_mergeSort]
      exact Nat.le_trans (List.length_filter_le _ _) gl
    have hd : foundF gs es RS o.le back most = limL most (if back then (((gs.filter (hitR gs es RS)).mergeSort o.le).map Pg.form).reverse else ((gs.filter (hitR gs es RS)).mergeSort o.le).map Pg.form) := rfl
    generalize (gs.filter (hitR gs es RS)).mergeSort o.le = zs at h hl hd
    refine ⟨_, .inl (h.get .here), ?_⟩
    refine lc_map zs (fun g => .str g.form) (rkD o) rfl h (fun _ h => .inl (h.get .here)) (fun g C hg h Q' k' => ?_) (by rw [sizeLine_eq]; omega) fun r C h => ?_
    · unfold rkD
      try simp only [wipeD, List.foldr_cons, List.foldr_nil, List.set_cons_succ, List.set_cons_zero, dVar_p, gTp_p, D.tup.injEq, gCn_p, gNl_p, gNm_p, List.getElem?_cons_succ, List.getElem?_cons_zero, Option.some.injEq, exists_eq_left', List.length, Nat.reduceAdd, List.cons.injEq, ex2, true_and]
      exact k' C h
    have h := h.snd.snd
    have h : St S C0 C ((r, .lst ((zs.map Pg.form).map D.str), true) :: L) := by
      rw [List.map_map]
      exact h
    have fl : (zs.map Pg.form).length ≤ 1000 := by rw [List.length_map]; exact hl
    generalize zs.map Pg.form = ys at h hd fl
    have fin : ∀ (fp2 : Addr) (ys : Pt) C, ys.length ≤ 1000 → foundF gs es RS o.le back most = limL most ys → St S C0 C ((fp2, .lst (ys.map D.str), true) :: L) → ∀ x6 x7 x9, r__law_due_1 { nx := fun x C' => ∃ C'', KB.Sub C'' C' ∧ Q D.non C'', rt := fun d C' => ∃ C'', KB.Sub C'' C' ∧ Q d C'' }
        [some (D.tup (List.map pgD gs)), some (D.tup (List.map edD es)), some (D.ptr rq), some (D.str o.nm), some (D.bl back), some (mostD most), x6, x7, some (.ptr fp2), x9, none, none, none] C := by
      intro fp2 ys C yl ey h x6 x7 x9
      unfold r__law_due_1
      cases most with
      | none =>
        unfold mostD
        try simp only [dRet_p, dCB_p, dCons_p, dNil_p, dIfE_p, dVar_p, List.getElem?_cons_succ, List.getElem?_cons_zero, Option.some.injEq, exists_eq_left', dSl_p, dPart_p, dNoP_p, dTest_p, dOp_p, isNR_p, Bool.not_false, D.bl.injEq, dC_p, true_and, if_true]
        refine tup_st h .here ?_
        rw [ey] at k
        exact ret_k (k C h.tail)
      | some m =>
        unfold mostD
        try simp only [dRet_p, dCB_p, dCons_p, dNil_p, dIfE_p, dVar_p, List.getElem?_cons_succ, List.getElem?_cons_zero, Option.some.injEq, exists_eq_left', dSl_p, dPart_p, D.int.injEq, dNoP_p, dTest_p, dOp_p, isNR_p, Bool.not_false, D.bl.injEq, dC_p, true_and, Bool.false_eq_true, if_false]
        refine sl_st h .here fun r C h => ?_
        rw [cut_take] at h
        refine tup_st h .here ?_
        rw [ey] at k
        have := k C h.tail.tail
        unfold pD limL at this
        rw [List.map_take] at this
        exact ret_k this
    cases back with
    | true =>
      rw [if_pos rfl] at hd ⊢
      refine ⟨r, _, rfl, .inl (h.get .here), alloc_st h fun z C h => ?_⟩
      refine fin z ys.reverse C (by rw [List.length_reverse]; exact fl) hd ?_ _ _ _
      rw [List.map_reverse]
      exact h.snd
    | false =>
      rw [if_neg (by decide)] at hd ⊢
      exact fin r ys C fl hd h _ _ _
end K47
namespace K47
open PySem PySem.Spec PyProof.Rows KB
open L2 hiding op_eqD op_neD call_listD
variable {S : Addr → Prop} {C0 C : Cp} {L L0 L1 L2 : List Ent} {p q r rq li T0 : Addr} {s : PS} {Q : DQ} {E : Exn → Cp → Prop} {d : D} {w w0 l x : List Nat} {c : Nat} {gs : List Pg} {es : List Ed} {fs : List Pt} {ms ws : Pt} {RS : List Pt}
theorem str_inj {a b : List Pt} (h : a.map (List.map D.str) = b.map (List.map D.str)) : a = b := by
  have e : ∀ z : List Pt, (z.map (List.map D.str)).map (List.map strO) = z := fun z => by
    rw [List.map_map]
    conv => rhs; rw [← List.map_id z]
    refine List.map_congr_left fun row _ => ?_
    show (row.map D.str).map strO = row
    rw [List.map_map]
    conv => rhs; rw [← List.map_id row]
    exact List.map_congr_left fun w _ => rfl
  rw [← e a, h, e b]
/-- what is asked of a listing and of rows -/
structure Good (gs : List Pg) (es : List Ed) (RS : List Pt) (most : Option Nat) : Prop where
  nd : (gs.map Pg.form).Nodup
  gl : gs.length ≤ 100
  el : es.length ≤ 30
  hP : ∀ g ∈ gs, PgB g
  rl : RS.length ≤ 100
  rw_ : ∀ row ∈ RS, row.length ≤ 10 ∧ ∀ w ∈ row, SWok w
  hm : ∀ m, most = some m → m ≤ 100000
theorem flat_len {n : Nat} : ∀ {RS : List Pt}, (∀ x ∈ RS, x.length ≤ n) → RS.flatten.length ≤ RS.length * n
  | [], _ => Nat.zero_le _
  | x :: r, h => by
    have := flat_len fun y hy => h y (List.mem_cons_of_mem _ hy)
    have := h x List.mem_cons_self
    rw [List.flatten_cons, List.length_append, List.length_cons, Nat.succ_mul]
    omega
theorem searchG {o : Or} {back : Bool} {most : Option Nat} (h : St S C0 C L) (a : At L li (Li fs gs es)) (ht : At L T0 (.tb "search" "search.<locals>.<lambda>")) (G : Good gs es RS most) (k : ∀ C', St S C0 C' L → Q (pD (foundF gs es RS o.le back most)) C') : D_search [.ptr li, .tup (RS.map pD), .str o.nm, .bl back, mostD most] C Q E := by
  have e1 : RS.map pD = (RS.map (List.map D.str)).map D.tup := by rw [List.map_map]; rfl
  have fl := flat_len fun x hx => (G.rw_ x hx).1
  have f2 : RS.length * 10 ≤ 100 * 10 := Nat.mul_le_mul_right _ G.rl
  have ef : (RS.map (List.map D.str)).flatten.length = RS.flatten.length := by
    rw [← List.map_flatten, List.length_map]
  have f3 : gs.length * RS.flatten.length ≤ 100 * 1000 := Nat.mul_le_mul G.gl (by omega)
  have nb : badO (RS.map (List.map D.str)) = [] := by
    unfold badO
    refine List.filter_eq_nil_iff.mpr fun w hw => ?_
    obtain ⟨row, hr, hm⟩ := List.mem_flatten.mp hw
    obtain ⟨row0, h0, rfl⟩ := List.mem_map.mp hr
    obtain ⟨l, hl, rfl⟩ := List.mem_map.mp hm
    show ¬ (!swP l) = true
    rw [((G.rw_ row0 h0).2 l hl).1]
    decide
  rw [e1]
  refine search_ h a ht (by have := G.gl; omega) (by have := G.el; omega) G.hP (by rw [ef]; omega) (by rw [List.length_map, sizeLine_eq]; have := G.rl; omega) (fun row hr w hw => ?_) ⟨_, .str _⟩ G.hm (fun w rest C e => ?_) (fun C e1 e2 => ?_) fun RS' le C e1 e2 e3 h => ?_
  · obtain ⟨row0, h0, rfl⟩ := List.mem_map.mp hr
    obtain ⟨l, hl, rfl⟩ := List.mem_map.mp hw
    exact ⟨⟨_, .str l⟩, fun l' e => by cases e; exact ((G.rw_ row0 h0).2 l hl).2⟩
  · rw [nb] at e; cases e
  · rw [ordO_nm] at e2; cases e2
  · rw [ordO_nm] at e3
    obtain rfl := Option.some.inj e3
    rw [← str_inj e2]
    exact k C h
theorem searched1 {ED : DEnds} {o : Or} {back : Bool} {most : Option Nat} (h : St S C0 C ((p, s.c, true) :: L)) (a : At L li (Li fs gs es)) (ht : At L T0 (.tb "search" "search.<locals>.<lambda>")) (G : Good gs es RS most) (k : ∀ C', St S C0 C' ((p, s.c, true) :: L) → ED.rt (pD (foundF gs es RS o.le back most)) C') : r__law_searched_1 ED [some (.ptr p), some (.ptr li), some (.tup (RS.map pD)), some (.str o.nm), some (.bl back), some (mostD most)] C := by
  unfold r__law_searched_1
  try simp only [dRet_p, dCallX_p, List.append_nil, dCons_p, dNil_p, dVar_p, List.getElem?_cons_succ, List.getElem?_cons_zero, Option.some.injEq, exists_eq_left']
  exact searchG h (.there a) (.there ht) G k
theorem searched2 {ED : DEnds} {o : Or} {back : Bool} {most : Option Nat} (h : St S C0 C ((p, s.c, true) :: L)) (a : At L li (Li fs gs es)) (ht : At L T0 (.tb "search" "search.<locals>.<lambda>")) (G : Good gs es RS most) (k : ∀ C', St S C0 C' ((p, s.c, true) :: L) → ED.rt (pD (foundF gs es RS o.le back most)) C') : r__law_searched_2 ED [some (.ptr p), some (.ptr li), some (.tup (RS.map pD)), some (.str o.nm), some (.bl back), some (mostD most)] C := by
  unfold r__law_searched_2
  try simp only [dSeq_p, dIf_p, dRet_p, dCallW_p, pickS_p, pickS_d, List.getElem?_cons_zero, Option.toList_some, pickS_k, pickS_nil, List.append_nil, List.cons_append, List.nil_append, dCons_p, List.length, List.getElem?_cons_succ, dNil_p, Nat.reduceAdd, true_and, dVar_p, Option.some.injEq, exists_eq_left', dNext_p, dTest_p, dOp_p, dC_p, eqR_ss, Bool.false_eq_true, if_false, D.bl.injEq, beq_iff_eq]
  cases o with
  | a =>
    rw [if_pos (by rfl)]
    exact searchG (o := .a) h (.there a) (.there ht) G k
  | t =>
    rw [if_neg (by decide)]
    exact searched1 (o := .t) h a ht G k
  | m =>
    rw [if_neg (by decide)]
    exact searched1 (o := .m) h a ht G k
theorem searched3 {ED : DEnds} {o : Or} {back : Bool} {most : Option Nat} (h : St S C0 C ((p, s.c, true) :: L)) (a : At L li (Li fs gs es)) (ht : At L T0 (.tb "search" "search.<locals>.<lambda>")) (G : Good gs es RS most) (k : ∀ C', St S C0 C' ((p, s.c, true) :: L) → ED.rt (pD (foundF gs es RS o.le back most)) C') : r__law_searched_3 ED [some (.ptr p), some (.ptr li), some (.tup (RS.map pD)), some (.str o.nm), some (.bl back), some (mostD most)] C := by
  unfold r__law_searched_3
  try simp only [dSeq_p, dIf_p, dRet_p, dCallW_p, pickS_p, pickS_k, pickS_d, List.getElem?_cons_succ, List.getElem?_cons_zero, Option.toList_some, pickS_nil, List.append_nil, List.cons_append, List.nil_append, dCons_p, List.length, dNil_p, Nat.reduceAdd, true_and, dVar_p, Option.some.injEq, exists_eq_left', dNext_p, dAnd_p, dTest_p, dOp_p, isNR_p, Bool.not_false, D.bl.injEq, dC_p, Bool.false_eq_true, if_false, dNot_p, dTru_p, truD_b_p, exists_eq_left]
  cases back with
  | true =>
    rw [if_neg (by decide)]
    exact searched2 h a ht G k
  | false =>
    rw [if_pos (by rfl)]
    cases most with
    | none =>
      rw [if_pos (by rfl)]
      exact searchG (most := none) h (.there a) (.there ht) G k
    | some m =>
      rw [if_neg (by simp [mostD])]
      exact searched2 h a ht G k
theorem searched {o : Or} {back : Bool} {most : Option Nat} (h : St S C0 C L) (d : Del L p s.c true L1) (a : At L1 li (Li fs gs es)) (ht : At L1 T0 (.tb "search" "search.<locals>.<lambda>")) (G : Good gs es RS most) (k : ∀ (s' : PS) C', St S C0 C' ((p, s'.c, true) :: L1) → Q (pD (foundF gs es RS o.le back most)) C') : D__law_searched [.ptr p, .ptr li, .tup (RS.map pD), .str o.nm, .bl back, mostD most] C Q E := by
  have h := h.front d
  unfold D__law_searched runD r__law_searched
  try simp only [List.length, Nat.reduceAdd, List.map, Nat.reduceSub, List.replicate, List.append_nil, dSeq_p, dIf_p, dRet_p, dCallX_p, dCons_p, List.cons_append, dNil_p, List.nil_append, dVar_p, List.getElem?_cons_succ, List.getElem?_cons_zero, Option.some.injEq, exists_eq_left', dNext_p, dAnd_p, dTest_p, dOp_p, dC_p, dCall_p, Bool.false_eq_true, if_false, isNR_p, Bool.not_false, D.bl.injEq, true_and, dNot_p, dTru_p, truD_b_p, exists_eq_left, eqR_ss, beq_iff_eq]
  have t3 : ∀ (s' : PS) C, St S C0 C ((p, s'.c, true) :: L1) → r__law_searched_3 { nx := fun x C' => ∃ C'', KB.Sub C'' C' ∧ Q D.non C'', rt := fun d C' => ∃ C'', KB.Sub C'' C' ∧ Q d C'' } [some (.ptr p), some (.ptr li), some (.tup (RS.map pD)), some (.str o.nm), some (.bl back), some (mostD most)] C := fun s' C h => searched3 h a ht G fun C h => ret_k (k s' C h)
  by_cases c : o.nm = [97, 100, 100, 114, 101, 115, 115]
  · rw [if_pos c]
    cases back with
    | true =>
      rw [if_neg (by decide)]
      exact t3 s C h
    | false =>
      rw [if_pos (by rfl)]
      cases most with
      | some m =>
        rw [if_neg (by simp [mostD])]
        exact t3 s C h
      | none =>
        rw [if_pos (by rfl)]
        refine take h .here (by decide) (by decide) fun t s1 C ht0 h => ?_
        rw [eqR_ii]
        refine ⟨((t : Int) == 0), rfl, ?_⟩
        cases ((t : Int) == 0) with
        | true =>
          rw [if_pos rfl, ← c]
          exact searchG (o := o) (back := false) (most := none) (Q := fun d C' => ∃ C'', KB.Sub C'' C' ∧ Q d C'') h (.there a) (.there ht) G fun C h => ret_k (k s1 C h)
        | false =>
          rw [if_neg (by decide)]
          exact t3 s1 C h
  · rw [if_neg c]
    exact t3 s C h
end K47
namespace K47
open PySem PySem.Spec PyProof.Rows KB
open L2 hiding op_eqD op_neD call_listD
variable {S : Addr → Prop} {C0 C : Cp} {L L0 L1 L2 : List Ent} {p q r rq li T0 wq mq : Addr} {s : PS} {Q : DQ} {E : Exn → Cp → Prop} {ED : DEnds} {d : D} {w w0 l x : List Nat} {c : Nat} {gs : List Pg} {es : List Ed} {fs : List Pt} {ms ws : Pt} {RS : List Pt}
/-- a listing of the law -/
structure Lg (gs : List Pg) (es : List Ed) (fs : List Pt) (ms ws : Pt) : Prop where
  nd : (gs.map Pg.form).Nodup
  gp : 0 < gs.length
  gl : gs.length ≤ 100
  el : es.length ≤ 30
  hP : ∀ g ∈ gs, PgB g
  hN : ∀ g ∈ gs, NB g.form ∧ g.form.length ≤ 1000 ∧ ∀ t, g.cal = some t → NB t ∧ t.length ≤ 1000
  ff : ∀ f ∈ fs, f.length ≤ 100 ∧ ∀ w ∈ f, Wk w
  fl : fs.length ≤ 100
  mw : ∀ m ∈ ms, Wk m
  ml : ms.length = 5
  ww : ∀ m ∈ ws, Wk m
  wl : ws.length = 8
theorem law1 {x0 x1 x4 x5 x9 x11 x12 x13 x14 x15 x16 x17 x18 : Option D} (h : St S C0 C ((p, s.c, true) :: (rq, .lst (RS.map pD), true) :: L)) (aw : At L wq (.lst (ws.map D.str))) (am : At L mq (.lst (ms.map D.str))) (G : Lg gs es fs ms ws) (rl : RS.length ≤ 50) (hR : ∀ row ∈ RS, row.length ≤ 10 ∧ ∀ w ∈ row, SWok w)
    (k : ∀ row (s' : PS) x15 C', (row.length ≤ 10 ∧ ∀ w ∈ row, SWok w) → St S C0 C' ((p, s'.c, true) :: (rq, .lst ((RS ++ [row]).map pD), true) :: L) → ED.nx [x0, x1, some (.ptr p), some (.tup (gs.map pgD)), x4, x5, some (.ptr wq), some (.ptr mq), some (.tup (fs.map pD)), x9, some (.ptr rq), x11, x12, x13, x14, x15, x16, x17, x18] C') :
    l_law_1 ED [x0, x1, some (.ptr p), some (.tup (gs.map pgD)), x4, x5, some (.ptr wq), some (.ptr mq), some (.tup (fs.map pD)), x9, some (.ptr rq), x11, x12, x13, x14, x15, x16, x17, x18] C := by
  unfold l_law_1
  try simp only [dSeq_p, dAsg_p, gNm_p, List.set_cons_succ, List.set_cons_zero, dDrop_p, dBM_p, dCons_p, dNil_p, dCB_p, dVar_p, List.getElem?_cons_succ, List.getElem?_cons_zero, Option.some.injEq, exists_eq_left', dLc_e_p, dRng1_p, Int.reducePow, Int.reduceNeg, List.cons.injEq, and_true, dCall_p, List.append_nil, dC_p]
  refine take h .here (by decide) (by decide) fun t s1 C ht h => ?_
  refine ⟨_, rfl, by omega, by omega, ?_⟩
  try rw [Int.toNat_natCast]
  refine lc_pot (m := t) (P := SWok) (f := D.str) (fun _ => trivial) h (by omega) (fun i s' C hi h Q' k' => ?_) fun ys r s3 C hl hG h => ?_
  · try simp only [wipeD, List.foldr_cons, List.foldr_nil, List.set_cons_succ, List.set_cons_zero, dCall_p, List.append_nil, dCons_p, dNil_p, dVar_p, gNm_p, List.getElem?_cons_succ, List.getElem?_cons_zero, Option.some.injEq, exists_eq_left']
    refine search_word h .here (.there am) (.there aw) G.hN G.gp (by have := G.gl; omega) G.mw (by rw [G.ml]; decide) (by rw [G.ml]; decide) G.ww (by rw [G.wl]; decide) (by rw [G.wl]; decide) G.ff (by have := G.fl; omega) fun l s'' C hl _ h => ?_
    exact k' l s'' C hl h
  · refine ⟨ty_st h (.there (.there .here)), ?_⟩
    refine tup_st h .here ?_
    refine app_st (xs := RS.map pD) h (by rw [List.length_map, sizeLine_eq]; omega) (.there (.there .here)) fun C h => ?_
    refine k ys s3 _ C ⟨by omega, hG⟩ ?_
    rw [List.map_append]
    exact h.tail
theorem law_one {x0 x1 x5 x11 x12 x13 x14 x15 x16 x17 x18 : Option D} (h : St S C0 C ((p, s.c, true) :: (rq, .lst (RS.map pD), true) :: L)) (aL : At L li (Li fs gs es)) (ht : At L T0 (.tb "search" "search.<locals>.<lambda>")) (G : Lg gs es fs ms ws) (rl : RS.length ≤ 50) (hR : ∀ row ∈ RS, row.length ≤ 10 ∧ ∀ w ∈ row, SWok w)
    (k : ∀ (s' : PS) x12 x13 x14 x16 x17 C', St S C0 C' ((p, s'.c, true) :: L) → ED.nx [x0, x1, some (.ptr p), some (.tup (gs.map pgD)), some (.ptr li), x5, some (.ptr wq), some (.ptr mq), some (.tup (fs.map pD)), some (.tup (es.map edD)), some (.ptr rq), x11, x12, x13, x14, x15, x16, x17, x18] C') :
    r_law_1 ED [x0, x1, some (.ptr p), some (.tup (gs.map pgD)), some (.ptr li), x5, some (.ptr wq), some (.ptr mq), some (.tup (fs.map pD)), some (.tup (es.map edD)), some (.ptr rq), x11, x12, x13, x14, x15, x16, x17, x18] C := by
  unfold r_law_1
  try simp only [dSeq_p, dPar_p, List.set_cons_succ, List.set_cons_zero, dAsg_p, gNm_p, dIf_p, dRet_p, dC_p, dNext_p, dOr_p, if_true, dTest_p, dOp_p, dVar_p, List.getElem?_cons_succ, List.getElem?_cons_zero, Option.some.injEq, exists_eq_left', dNot_p, dTru_p, dCB_p, dCons_p, dNil_p, dCall_p, List.append_nil, dLst_e_p, List.length, Nat.reduceLeDiff, true_and, List.cons.injEq, and_true, ex2]
  refine alloc_st h fun z1 C h => ?_
  refine take h (by (repeat (first | exact KB.Del.here | assumption | apply KB.Del.there))) (by decide) (by decide) fun t1 s1 C ht1 h => ?_
  obtain ⟨o, eo⟩ : ∃ o : Or, atI [D.str [97, 100, 100, 114, 101, 115, 115], .str [116, 105, 116, 108, 101], .str [109, 97, 114, 107, 115]] (t1 : Int) = some (.str o.nm) := by
    match t1, ht1 with
    | 0, _ => exact ⟨.a, rfl⟩
    | 1, _ => exact ⟨.t, rfl⟩
    | 2, _ => exact ⟨.m, rfl⟩
    | t + 3, h => omega
  refine ix_st h (.there .here) eo ?_
  have h := h.snd
  refine take h .here (by decide) (by decide) fun t2 s2 C ht2 h => ?_
  try simp only [eqR_ii, Bool.false_eq_true, if_false]
  refine alloc_st h fun z2 C h => ?_
  refine take h (by (repeat (first | exact KB.Del.here | assumption | apply KB.Del.there))) (by decide) (by decide) fun t3 s3 C ht3 h => ?_
  obtain ⟨b, eb, b1, b2⟩ : ∃ b : Nat, atI [D.int 10, D.int 41] (t3 : Int) = some (.int (b : Int)) ∧ 0 < b ∧ b ≤ 41 := by
    match t3, ht3 with
    | 0, _ => exact ⟨10, rfl, by decide, by decide⟩
    | 1, _ => exact ⟨41, rfl, by decide, by decide⟩
    | t + 2, h => omega
  refine ix_st h (.there .here) eb ?_
  have h := h.snd
  refine take h .here (by omega) (by omega) fun t4 s4 C ht4 h => ?_
  refine alloc_st h fun z3 C h => ?_
  refine take h (by (repeat (first | exact KB.Del.here | assumption | apply KB.Del.there))) (by decide) (by decide) fun t5 s5 C ht5 h => ?_
  obtain ⟨most, em, hm⟩ : ∃ most : Option Nat, atI [D.non, D.int (t4 : Int)] (t5 : Int) = some (mostD most) ∧ ∀ m, most = some m → m ≤ 100000 := by
    match t5, ht5 with
    | 0, _ => exact ⟨none, rfl, nofun⟩
    | 1, _ => exact ⟨some t4, rfl, fun m e => by cases e; omega⟩
    | t + 2, h => omega
  refine ix_st h (.there .here) em ?_
  have h := h.snd
  refine tup_st h (.there .here) ?_
  have GG : Good gs es RS most := ⟨G.nd, G.gl, G.el, G.hP, by omega, hR, hm⟩
  generalize ((t2 : Int) == 1) = back
  refine searched h .here (.there aL) (.there ht) GG fun s6 C h => ?_
  refine due (o := o) h (.there .here) G.nd G.el (by have := G.gl; omega) G.hP (by omega) (fun row hr => ⟨by have := (hR row hr).1; omega, (hR row hr).2⟩) hm fun C h => ?_
  have nx := k s6 (some (mostD most)) (some (pD (foundF gs es RS o.le back most))) (some (pD (foundF gs es RS o.le back most))) (some (.str o.nm)) (some (.bl back)) C h.snd
  generalize foundF gs es RS o.le back most = f at nx ⊢
  refine isTp (b := true) (by kernel_rfl) ⟨true, rfl, ?_⟩
  rw [if_neg (by decide)]
  refine ⟨⟨npt_pD f, ?_⟩, npt_pD f, _, rfl, ?_⟩
  · rw [dep_pD]
    decide
  · rw [if_neg (by rw [eqD_pD]; simp)]
    exact nx
end K47
namespace K47
open PySem PySem.Spec PyProof.Rows KB
open L2 hiding op_eqD op_neD call_listD
variable {S : Addr → Prop} {C0 C : Cp} {L L0 L1 L2 : List Ent} {p q r rq li T0 wq mq : Addr} {s : PS} {Q : DQ} {E : Exn → Cp → Prop} {ED : DEnds} {d : D} {w w0 l x : List Nat} {c : Nat} {gs : List Pg} {es : List Ed} {fs : List Pt} {ms ws : Pt} {RS : List Pt}
theorem law2 {x0 x1 x5 x10 x11 x12 x13 x14 x15 x16 x17 x18 : Option D} (h : St S C0 C ((p, s.c, true) :: L)) (aw : At L wq (.lst (ws.map D.str))) (am : At L mq (.lst (ms.map D.str))) (aL : At L li (Li fs gs es)) (ht : At L T0 (.tb "search" "search.<locals>.<lambda>")) (G : Lg gs es fs ms ws)
    (k : ∀ (s' : PS) x10 x11 x12 x13 x14 x15 x16 x17 C', St S C0 C' ((p, s'.c, true) :: L) → ED.nx [x0, x1, some (.ptr p), some (.tup (gs.map pgD)), some (.ptr li), x5, some (.ptr wq), some (.ptr mq), some (.tup (fs.map pD)), some (.tup (es.map edD)), x10, x11, x12, x13, x14, x15, x16, x17, x18] C') :
    l_law_2 ED [x0, x1, some (.ptr p), some (.tup (gs.map pgD)), some (.ptr li), x5, some (.ptr wq), some (.ptr mq), some (.tup (fs.map pD)), some (.tup (es.map edD)), x10, x11, x12, x13, x14, x15, x16, x17, x18] C := by
  unfold l_law_2
  try simp only [dSeq_p, dAsg_p, gNm_p, List.set_cons_succ, List.set_cons_zero, dFor_e_p, dRng1_p, Int.reducePow, Int.reduceNeg, dCons_p, List.cons.injEq, dNil_p, and_true, dCall_p, List.append_nil, dC_p, dVar_p, List.getElem?_cons_succ, List.getElem?_cons_zero, Option.some.injEq, exists_eq_left', dLst_e_p, List.length, Nat.reduceLeDiff, true_and]
  refine alloc_st h fun rq C h => ?_
  refine take h (by (repeat (first | exact KB.Del.here | assumption | apply KB.Del.there))) (by decide) (by decide) fun t s1 C ht0 h => ?_
  refine ⟨_, rfl, by omega, by omega, ?_⟩
  try rw [Int.toNat_natCast]
  refine forR_st t (fun i sl C => ∃ (x11 x15 : Option D) (s' : PS) (RS : List Pt), sl = [x0, x1, some (.ptr p), some (.tup (gs.map pgD)), some (.ptr li), x5, some (.ptr wq), some (.ptr mq), some (.tup (fs.map pD)), some (.tup (es.map edD)), some (.ptr rq), x11, x12, x13, x14, x15, x16, x17, x18] ∧ RS.length = i ∧ (∀ row ∈ RS, row.length ≤ 10 ∧ ∀ w ∈ row, SWok w) ∧ St S C0 C ((p, s'.c, true) :: (rq, .lst (RS.map pD), true) :: L)) ⟨_, _, s1, [], rfl, rfl, (fun x hx => nomatch hx), h⟩ (fun _ => trivial) (fun i sl C hi hI => ?_) fun sl C hI => ?_
  · obtain ⟨x11, x15, s', RS, rfl, el, hR, h⟩ := hI
    try simp only [gNm_p, List.set_cons_succ, List.set_cons_zero]
    refine law1 h aw am G (by omega) hR fun row s2 x15 C hr h => ?_
    refine ⟨C, Sub.refl C, _, _, s2, _, rfl, by rw [List.length_append, el]; rfl, fun x hx => ?_, h⟩
    rcases List.mem_append.mp hx with m | m
    · exact hR x m
    · rw [List.mem_singleton.mp m]; exact hr
  · obtain ⟨x11, x15, s', RS, rfl, el, hR, h⟩ := hI
    show r_law_1 ED _ C
    exact law_one h aL ht G (by omega) hR fun s' x12 x13 x14 x16 x17 C h => k s' _ _ _ _ _ _ _ _ C h
theorem listing_init (h : St S C0 C ((q, .ins "Listing" [], true) :: L)) (k : ∀ C', St S C0 C' ((q, Li fs gs es, true) :: L) → Q .non C') : D_Listing____init__ [.ptr q, .tup (fs.map pD), .tup (gs.map pgD), .tup (es.map edD)] C Q E := by
  unfold D_Listing____init__ runD r_Listing____init__
  try simp only [List.length, Nat.reduceAdd, List.map, Nat.reduceSub, List.replicate, List.append_nil, dSeq_p, dSetF_e, dVar_p, List.getElem?_cons_zero, Option.some.injEq, exists_eq_left', List.getElem?_cons_succ, true_and]
  refine setF_st h (by repeat (first | exact Nat.zero_lt_succ _ | apply putFd_lt)) .here fun C h => ?_
  refine setF_st h (by repeat (first | exact Nat.zero_lt_succ _ | apply putFd_lt)) .here fun C h => ?_
  refine setF_st h (by repeat (first | exact Nat.zero_lt_succ _ | apply putFd_lt)) .here fun C h => ?_
  exact ret_k (k C h)
theorem law_two {x0 x1 x4 x5 x10 x11 x12 x13 x14 x15 x16 x17 x18 : Option D} (h : St S C0 C ((p, s.c, true) :: L)) (aw : At L wq (.lst (ws.map D.str))) (am : At L mq (.lst (ms.map D.str))) (ht : At L T0 (.tb "search" "search.<locals>.<lambda>")) (G : Lg gs es fs ms ws)
    (k : ∀ (s' : PS) x4 x5 x10 x11 x12 x13 x14 x15 x16 x17 C', St S C0 C' ((p, s'.c, true) :: L) → ED.nx [x0, x1, some (.ptr p), some (.tup (gs.map pgD)), x4, x5, some (.ptr wq), some (.ptr mq), some (.tup (fs.map pD)), some (.tup (es.map edD)), x10, x11, x12, x13, x14, x15, x16, x17, x18] C') :
    r_law_2 ED [x0, x1, some (.ptr p), some (.tup (gs.map pgD)), x4, x5, some (.ptr wq), some (.ptr mq), some (.tup (fs.map pD)), some (.tup (es.map edD)), x10, x11, x12, x13, x14, x15, x16, x17, x18] C := by
  unfold r_law_2
  try simp only [dSeq_p, dAsg_p, gNm_p, List.set_cons_succ, List.set_cons_zero, dFor_e_p, dRng1_p, Int.reducePow, Int.reduceNeg, dCons_p, List.cons.injEq, dNil_p, and_true, dC_p, D.int.injEq, exists_eq_left', Int.reduceToNat, dMake_e, List.append_nil, dVar_p, List.getElem?_cons_succ, List.getElem?_cons_zero, Option.some.injEq]
  refine alloc_st h fun li C h => ?_
  refine listing_init h fun C h => ⟨rfl, ?_⟩
  have h := h.swap
  refine ⟨by decide, by decide, ?_⟩
  refine forR_st 3 (fun i sl C => ∃ (x5 x10 x11 x12 x13 x14 x15 x16 x17 : Option D) (s' : PS), sl = [x0, x1, some (.ptr p), some (.tup (gs.map pgD)), some (.ptr li), x5, some (.ptr wq), some (.ptr mq), some (.tup (fs.map pD)), some (.tup (es.map edD)), x10, x11, x12, x13, x14, x15, x16, x17, x18] ∧ St S C0 C ((p, s'.c, true) :: (li, Li fs gs es, true) :: L)) ⟨_, _, _, _, _, _, _, _, _, s, rfl, h⟩ (fun _ => trivial) (fun i sl C hi hI => ?_) fun sl C hI => ?_
  · obtain ⟨x5, x10, x11, x12, x13, x14, x15, x16, x17, s', rfl, h⟩ := hI
    try simp only [gNm_p, List.set_cons_succ, List.set_cons_zero]
    refine law2 h (.there aw) (.there am) .here (.there ht) G fun s' x10 x11 x12 x13 x14 x15 x16 x17 C h => ?_
    exact ⟨C, Sub.refl C, _, _, _, _, _, _, _, _, _, s', rfl, h⟩
  · obtain ⟨x5, x10, x11, x12, x13, x14, x15, x16, x17, s', rfl, h⟩ := hI
    exact k s' _ _ _ _ _ _ _ _ _ _ C h.snd
theorem npt_pgD (g : Pg) : npt (pgD g) = true := by
  show (npt (.str g.form) && (npt (tlD g.cal) && (npts (g.marks.map D.str) && (npts (g.paths.map pD) && true)))) = true
  rw [(npts_strs g.marks).1, (okEqs_pDs g.paths).1]
  cases g.cal <;> rfl
theorem dep_pgD (g : Pg) : dep (pgD g) ≤ 4 := by
  have h1 := deps_of (ds := g.marks.map D.str) (n := 0) fun d hd => by
    obtain ⟨w, _, rfl⟩ := List.mem_map.mp hd
    exact Nat.le_refl _
  have h2 := deps_of (ds := g.paths.map pD) (n := 1) fun d hd => by
    obtain ⟨w, _, rfl⟩ := List.mem_map.mp hd
    rw [dep_pD]; exact Nat.le_refl _
  have h3 : dep (tlD g.cal) ≤ 0 := by cases g.cal <;> exact Nat.le_refl _
  have := deps_of (ds := [.str g.form, tlD g.cal, .tup (g.marks.map D.str), .tup (g.paths.map pD)]) (n := 2) fun d hd => by
    simp only [List.mem_cons, List.mem_nil_iff, or_false] at hd
    rcases hd with e | e | e | e <;> subst e
    · exact Nat.zero_le _
    · omega
    · unfold dep; omega
    · unfold dep; omega
  unfold pgD dep
  omega
theorem eq_none {C : Cp} {Q : DQ} (k : Q (.bl (decide (gs = []))) C) : eqR false (.tup (gs.map pgD)) (.tup []) C Q := by
  have o := okEqs_of (f := pgD) (n := 4) (by decide) npt_pgD dep_pgD gs
  have dp := deps_of (ds := gs.map pgD) (n := 4) fun d hd => by
    obtain ⟨g, _, rfl⟩ := List.mem_map.mp hd
    exact dep_pgD g
  rw [eqR_tt]
  refine ⟨⟨o.1, by unfold dep; omega⟩, rfl, ?_⟩
  have e : eqD (.tup (gs.map pgD)) (.tup []) = decide (gs = []) := by
    cases gs with
    | nil => rfl
    | cons a r => rfl
  rw [if_neg (by decide), e]
  exact k
def pg0 : Pg := ⟨[108, 101, 97, 102, 58, 47, 47, 97], none, [], [[]]⟩
theorem law_go {ns : List Int} {c : Cell} {j : Nat} {x2 x3 x4 x5 x6 x7 x8 x9 x10 x11 x12 x13 x14 x15 x16 x17 x18 : Option D} (h : St S C0 C L) (a : At L q c) (hc : c = .lst (ns.map D.int) ∨ c = .fz (ns.map D.int)) (hl : ns.length ≤ 63) (hj : j < 64) (ht : At L T0 (.tb "search" "search.<locals>.<lambda>"))
    (k : ∀ x1 x2 x3 x4 x5 x6 x7 x8 x9 x10 x11 x12 x13 x14 x15 x16 x17 x18 C', St S C0 C' L → ED.nx [some (.ptr q), x1, x2, x3, x4, x5, x6, x7, x8, x9, x10, x11, x12, x13, x14, x15, x16, x17, x18] C') : l_law_3 ED [some (.ptr q), some (.int j), x2, x3, x4, x5, x6, x7, x8, x9, x10, x11, x12, x13, x14, x15, x16, x17, x18] C := by
  unfold l_law_3
  try simp only [dSeq_p, dAsg_p, gNm_p, List.set_cons_succ, List.set_cons_zero, gTp_p, gCn_p, gNl_p, dIf_p, dTup_p, dCons_p, List.length, Nat.reduceLeDiff, dNil_p, true_and, dC_p, dNext_p, dTest_p, dOp_p, dVar_p, dCall_p, List.append_nil, dLst_e_p, D.tup.injEq, exists_eq_left', List.cons.injEq, ex2, Nat.reduceAdd, List.getElem?_cons_succ, List.getElem?_cons_zero, Option.some.injEq]
  refine pot h a hc hl hj fun p s0 C h => ?_
  skip
  refine wordsK (n := 8) (by decide) h (by (repeat (first | exact KB.Del.here | assumption | apply KB.Del.there))) fun ws wq s1 C wl hw h => ?_
  refine wordsK (n := 5) (by decide) h (by (repeat (first | exact KB.Del.here | assumption | apply KB.Del.there))) fun ms mq s2 C ml hm h => ?_
  skip
  have h := h.swap
  have wne : ws ≠ [] := fun e => by rw [e] at wl; cases wl
  have mne : ms ≠ [] := fun e => by rw [e] at ml; cases ml
  refine law_folders (n := 6) h .here (.there .here) wne (by omega) hw (by decide) fun fs s3 C ff h => ?_
  skip
  refine law_pairs (n := 5) h .here .here mne (by omega) (by decide) fun es s4 C ee h => ?_
  skip
  refine alloc_st h fun z C h => ?_
  refine take h (by (repeat (first | exact KB.Del.here | assumption | apply KB.Del.there))) (by decide) (by decide) fun t s5 C ht0 h => ?_
  try simp only [fdivD_ii_p]
  obtain ⟨b, eb, b2⟩ : ∃ b : Nat, atI [D.int 8, D.int 30] ((t : Int) / 7) = some (.int (b : Int)) ∧ b ≤ 30 := by
    rcases Nat.lt_or_ge t 7 with g | g
    · rw [show (t : Int) / 7 = 0 by omega]
      exact ⟨8, rfl, by decide⟩
    · rw [show (t : Int) / 7 = 1 by omega]
      exact ⟨30, rfl, by decide⟩
  refine ⟨CDivW_small (by omega), ?_⟩
  refine ix_st h (.there .here) eb ?_
  have h := h.snd
  have f40 := ff.len
  refine law_pages (n := b) h .here (.there .here) wne (by omega) hw .here mne (by omega) (by omega) (fun w hw => by have := (ff.each w hw).1; omega) (by omega) fun gs s6 C gg h => ?_
  have fL : ∀ f ∈ fs, f.length ≤ 100 ∧ ∀ w ∈ f, Wk w := fun f hf => ⟨by have := (ff.each f hf).1; omega, (ff.each f hf).2⟩
  have e5 := ee.len
  have fin : ∀ gs2 : List Pg, Lg gs2 es fs ms ws → r_law_2 ED [some (.ptr q), some (.int j), some (.ptr p), some (.tup (gs2.map pgD)), x4, x5, some (.ptr wq), some (.ptr mq), some (.tup (fs.map pD)), some (.tup (es.map edD)), x10, x11, x12, x13, x14, x15, x16, x17, x18] C := fun gs2 G =>
    law_two h (.there .here) .here (.there (.there ht)) G fun s' x4 x5 x10 x11 x12 x13 x14 x15 x16 x17 C h => k _ _ _ _ _ _ _ _ _ _ _ _ _ _ _ _ _ _ C h.tail.tail.tail
  refine eq_none ⟨_, rfl, ?_⟩
  by_cases c : gs = []
  · rw [if_pos (decide_eq_true c)]
    refine fin [pg0] ⟨by simp, by decide, by decide, by omega, fun g hg => ?_, fun g hg => ?_, fL, by omega, hm, ml, hw, wl⟩
    · rw [List.mem_singleton.mp hg]
      exact ⟨by decide, nofun, by decide, by decide, by decide⟩
    · rw [List.mem_singleton.mp hg]
      exact ⟨⟨108, by decide, by decide⟩, by decide, nofun⟩
  · rw [if_neg (by rw [decide_eq_false c]; decide)]
    refine fin gs ⟨gg.lt.imp fun h e => by rw [e] at h; exact absurd h (List.lt_irrefl _), List.length_pos_iff.mpr c, by have := gg.len; omega, by omega, fun g hg => (gg.each g hg).bd, fun g hg => ?_, fL, by omega, hm, ml, hw, wl⟩
    have z := gg.each g hg
    exact ⟨z.nf.1, by have := z.nf.2; omega, fun t e => ⟨(z.nc t e).1, by have := (z.nc t e).2; omega⟩⟩
def TT (P0 : Addr) : Tbs := [(P0, "search", "search.<locals>.<lambda>")]
theorem law_true (a : Addr) (tbs : Tbs) (ns : List Int) (c : Cell) (hN : tbs.map (·.2) = ([("search", "search.<locals>.<lambda>")] : List (Str × Str))) (hD : (tbs.map (·.1)).Nodup) (aP : a ∉ tbs.map (·.1)) (hl : ns.length ≤ 63) (hc : c = .lst (ns.map D.int) ∨ c = .fz (ns.map D.int)) : D_law [.ptr a] (up (tabC tbs) a c) (fun d _ => d = .bl true) fun _ _ => False := by
  obtain ⟨P0, rfl⟩ : ∃ P0, tbs = TT P0 := by
    match tbs, hN with
    | [(P0, x)], e =>
      cases e
      exact ⟨P0, rfl⟩
  have n2 : P0 ≠ a := fun e => aP (by subst e; exact List.mem_cons_self)
  have h : St (fun _ => False) (up (tabC (TT P0)) a c) (up (tabC (TT P0)) a c) [(a, c, false), (P0, .tb "search" "search.<locals>.<lambda>", false)] := by
    refine (St.init.add (c := .tb "search" "search.<locals>.<lambda>") (p := P0) ?_ (fun x hx => by cases hx) (fun e => by cases e)).add up_same (fun x hx => ?_) (fun e => by cases e)
    · rw [up_ne n2]
      unfold TT tabC
      exact up_same
    · rw [List.mem_singleton.mp hx]; exact n2
  generalize up (tabC (TT P0)) a c = C0 at h
  have il : ∀ C, St (fun _ => False) C0 C [(a, c, false), (P0, .tb "search" "search.<locals>.<lambda>", false)] → isL C a (ns.map D.int) := by
    intro C h
    rcases hc with e | e
    · subst e; exact .inl (h.get .here)
    · subst e; exact .inr (h.get .here)
  unfold D_law runD r_law
  try simp only [List.length, Nat.reduceAdd, List.map, Nat.reduceSub, List.replicate, List.cons_append, List.nil_append, dSeq_p, dFor_e_p, dRng1_p, Int.reducePow, Int.reduceNeg, dCons_p, List.cons.injEq, dNil_p, and_true, dCB_p, dVar_p, List.getElem?_cons_zero, Option.some.injEq, exists_eq_left', dC_p, true_and]
  refine len_l (il _ h) ?_
  try simp only [Int.reduceNeg, min_ii, max_ii, D.int.injEq, exists_eq_left']
  have et : ∀ n : Nat, ∃ t : Nat, t ≤ 3 ∧ (if (if (n : Int) < 3 then (n : Int) else 3) > 1 then (if (n : Int) < 3 then (n : Int) else 3) else 1) = (t : Int) := by
    intro n
    by_cases h1 : (n : Int) < 3
    · rw [if_pos h1]
      by_cases h2 : (n : Int) > 1
      · rw [if_pos h2]; exact ⟨n, by omega, rfl⟩
      · rw [if_neg h2]; exact ⟨1, by decide, rfl⟩
    · rw [if_neg h1, if_pos (by decide)]; exact ⟨3, by decide, rfl⟩
  obtain ⟨t, ht, et⟩ := et (ns.map D.int).length
  rw [et]
  try simp only [Int.reduceNeg, Int.toNat_natCast]
  refine ⟨by omega, by omega, ?_⟩
  refine forR_st t (fun i sl C => ∃ (x1 x2 x3 x4 x5 x6 x7 x8 x9 x10 x11 x12 x13 x14 x15 x16 x17 x18 : Option D), sl = [some (.ptr a), x1, x2, x3, x4, x5, x6, x7, x8, x9, x10, x11, x12, x13, x14, x15, x16, x17, x18] ∧ St (fun _ => False) C0 C [(a, c, false), (P0, .tb "search" "search.<locals>.<lambda>", false)]) ⟨_, _, _, _, _, _, _, _, _, _, _, _, _, _, _, _, _, _, rfl, h⟩ (fun _ => trivial) (fun i sl C hi hI => ?_) fun sl C hI => ?_
  · obtain ⟨x1, x2, x3, x4, x5, x6, x7, x8, x9, x10, x11, x12, x13, x14, x15, x16, x17, x18, rfl, h⟩ := hI
    try simp only [gNm_p, List.set_cons_succ, List.set_cons_zero]
    refine law_go h .here hc hl (by omega) (.there .here) fun x1 x2 x3 x4 x5 x6 x7 x8 x9 x10 x11 x12 x13 x14 x15 x16 x17 x18 C' h => ?_
    exact ⟨C', Sub.refl _, _, _, _, _, _, _, _, _, _, _, _, _, _, _, _, _, _, _, rfl, h⟩
  · obtain ⟨x1, x2, x3, x4, x5, x6, x7, x8, x9, x10, x11, x12, x13, x14, x15, x16, x17, x18, rfl, h⟩ := hI
    unfold r_law_3
    try simp only [dRet_p, dC_p, and_true]
    exact ⟨C, Sub.refl _⟩
end K47
open PySem PySem.W PyProof.Rows
set_option maxRecDepth 100000 in
set_option maxHeartbeats 0 in
theorem PySem.Challenge.cw_keptpages_k47_searched_by_own_reading_holds : PySem.Challenge.rw_keptpages_k47_searched_by_own_reading.Holds := by
  w_on; o_law; km_head; (case hw => w_witness2)
  k_fill
  refine KB.walk_kbTs (l := PySem.Challenge.rw_keptpages_k47_searched_by_own_reading) (m := 63) (nqs := ([("search", "search.<locals>.<lambda>")] : List (Str × Str))) (k := 16) (x := "_law_script") K47.law_true rfl (by decide) rfl ⟨rfl, by decide, by decide⟩ (fun w h Y => PySem.W.km_in_of Y) (fun w h Y => PySem.W.km_tabs_of Y) ?hNoLists ?F
  case hNoLists =>
    intro w
    kernel_rfl
  case F =>
    intro w mg fa h KX G hmg
    refine' K47.all_mk KX G hmg ?xn_NoWord ?x1_NoWord ?x2_NoWord ?x3_NoWord ?x4_NoWord ?x5_NoWord ?x6_NoWord ?x7_NoWord ?lx_NoWord ?rv_NoWord ?xs_NoWord ?xt_NoWord ?xk_NoWord ?no_NoWord_word ?xn_NoOrder ?x1_NoOrder ?x2_NoOrder ?x3_NoOrder ?x4_NoOrder ?x5_NoOrder ?x6_NoOrder ?x7_NoOrder ?lx_NoOrder ?rv_NoOrder ?xs_NoOrder ?xt_NoOrder ?xk_NoOrder ?no_NoOrder_order ?xn_KeptError ?x1_KeptError ?x2_KeptError ?x3_KeptError ?x4_KeptError ?x5_KeptError ?x6_KeptError ?x7_KeptError ?y1 ?y2 ?kr ?kg ?kf ?aC_Listing ?pg_Listing ?hd_Listing ?po_Listing ?sa_Listing ?kc_Listing ?aC_Sought ?pg_Sought ?hd_Sought ?po_Sought ?sa_Sought ?kc_Sought ?mk_Listing ?mk_Sought ?na_Listing_folders ?na_Listing_pages ?na_Listing_pairs ?na_Sought_bearers ?na_Sought_sought_in ?lmts_0 ?a1 ?l1 ?c1 ?k1 ?a2 ?l2 ?c2 ?k2 ?a3 ?l3 ?c3 ?k3 ?a4 ?l4 ?c4 ?k4 ?a5 ?l5 ?c5 ?k5 ?a6 ?l6 ?c6 ?k6 ?a7 ?i7 ?l7 ?c7 ?k7 ?a8 ?l8 ?c8 ?k8 ?a9 ?l9 ?c9 ?k9 ?a10 ?l10 ?c10 ?k10 ?a11 ?l11 ?c11 ?k11 ?a12 ?l12 ?c12 ?k12 ?a13 ?l13 ?c13 ?k13 ?a14 ?l14 ?c14 ?k14 ?a15 ?l15 ?c15 ?k15 ?a16 ?l16 ?c16 ?k16 ?a17 ?i17 ?l17 ?c17 ?k17 ?a18 ?l18 ?c18 ?k18 ?a19 ?l19 ?c19 ?k19 ?a20 ?l20 ?c20 ?k20 ?a21 ?l21 ?c21 ?k21 ?a22 ?l22 ?c22 ?k22 ?a23 ?i23 ?l23 ?c23 ?k23 ?a24 ?i24 ?l24 ?c24 ?k24 ?a25 ?l25 ?c25 ?k25 ?a26 ?i26 ?l26 ?c26 ?k26 ?a27 ?i27 ?l27 ?c27 ?k27 ?a28 ?l28 ?c28 ?k28 ?t28 ?a29 ?l29 ?c29 ?k29 ?a30 ?l30 ?c30 ?k30 ?a31 ?l31 ?c31 ?k31 ?a32 ?l32 ?c32 ?k32 ?a33 ?l33 ?c33 ?k33 ?a34 ?l34 ?c34 ?k34 ?a35 ?l35 ?c35 ?k35 ?a36 ?i36 ?l36 ?c36 ?k36 ?a37 ?i37 ?l37 ?c37 ?k37 ?z_abs ?z_all ?z_any ?z_dict ?z_int ?z_isinstance ?z_len ?z_list ?z_max ?z_min ?z_range ?z_sorted ?z_str ?z_tuple ?g_MOST_SIGNS ?g_WORD_SIGNS ?nd ?g_ORDERS ?u_ORDERS ?lit_ORDERS ?low_ORDERS ?lm3_0 ?lm1_0 ?lm2_0 ?lmnd
    (case xn_NoWord => k_is); (case x1_NoWord => kernel_rfl); (case x2_NoWord => k_is); (case x3_NoWord => k_is); (case x4_NoWord => k_is); (case x5_NoWord => k_is); (case x6_NoWord => k_is); (case x7_NoWord => k_is); (case lx_NoWord => k_is); (case rv_NoWord => decide +kernel); (case xs_NoWord => k_is); (case xt_NoWord => k_is); (case xk_NoWord => k_is); (case no_NoWord_word => k_is); (case xn_NoOrder => k_is); (case x1_NoOrder => kernel_rfl); (case x2_NoOrder => k_is); (case x3_NoOrder => k_is); (case x4_NoOrder => k_is); (case x5_NoOrder => k_is); (case x6_NoOrder => k_is); (case x7_NoOrder => k_is); (case lx_NoOrder => k_is); (case rv_NoOrder => decide +kernel); (case xs_NoOrder => k_is); (case xt_NoOrder => k_is); (case xk_NoOrder => k_is); (case no_NoOrder_order => k_is); (case xn_KeptError => k_is); (case x1_KeptError => kernel_rfl); (case x2_KeptError => k_is); (case x3_KeptError => k_is); (case x4_KeptError => k_is); (case x5_KeptError => k_is); (case x6_KeptError => k_is); (case x7_KeptError => k_is); (case y1 => k_is); (case y2 => k_is); (case kr => k_is); (case kg => k_is); (case kf => k_is); (case aC_Listing => k_is); (case pg_Listing => k_is); (case hd_Listing => k_is); (case po_Listing => k_is); (case sa_Listing => k_is); (case kc_Listing => k_is); (case aC_Sought => k_is); (case pg_Sought => k_is); (case hd_Sought => k_is); (case po_Sought => k_is); (case sa_Sought => k_is); (case kc_Sought => k_is); (case mk_Listing => k_is); (case mk_Sought => k_is); (case na_Listing_folders => k_is); (case na_Listing_pages => k_is); (case na_Listing_pairs => k_is); (case na_Sought_bearers => k_is); (case na_Sought_sought_in => k_is); (case lmts_0 => exact List.mem_cons_self); (case a1 => k_is); (case l1 => k_is); (case c1 => k_is); (case k1 => k_is); (case a2 => k_is); (case l2 => k_is); (case c2 => k_is); (case k2 => k_is); (case a3 => k_is); (case l3 => k_is); (case c3 => k_is); (case k3 => k_is); (case a4 => k_is); (case l4 => k_is); (case c4 => k_is); (case k4 => k_is); (case a5 => k_is); (case l5 => k_is); (case c5 => k_is); (case k5 => k_is); (case a6 => k_is); (case l6 => k_is); (case c6 => k_is); (case k6 => k_is); (case a7 => k_is); (case i7 => k_is); (case l7 => k_is); (case c7 => k_is); (case k7 => k_is); (case a8 => k_is); (case l8 => k_is); (case c8 => k_is); (case k8 => k_is); (case a9 => k_is); (case l9 => k_is); (case c9 => k_is); (case k9 => k_is); (case a10 => k_is); (case l10 => k_is); (case c10 => k_is); (case k10 => k_is); (case a11 => k_is); (case l11 => k_is); (case c11 => k_is); (case k11 => k_is); (case a12 => k_is); (case l12 => k_is); (case c12 => k_is); (case k12 => k_is); (case a13 => k_is); (case l13 => k_is); (case c13 => k_is); (case k13 => k_is); (case a14 => k_is); (case l14 => k_is); (case c14 => k_is); (case k14 => k_is); (case a15 => k_is); (case l15 => k_is); (case c15 => k_is); (case k15 => k_is); (case a16 => k_is); (case l16 => k_is); (case c16 => k_is); (case k16 => k_is); (case a17 => k_is); (case i17 => k_is); (case l17 => k_is); (case c17 => k_is); (case k17 => k_is); (case a18 => k_is); (case l18 => k_is); (case c18 => k_is); (case k18 => k_is); (case a19 => k_is); (case l19 => k_is); (case c19 => k_is); (case k19 => k_is); (case a20 => k_is); (case l20 => k_is); (case c20 => k_is); (case k20 => k_is); (case a21 => k_is); (case l21 => k_is); (case c21 => k_is); (case k21 => k_is); (case a22 => k_is); (case l22 => k_is); (case c22 => k_is); (case k22 => k_is); (case a23 => k_is); (case i23 => k_is); (case l23 => k_is); (case c23 => k_is); (case k23 => k_is); (case a24 => k_is); (case i24 => k_is); (case l24 => k_is); (case c24 => k_is); (case k24 => k_is); (case a25 => k_is); (case l25 => k_is); (case c25 => k_is); (case k25 => k_is); (case a26 => k_is); (case i26 => k_is); (case l26 => k_is); (case c26 => k_is); (case k26 => k_is); (case a27 => k_is); (case i27 => k_is); (case l27 => k_is); (case c27 => k_is); (case k27 => k_is); (case a28 => k_is); (case l28 => k_is); (case c28 => k_is); (case k28 => k_is); (case t28 => k_is); (case a29 => k_is); (case l29 => k_is); (case c29 => k_is); (case k29 => k_is); (case a30 => k_is); (case l30 => k_is); (case c30 => k_is); (case k30 => k_is); (case a31 => k_is); (case l31 => k_is); (case c31 => k_is); (case k31 => k_is); (case a32 => k_is); (case l32 => k_is); (case c32 => k_is); (case k32 => k_is); (case a33 => k_is); (case l33 => k_is); (case c33 => k_is); (case k33 => k_is); (case a34 => k_is); (case l34 => k_is); (case c34 => k_is); (case k34 => k_is); (case a35 => k_is); (case l35 => k_is); (case c35 => k_is); (case k35 => k_is); (case a36 => k_is); (case i36 => k_is); (case l36 => k_is); (case c36 => k_is); (case k36 => k_is); (case a37 => k_is); (case i37 => k_is); (case l37 => k_is); (case c37 => k_is); (case k37 => k_is); (case z_abs => k_is); (case z_all => k_is); (case z_any => k_is); (case z_dict => k_is); (case z_int => k_is); (case z_isinstance => k_is); (case z_len => k_is); (case z_list => k_is); (case z_max => k_is); (case z_min => k_is); (case z_range => k_is); (case z_sorted => k_is); (case z_str => k_is); (case z_tuple => k_is); (case g_MOST_SIGNS => k_is); (case g_WORD_SIGNS => k_is); (case nd => kernel_rfl); (case g_ORDERS => k_is); (case u_ORDERS => k_is); (case lit_ORDERS => k_keys); (case low_ORDERS => decide); (case lm3_0 => rfl); (case lm1_0 => kernel_rfl); (case lm2_0 => kernel_rfl); (case lmnd => kernel_rfl)
