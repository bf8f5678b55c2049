import PyProof.Rows.All
import Wide.All
import OpenK.AllK
import Wide.FinOn
import HandS.ForMost
import HandS.ForExc
import HandS.ExcCtx
import HandS.CallSlots
import HandS.TupAny
import HandS.TupMul
import HandS.SortInts
import HandS.Wide
import HandS.Flow
import HandS.TupLe
import HandS.Walk
import HandS.Deep
import HandS.IsInst
import HandS.Style
import KE.KSortedM
import KE.KDictKeyed
import KE.KDictWalk
import HandS.StrMore
import HandS.Conv
import HandS.ExcOwn
import HandS.More
import HandS.SetFor
import KE.DataFind
import KE.KIndexOf
import HandS.ClsMeth
import Lean
import HandS.Defaults
import HandS.Head0
import HandS.Head1
import HandS.Head2
import HandS.HeadEnd
import HandS.HeadHook1
import HandS.HeadHook2
import HandS.HeadNt
import HandS.HeadWalk
import HandS.ExcIs
import HandS.HotCalls
import HandS.ExcField
import HandS.ExcInit
import PyProof.ExcBaseAll.ValueError
import HandS.MakeKwOnly
import HandS.Iter
import KE.GoesMore
import HandS.IterVal
import HandS.OwnEq
import PyProof.ListMulRoad
import HandS.Remove
import KE.KCallOwn
import HandS.Text
import KE.KExcSuper
import HandS.Nested
import HandS.Strs
import KE.KDictDisplayH
import KE.KEqDict
import KE.DataCmp
import KE.DatumOrd
import HandS.DictComp
import KE.KOpsOwn
import HandS.GenList
import HandS.TupLen
import KE.KxField
import PyProof.StrBlock2
import HandS.LawCells
import HandS.FStr
import PySem.Challenge.RW_notedepth_k12_notes_lines
set_option Elab.async false
set_option linter.all false
set_option maxRecDepth 100000
set_option maxHeartbeats 4000000
namespace DL
open PySem PySem.Spec L2
inductive D where
  | non | bl (b : Bool) | int (i : Int) | str (s : Str)
  | tup (l : List D) | lst (l : List D) | dct (l : List (D × D)) | obj (c : Nat) (fs : List D) | scr (l : List Int) | typ (n : String) | cls (c : Nat)
  deriving Inhabited
def GT (K : PySem.W.Frag) (H : Hp) (a : Addr) (vs : List V) : Prop := (∃ o, H a = some (.frz o (.tup vs)) ∧ o.dict = none) ∨
  ∃ (o : Obj) (its : Array Value) (n : Nat), K.lookup a = some o ∧ o.cls = .type "tuple" ∧ o.dict = none ∧ o.data = .seq its n ∧ its.size ≤ sizeLine ∧ Vals vs its.toList
theorem GT.sq {K : PySem.W.Frag} {H : Hp} {a : Addr} {vs : List V} (h : GT K H a vs) : SqT K H a vs := by
  rcases h with ⟨o, h, _⟩ | ⟨o, its, n, h1, h2, _, h4, h5, h6⟩
  · exact .inl (.inr ⟨o, h⟩)
  · exact .inr ⟨o, its, n, h1, h2, h4, h5, h6⟩
theorem GT.mono {K : PySem.W.Frag} {H H' : Hp} {a : Addr} {vs : List V} (e : Same H H') (h : GT K H a vs) : GT K H' a vs := by
  rcases h with ⟨o, h, d⟩ | h
  · exact .inl ⟨o, e _ _ h, d⟩
  · exact .inr h
theorem GT.of {K : PySem.W.Frag} {H : Hp} {a : Addr} {vs : List V} {o : Obj} (h : H a = some (.frz o (.tup vs))) (d : o.dict = none) : GT K H a vs := .inl ⟨o, h, d⟩
section
variable {X : Cx}
abbrev tupO (us : List Value) : Obj := { cls := .type "tuple", data := .seq us.toArray }
theorem laidT {pp : List (Addr × Obj)} {σ : L2.St} {H : Hp} {s : Shared} {us : List Value} {xs : List V} {t' : Nat} (J : Inv X pp σ H s) (r : Vals xs us) (z : xs.length ≤ sizeLine) :
    Inv X pp σ (upd H s.heap.objs.size (.frz (tupO us) (.tup xs))) { s with heap := s.heap.push (tupO us), toks := t' } :=
  J.laid (t' := t') (fun b u e => Heap.get?_push_of_some _ e) (Nat.le_refl _) ⟨Heap.get?_push_size _ rfl, z, us, r, ⟨_, Heap.get?_push_size _ rfl, rfl, _, rfl⟩⟩
def NewT (H : Hp) (xs : List V) (Q : VK) : Prop := ∀ p o, H p = none → o.dict = none → Q (.ref p) (upd H p (.frz o (.tup xs)))
def tTupF (t : TA) : TE := fun σ H Q => t σ H fun xs H1 => xs.length ≤ sizeLine ∧ NewT H1 xs Q
theorem pe_tupF {es : List Expr} {pos : Pos} {x1 : Nat} {t : TA} (h : PA X es t) : PE X (.Tuple es x1 pos) (tTupF t) :=
  ⟨fun pp s σ H Q J hq => wpAny_Tuple_spliced (thn (h.run pos pp s σ H _ J hq) fun us s1 ⟨xs, H1, J1, r, z, q⟩ =>
    ⟨by rw [← r.length]; exact z, ⟨.ref s1.heap.objs.size, _, laidT (t' := s1.toks) J1 r z, rfl, q _ _ (J1.hok.fresh (Nat.le_refl _)) rfl⟩⟩)⟩
def rCatF (K : PySem.W.Frag) : R2 := fun x y H Q => ∃ a b xs ys, x = .ref a ∧ y = .ref b ∧ SqT K H a xs ∧ SqT K H b ys ∧ xs.length + ys.length ≤ sizeLine ∧
  (xs = [] → Q (.ref b) H) ∧ (xs ≠ [] → ys = [] → Q (.ref a) H) ∧ (xs ≠ [] → ys ≠ [] → NewT H (xs ++ ys) Q)
theorem op_catF : OpR X (binaryOp .Add) (rCatF X.K) := by
  intro pp s σ H x y v u Q J rx ry h
  obtain ⟨a, b, xs, ys, rfl, rfl, ha, hb, hz, q0, q1, q2⟩ := h
  cases rx
  cases ry
  obtain ⟨us, r1, p1, _⟩ := J.tuple ha
  obtain ⟨ws, r2, p2, _⟩ := J.tuple hb
  by_cases hx : xs = []
  · subst hx
    cases r1
    exact L2.cat_tup0 p1 p2 ⟨.ref b, H, J, rfl, q0 rfl⟩
  · refine HT.cat_tup p1 p2 (fun z => hx (r1.nil_iff.mp z)) (fun z => ⟨.ref a, H, J, rfl, q1 hx (r2.nil_iff.mp z)⟩) (fun z => ?_) (by rw [← r1.length, ← r2.length]; exact hz)
    exact ⟨.ref s.heap.objs.size, _, laidT (t' := s.toks) J (r1.append r2) (by rw [List.length_append]; exact hz), rfl, q2 hx (fun w => z (r2.nil_iff.mpr w)) _ _ (J.hok.fresh (Nat.le_refl _)) rfl⟩
def rSlF (K : PySem.W.Frag) : V → Option Int → Option Int → Hp → VK → Prop := fun x lo hi H Q => ∃ a xs, x = .ref a ∧ SqT K H a xs ∧
  (HT.sIx xs.length 0 lo = 0 ∧ HT.sIx xs.length xs.length hi = xs.length → Q (.ref a) H) ∧ (¬ (HT.sIx xs.length 0 lo = 0 ∧ HT.sIx xs.length xs.length hi = xs.length) → NewT H (cutV xs lo hi) Q)
theorem sl_tupF : SlR X (rSlF X.K) := by
  intro pp s σ H x v vl vu lo hi sl Q J rx hs pl pu h
  obtain ⟨a, xs, rfl, hx, q1, q2⟩ := h
  cases rx
  obtain ⟨us, r, ht, hz⟩ := J.tuple hx
  have hn : us.toArray.size = xs.length := by rw [List.size_toArray]; exact r.length.symm
  refine ⟨"tuple", _, PyProof.Rows.slot_tuple_getitem.lookup, ht.typeIs, ?_⟩
  by_cases hw : HT.sIx xs.length 0 lo = 0 ∧ HT.sIx xs.length xs.length hi = xs.length
  · exact L2.getItem_tuple_whole ht hs pl pu (by rw [hn]; exact hw) ⟨.ref a, H, J, rfl, q1 hw⟩
  · refine HT.getItem_tuple_cut ht hs pl pu (by rw [hn]; exact hw) ?_ (by rw [hn]; exact hz)
    rw [hn]
    exact ⟨.ref s.heap.objs.size, _, laidT (t' := s.toks) J ((r.drop (HT.sIx xs.length 0 lo)).take (HT.sIx xs.length xs.length hi - HT.sIx xs.length 0 lo)) (Nat.le_trans (cutV_length xs lo hi) hz), rfl, q2 hw _ _ (J.hok.fresh (Nat.le_refl _)) rfl⟩
def rTupF (K : PySem.W.Frag) : List V → Hp → VK → Prop := fun xs H Q => ∃ p ys, xs = [.ref p] ∧ ((SqL K H p ys ∧ NewT H ys Q) ∨ (SqT K H p ys ∧ Q (.ref p) H))
theorem call_tupF : CallR X (.type "tuple") (rTupF X.K) := by
  intro pp s σ H xs us Q J r h
  obtain ⟨p, ys, rfl, h⟩ := h
  obtain ⟨u, rfl, rx⟩ := vals1 r
  cases rx
  rcases h with ⟨hq, q⟩ | ⟨hq, q⟩
  · obtain ⟨its, r2, pl, hz⟩ := J.list hq
    have hn := r2.length
    refine call_tuple_list pl.isList (fun h' kp => ?_) (by simp only [List.size_toArray] <;> omega)
    have J1 : Inv X pp σ H { s with heap := h' } := J.kept (t' := s.toks) kp
    exact ⟨.ref h'.objs.size, _, laidT (t' := s.toks) J1 r2 hz, rfl, q _ _ (J1.hok.fresh (Nat.le_refl _)) rfl⟩
  · obtain ⟨its, r2, pl, hz⟩ := J.tuple hq
    exact call_tuple_same pl ⟨.ref p, H, J, rfl, q⟩
end
abbrev CT := Nat → Option (Addr × List Str)
def zipF : List Str → List V → List (Str × V)
  | n :: ns, v :: vs => (n, v) :: zipF ns vs
  | _, _ => []
structure Gm where
  P : Program
  w : World
  K : PySem.W.Frag
  mg : Str → Option Value
  base : Heap
  ct : CT
mutual
def kOf : D → Option NestedKey
  | .non => some .none
  | .int i => some (.num i)
  | .str s => some (.text s)
  | .tup l => (kOfs l).map .tup
  | _ => none
def kOfs : List D → Option (List NestedKey)
  | [] => some []
  | d :: ds => match kOf d, kOfs ds with
    | some x, some xs => some (x :: xs)
    | _, _ => none
end
def rawD (p : Addr) (o : Obj) : HO := .ext fun h => h.get? p = some o ∧ (p == sysModules) = false
structure DO (o : Obj) (es : List DictEntry) : Prop where
  ex : o.ExactDict
  dat : ∃ ep, o.data = .dict es.toArray ep
  lim : es.length ≤ 16000000
def HashK (w : World) (k : D) (h : Int) : Prop := ∃ nk, kOf k = some nk ∧ nk.depth ≤ 8 ∧ h = nk.hash w
def KN (l : List (D × D)) : Prop := (l.map fun q => kOf q.1).Nodup
mutual
def Rep (G : Gm) (H : Hp) : D → V → Prop
  | .non, v => v = .non
  | .bl b, v => v = .bl b
  | .int i, v => v = .int i
  | .str s, v => v = .str s
  | .typ n, v => v = .ty n
  | .cls c, v => ∃ C ns, G.ct c = some (C, ns) ∧ v = .ref C
  | .tup l, v => ∃ a vs, v = .ref a ∧ GT G.K H a vs ∧ RepL G H l vs
  | .lst l, v => ∃ a vs, v = .ref a ∧ H a = some (.lst vs) ∧ RepL G H l vs
  | .dct l, v => ∃ a o es, v = .ref a ∧ H a = some (rawD a o) ∧ DO o es ∧ RepE G H l es ∧ KN l
  | .obj c fs, v => ∃ a C ns dx vs, v = .ref a ∧ G.ct c = some (C, ns) ∧ H a = some (.ins C dx (zipF ns vs)) ∧ RepL G H fs vs
  | .scr l, v => ∃ a, v = .ref a ∧ SqL G.K H a (l.map V.int)
def RepL (G : Gm) (H : Hp) : List D → List V → Prop
  | [], vs => vs = []
  | d :: ds, vs => ∃ v vs', vs = v :: vs' ∧ Rep G H d v ∧ RepL G H ds vs'
def RepE (G : Gm) (H : Hp) : List (D × D) → List DictEntry → Prop
  | [], es => es = []
  | q :: l, es => ∃ e es', es = e :: es' ∧ RepQ G H q e ∧ RepE G H l es'
def RepQ (G : Gm) (H : Hp) : D × D → DictEntry → Prop
  | (k, x), e => HashK G.w k e.hash ∧ (∃ v, Rep G H k v ∧ RelV v e.key) ∧ ∃ u, Rep G H x u ∧ RelV u e.val
end
def D.isMut : D → Bool
  | .lst _ => true
  | .dct _ => true
  | .obj _ _ => true
  | _ => false
def OwnO (G : Gm) (F H : Hp) (p : Addr) : D → Prop
  | .lst l => ∃ vs, H p = some (.lst vs) ∧ RepL G F l vs
  | .obj c fs => ∃ C ns dx vs, G.ct c = some (C, ns) ∧ H p = some (.ins C dx (zipF ns vs)) ∧ RepL G F fs vs
  | .dct l => ∃ o es, H p = some (rawD p o) ∧ DO o es ∧ RepE G F l es ∧ KN l
  | _ => False
def Top (G : Gm) (F H : Hp) (d : D) (v : V) : Prop :=
  if d.isMut = true then ∃ p, v = .ref p ∧ OwnO G F H p d else Rep G F d v
section
variable {G : Gm} {F F' H H' : Hp}
mutual
theorem Rep.mono (e : Same H H') : ∀ (d : D) (v : V), Rep G H d v → Rep G H' d v
  | .non, _, h => h
  | .bl _, _, h => h
  | .int _, _, h => h
  | .str _, _, h => h
  | .typ _, _, h => h
  | .cls _, _, h => h
  | .dct l, v, h => by
    obtain ⟨a, o, es, rfl, h1, h0, h2, h3⟩ := h
    exact ⟨a, o, es, rfl, e _ _ h1, h0, RepE.mono e l es h2, h3⟩
  | .tup l, v, h => by
    obtain ⟨a, vs, rfl, h1, h2⟩ := h
    exact ⟨a, vs, rfl, h1.mono e, RepL.mono e l vs h2⟩
  | .lst l, v, h => by
    obtain ⟨a, vs, rfl, h1, h2⟩ := h
    exact ⟨a, vs, rfl, e _ _ h1, RepL.mono e l vs h2⟩
  | .obj c fs, v, h => by
    obtain ⟨a, C, ns, dx, vs, rfl, h1, h2, h3⟩ := h
    exact ⟨a, C, ns, dx, vs, rfl, h1, e _ _ h2, RepL.mono e fs vs h3⟩
  | .scr l, v, h => by
    obtain ⟨a, rfl, h1⟩ := h
    exact ⟨a, rfl, e.seq h1⟩
theorem RepL.mono (e : Same H H') : ∀ (ds : List D) (vs : List V), RepL G H ds vs → RepL G H' ds vs
  | [], _, h => h
  | d :: ds, vs, h => by
    obtain ⟨v, vs', rfl, h1, h2⟩ := h
    exact ⟨v, vs', rfl, Rep.mono e d v h1, RepL.mono e ds vs' h2⟩
theorem RepE.mono (e : Same H H') : ∀ (l : List (D × D)) (es : List DictEntry), RepE G H l es → RepE G H' l es
  | [], _, h => h
  | q :: l, es, h => by
    obtain ⟨x, es', rfl, h1, h2⟩ := h
    exact ⟨x, es', rfl, RepQ.mono e q x h1, RepE.mono e l es' h2⟩
theorem RepQ.mono (e : Same H H') : ∀ (q : D × D) (x : DictEntry), RepQ G H q x → RepQ G H' q x
  | (k, d), x, h => by
    obtain ⟨h1, ⟨v, h2, h3⟩, u, h4, h5⟩ := h
    exact ⟨h1, ⟨v, Rep.mono e k v h2, h3⟩, u, Rep.mono e d u h4, h5⟩
end
theorem RepL.length : ∀ {ds : List D} {vs : List V}, RepL G H ds vs → vs.length = ds.length
  | [], vs, h => by
    rw [show vs = [] from h]
    rfl
  | d :: ds, vs, h => by
    obtain ⟨v, vs', rfl, h1, h2⟩ := h
    rw [List.length_cons, List.length_cons, RepL.length h2]
theorem RepL.get : ∀ {ds : List D} {vs : List V} {i : Nat} {d : D}, RepL G H ds vs → ds[i]? = some d → ∃ v, vs[i]? = some v ∧ Rep G H d v
  | d :: ds, vs, 0, d', h, e => by
    obtain ⟨v, vs', rfl, h1, h2⟩ := h
    have e' : d = d' := Option.some.inj e
    subst e'
    exact ⟨v, rfl, h1⟩
  | d :: ds, vs, i + 1, d', h, e => by
    obtain ⟨v, vs', rfl, h1, h2⟩ := h
    exact RepL.get (i := i) h2 e
theorem RepL.getV : ∀ {ds : List D} {vs : List V} {i : Nat} {v : V}, RepL G H ds vs → vs[i]? = some v → ∃ d, ds[i]? = some d ∧ Rep G H d v
  | [], vs, i, v, h, e => by
    rw [show vs = [] from h] at e
    cases e
  | d :: ds, vs, 0, v, h, e => by
    obtain ⟨v', vs', rfl, h1, h2⟩ := h
    have e' : v' = v := Option.some.inj e
    subst e'
    exact ⟨d, rfl, h1⟩
  | d :: ds, vs, i + 1, v, h, e => by
    obtain ⟨v', vs', rfl, h1, h2⟩ := h
    exact RepL.getV (i := i) h2 e
theorem RepL.app : ∀ {ds es : List D} {vs ws : List V}, RepL G H ds vs → RepL G H es ws → RepL G H (ds ++ es) (vs ++ ws)
  | [], _, vs, _, h, h' => by
    rw [show vs = [] from h]
    exact h'
  | d :: ds, es, vs, ws, h, h' => by
    obtain ⟨v, vs', rfl, h1, h2⟩ := h
    exact ⟨v, vs' ++ ws, rfl, h1, RepL.app h2 h'⟩
theorem RepL.one {d : D} {v : V} (h : Rep G H d v) : RepL G H [d] [v] := ⟨v, [], rfl, h, rfl⟩
theorem RepL.drop : ∀ {ds : List D} {vs : List V} (n : Nat), RepL G H ds vs → RepL G H (ds.drop n) (vs.drop n)
  | _, _, 0, h => h
  | [], vs, n + 1, h => by
    rw [show vs = [] from h]
    rfl
  | d :: ds, vs, n + 1, h => by
    obtain ⟨v, vs', rfl, h1, h2⟩ := h
    exact RepL.drop n h2
theorem RepL.take : ∀ {ds : List D} {vs : List V} (n : Nat), RepL G H ds vs → RepL G H (ds.take n) (vs.take n)
  | _, _, 0, h => rfl
  | [], vs, n + 1, h => by
    rw [show vs = [] from h]
    rfl
  | d :: ds, vs, n + 1, h => by
    obtain ⟨v, vs', rfl, h1, h2⟩ := h
    exact ⟨v, vs'.take n, rfl, h1, RepL.take n h2⟩
theorem RepL.set : ∀ {ds : List D} {vs : List V} {d : D} {v : V} (n : Nat), RepL G H ds vs → Rep G H d v → RepL G H (ds.set n d) (vs.set n v)
  | [], vs, _, _, n, h, _ => by
    rw [show vs = [] from h]
    rfl
  | d :: ds, vs, d', v', 0, h, h' => by
    obtain ⟨v, vs', rfl, h1, h2⟩ := h
    exact ⟨v', vs', rfl, h', h2⟩
  | d :: ds, vs, d', v', n + 1, h, h' => by
    obtain ⟨v, vs', rfl, h1, h2⟩ := h
    exact ⟨v, vs'.set n v', rfl, h1, RepL.set n h2 h'⟩
theorem RepL.erase : ∀ {ds : List D} {vs : List V} (n : Nat), RepL G H ds vs → RepL G H (ds.eraseIdx n) (vs.eraseIdx n)
  | [], vs, n, h => by
    rw [show vs = [] from h]
    rfl
  | d :: ds, vs, 0, h => by
    obtain ⟨v, vs', rfl, h1, h2⟩ := h
    exact h2
  | d :: ds, vs, n + 1, h => by
    obtain ⟨v, vs', rfl, h1, h2⟩ := h
    exact ⟨v, vs'.eraseIdx n, rfl, h1, RepL.erase n h2⟩
theorem RepL.ints : ∀ {ns : List Int} {vs : List V}, RepL G H (ns.map D.int) vs → vs = ns.map V.int
  | [], vs, h => h
  | n :: ns, vs, h => by
    obtain ⟨v, vs', rfl, h1, h2⟩ := h
    rw [show v = V.int n from h1, RepL.ints h2]
    rfl
theorem RepL.ofInts : ∀ {ns : List Int}, RepL G H (ns.map D.int) (ns.map V.int)
  | [] => rfl
  | n :: ns => ⟨_, _, rfl, rfl, RepL.ofInts⟩
theorem OwnO.mono (e : Same F F') {p : Addr} (e' : ∀ o, H p = some o → H' p = some o) : ∀ (d : D), OwnO G F H p d → OwnO G F' H' p d
  | .lst l, h => by
    obtain ⟨vs, h1, h2⟩ := h
    exact ⟨vs, e' _ h1, RepL.mono e l vs h2⟩
  | .obj c fs, h => by
    obtain ⟨C, ns, dx, vs, h1, h2, h3⟩ := h
    exact ⟨C, ns, dx, vs, h1, e' _ h2, RepL.mono e fs vs h3⟩
  | .non, h => h.elim
  | .bl _, h => h.elim
  | .int _, h => h.elim
  | .str _, h => h.elim
  | .typ _, h => h.elim
  | .cls _, h => h.elim
  | .tup _, h => h.elim
  | .dct l, h => by
    obtain ⟨o, es, h1, h0, h2, h3⟩ := h
    exact ⟨o, es, e' _ h1, h0, RepE.mono e l es h2, h3⟩
  | .scr _, h => h.elim
theorem OwnO.there {p : Addr} : ∀ {d : D}, OwnO G F H p d → ∃ o, H p = some o
  | .lst l, h => by
    obtain ⟨vs, h1, h2⟩ := h
    exact ⟨_, h1⟩
  | .obj c fs, h => by
    obtain ⟨C, ns, dx, vs, h1, h2, h3⟩ := h
    exact ⟨_, h2⟩
  | .non, h => h.elim
  | .bl _, h => h.elim
  | .int _, h => h.elim
  | .str _, h => h.elim
  | .typ _, h => h.elim
  | .cls _, h => h.elim
  | .tup _, h => h.elim
  | .dct l, h => by
    obtain ⟨o, es, h1, _⟩ := h
    exact ⟨_, h1⟩
  | .scr _, h => h.elim
theorem OwnO.rep {p : Addr} : ∀ {d : D}, OwnO G F F p d → Rep G F d (.ref p)
  | .lst l, h => by
    obtain ⟨vs, h1, h2⟩ := h
    exact ⟨p, vs, rfl, h1, h2⟩
  | .obj c fs, h => by
    obtain ⟨C, ns, dx, vs, h1, h2, h3⟩ := h
    exact ⟨p, C, ns, dx, vs, rfl, h1, h2, h3⟩
  | .non, h => h.elim
  | .bl _, h => h.elim
  | .int _, h => h.elim
  | .str _, h => h.elim
  | .typ _, h => h.elim
  | .cls _, h => h.elim
  | .tup _, h => h.elim
  | .dct l, h => by
    obtain ⟨o, es, h1, h0, h2, h3⟩ := h
    exact ⟨p, o, es, rfl, h1, h0, h2, h3⟩
  | .scr _, h => h.elim
theorem Top.mono (e : Same F F') (e' : Same H H') {d : D} {v : V} (h : Top G F H d v) : Top G F' H' d v := by
  unfold Top at h ⊢
  split at h
  · rename_i hm
    rw [if_pos hm]
    obtain ⟨p, rfl, h⟩ := h
    exact ⟨p, rfl, h.mono e (e' p)⟩
  · rename_i hm
    rw [if_neg hm]
    exact h.mono e
theorem Top.of_rep (e : Same F H) : ∀ {d : D} {v : V}, Rep G F d v → Top G F H d v
  | .lst l, v, h => by
    obtain ⟨a, vs, rfl, h1, h2⟩ := h
    exact ⟨a, rfl, vs, e _ _ h1, h2⟩
  | .obj c fs, v, h => by
    obtain ⟨a, C, ns, dx, vs, rfl, h1, h2, h3⟩ := h
    exact ⟨a, rfl, C, ns, dx, vs, h1, e _ _ h2, h3⟩
  | .non, v, h => h
  | .bl _, v, h => h
  | .int _, v, h => h
  | .str _, v, h => h
  | .typ _, v, h => h
  | .cls _, v, h => h
  | .tup _, v, h => h
  | .dct l, v, h => by
    obtain ⟨a, o, es, rfl, h1, h0, h2, h3⟩ := h
    exact ⟨a, rfl, o, es, e _ _ h1, h0, h2, h3⟩
  | .scr _, v, h => h
theorem Top.rep_of {d : D} {v : V} (hm : d.isMut = false) (h : Top G F H d v) : Rep G F d v := by
  unfold Top at h
  rw [if_neg (by rw [hm]; decide)] at h
  exact h
end
end DL
namespace DL
open PySem PySem.Spec L2
inductive Sl where
  | un | sh (d : D) | bo (d : D) | ow (d : D) | mu (d : D) | ln (d : D)
  deriving Inhabited
abbrev En := List Sl
structure Xc where
  c : Nat
  fs : List D
abbrev M (α : Type) := Option (Except Xc α)
def M.bnd {α β : Type} (m : M α) (k : α → M β) : M β := match m with
  | some (.ok a) => k a
  | some (.error x) => some (.error x)
  | none => none
abbrev M.ret {α : Type} (a : α) : M α := some (.ok a)
theorem bnd_some {α β : Type} {m : M α} {k : α → M β} {r : Except Xc β} (h : M.bnd m k = some r) :
    (∃ a, m = some (.ok a) ∧ k a = some r) ∨ (∃ x, m = some (.error x) ∧ r = .error x) := by
  cases m with
  | none => cases h
  | some q =>
    cases q with
    | ok a => exact .inl ⟨a, rfl, h⟩
    | error x => exact .inr ⟨x, rfl, (Option.some.inj h).symm⟩
structure Up (F B H F' B' H' : Hp) : Prop where
  f : Same F F'
  b : Same B B'
  h : Same H H'
  fb : Same F' B'
  bh : Same B' H'
  old : ∀ a, H a ≠ none → F' a = F a ∧ B' a = B a
theorem Up.refl {F B H : Hp} (fb : Same F B) (bh : Same B H) : Up F B H F B H := ⟨Same.refl _, Same.refl _, Same.refl _, fb, bh, fun _ _ => ⟨rfl, rfl⟩⟩
theorem Same.ne {H H' : Hp} (e : Same H H') {a : Addr} (h : H a ≠ none) : H' a ≠ none := by
  cases q : H a with
  | none => exact absurd q h
  | some o => rw [e a o q]; intro z; cases z
theorem Up.trans {F B H F1 B1 H1 F2 B2 H2 : Hp} (x : Up F B H F1 B1 H1) (y : Up F1 B1 H1 F2 B2 H2) : Up F B H F2 B2 H2 :=
  ⟨x.f.trans y.f, x.b.trans y.b, x.h.trans y.h, y.fb, y.bh, fun a ha => by
    have h1 := x.old a ha
    have h2 := y.old a (Same.ne x.h ha)
    exact ⟨h2.1.trans h1.1, h2.2.trans h1.2⟩⟩
theorem Up.new {F B H : Hp} {p : Addr} {o : HO} (fb : Same F B) (bh : Same B H) (hp : H p = none) : Up F B H F B (upd H p o) :=
  ⟨Same.refl _, Same.refl _, fun a u e => by rw [upd_ne (ne_of_none e hp)]; exact e, fb, fun a u e => by
    rw [upd_ne (ne_of_none (bh a u e) hp)]
    exact bh a u e, fun _ _ => ⟨rfl, rfl⟩⟩
theorem Up.share {F B H F' B' H' : Hp} {p : Addr} {o : HO} (u : Up F B H F' B' H') (hp : H p = none) (hb : B' p = none) (ho : H' p = some o) : Up F B H (upd F' p o) (upd B' p o) H' := by
  have hf : F' p = none := by
    cases q : F' p with
    | none => rfl
    | some o' => rw [u.fb p o' q] at hb; cases hb
  refine ⟨fun a q e => ?_, fun a q e => ?_, u.h, fun a q e => ?_, fun a q e => ?_, fun a ha => ?_⟩
  · rw [upd_ne (ne_of_none (u.f a q e) hf)]
    exact u.f a q e
  · rw [upd_ne (ne_of_none (u.b a q e) hb)]
    exact u.b a q e
  · by_cases h : a = p
    · subst h; rw [upd_same] at e ⊢; exact e
    · rw [upd_ne h] at e ⊢; exact u.fb a q e
  · by_cases h : a = p
    · subst h; rw [upd_same] at e; cases e; exact ho
    · rw [upd_ne h] at e; exact u.bh a q e
  · have hne : a ≠ p := by rintro rfl; exact ha hp
    rw [upd_ne hne, upd_ne hne]
    exact u.old a ha
structure Zn where
  F : Hp
  B : Hp
  H : Hp
  M : Nat → Option Addr
  L : Nat → Option Addr := fun _ => none
  LA : List Addr := []
def SlR (G : Gm) (Z : Zn) (F B H : Hp) (i : Nat) (ov : Option V) : Sl → Prop
  | .un => True
  | .sh d => ∃ v, ov = some v ∧ Rep G F d v
  | .bo d => ∃ v, ov = some v ∧ Top G F Z.B d v
  | .ow d => ∃ p, ov = some (.ref p) ∧ Z.H p = none ∧ B p = none ∧ OwnO G F H p d
  | .mu d => ∃ p, ov = some (.ref p) ∧ Z.M i = some p ∧ B p = none ∧ OwnO G F H p d
  | .ln d => ∃ p, ov = some (.ref p) ∧ Z.L i = some p ∧ OwnO G F B p d
def OwnAt (σ : St) (ρ : En) (i : Nat) (p : Addr) : Prop := (∃ d, ρ[i]? = some (.ow d)) ∧ σ[i]? = some (some (.ref p))
structure SR (G : Gm) (Z : Zn) (F B H : Hp) (σ : St) (ρ : En) : Prop where
  fb : Same F B
  bh : Same B H
  zf : Same Z.F F
  zb : Same Z.B B
  zo : ∀ a, Z.H a ≠ none → F a = Z.F a ∧ (a ∉ Z.LA → B a = Z.B a)
  zh : ∀ a o, Z.H a = some o → (∀ i, Z.M i ≠ some a) → H a = some o
  zk : ∀ a, Z.H a ≠ none → H a ≠ none
  mm : ∀ i p, Z.M i = some p → Z.H p ≠ none ∧ Z.B p = none
  md : ∀ i j p, Z.M i = some p → Z.M j = some p → i = j
  len : σ.length = ρ.length
  sl : ∀ (i : Nat) (s : Sl), ρ[i]? = some s → SlR G Z F B H i (σ[i]?.join) s
  nd : ∀ i j p, OwnAt σ ρ i p → OwnAt σ ρ j p → i = j
  lt : ∀ q ∈ Z.LA, F q = none ∧ ∃ o, B q = some o
  la : ∀ i q, Z.L i = some q → q ∈ Z.LA
section
variable {G : Gm} {Z : Zn} {F B H F' B' H' : Hp} {σ : St} {ρ : En}
theorem SR.up (s : SR G Z F B H σ ρ) (u : Up F B H F' B' H') : SR G Z F' B' H' σ ρ where
  fb := u.fb
  bh := u.bh
  zf := s.zf.trans u.f
  zb := s.zb.trans u.b
  zo := fun a ha => by
    have h1 := s.zo a ha
    have h2 := u.old a (s.zk a ha)
    exact ⟨h2.1.trans h1.1, fun q => h2.2.trans (h1.2 q)⟩
  zh := fun a o e hm => u.h a o (s.zh a o e hm)
  zk := fun a ha => Same.ne u.h (s.zk a ha)
  mm := s.mm
  md := s.md
  len := s.len
  sl := fun i q e => by
    have h := s.sl i q e
    cases q with
    | un => trivial
    | sh d =>
      obtain ⟨v, e1, e2⟩ := h
      exact ⟨v, e1, e2.mono u.f⟩
    | bo d =>
      obtain ⟨v, e1, e2⟩ := h
      exact ⟨v, e1, e2.mono u.f (Same.refl _)⟩
    | ow d =>
      obtain ⟨p, e1, e2, e3, e4⟩ := h
      obtain ⟨o, ho⟩ := e4.there
      exact ⟨p, e1, e2, by rw [(u.old p (by rw [ho]; intro z; cases z)).2]; exact e3, e4.mono u.f (u.h p)⟩
    | mu d =>
      obtain ⟨p, e1, e2, e3, e4⟩ := h
      obtain ⟨o, ho⟩ := e4.there
      exact ⟨p, e1, e2, by rw [(u.old p (by rw [ho]; intro z; cases z)).2]; exact e3, e4.mono u.f (u.h p)⟩
    | ln d =>
      obtain ⟨p, e1, e2, e4⟩ := h
      exact ⟨p, e1, e2, e4.mono u.f (u.b p)⟩
  nd := s.nd
  lt := fun q hq => by
    obtain ⟨h1, o, h2⟩ := s.lt q hq
    have h3 := u.old q (by rw [s.bh q o h2]; intro z; cases z)
    exact ⟨h3.1.trans h1, o, h3.2.trans h2⟩
  la := s.la
theorem SR.set (s : SR G Z F B H σ ρ) {i : Nat} {v : V} {q : Sl} (hi : i < ρ.length) (hq : SlR G Z F B H i (some v) q) (hn : ∀ d p j, q = .ow d → v = .ref p → j ≠ i → ¬ OwnAt σ ρ j p) :
    SR G Z F B H (σ.set i (some v)) (ρ.set i q) where
  fb := s.fb
  bh := s.bh
  zf := s.zf
  zb := s.zb
  zo := s.zo
  zh := s.zh
  zk := s.zk
  mm := s.mm
  md := s.md
  len := by rw [List.length_set, List.length_set]; exact s.len
  sl := fun j t e => by
    by_cases hj : j = i
    · subst hj
      rw [List.getElem?_set_self hi] at e
      cases e
      rw [List.getElem?_set_self (by rw [s.len]; exact hi)]
      exact hq
    · rw [List.getElem?_set_ne (Ne.symm hj)] at e
      rw [List.getElem?_set_ne (Ne.symm hj)]
      exact s.sl j t e
  nd := fun j k p hj hk => by
    obtain ⟨⟨d1, a1⟩, b1⟩ := hj
    obtain ⟨⟨d2, a2⟩, b2⟩ := hk
    by_cases h1 : j = i
    · by_cases h2 : k = i
      · rw [h1, h2]
      · subst h1
        rw [List.getElem?_set_self hi] at a1
        rw [List.getElem?_set_self (by rw [s.len]; exact hi)] at b1
        rw [List.getElem?_set_ne (Ne.symm h2)] at a2 b2
        exact absurd ⟨⟨d2, a2⟩, b2⟩ (hn d1 p k (Option.some.inj a1) (Option.some.inj (Option.some.inj b1)) h2)
    · by_cases h2 : k = i
      · subst h2
        rw [List.getElem?_set_self hi] at a2
        rw [List.getElem?_set_self (by rw [s.len]; exact hi)] at b2
        rw [List.getElem?_set_ne (Ne.symm h1)] at a1 b1
        exact absurd ⟨⟨d1, a1⟩, b1⟩ (hn d2 p j (Option.some.inj a2) (Option.some.inj (Option.some.inj b2)) h1)
      · rw [List.getElem?_set_ne (Ne.symm h1)] at a1 b1
        rw [List.getElem?_set_ne (Ne.symm h2)] at a2 b2
        exact s.nd j k p ⟨⟨d1, a1⟩, b1⟩ ⟨⟨d2, a2⟩, b2⟩
  lt := s.lt
  la := s.la
theorem SR.own_there (s : SR G Z F B H σ ρ) {j : Nat} {p : Addr} (h : OwnAt σ ρ j p) : (∃ o, H p = some o) ∧ B p = none := by
  obtain ⟨⟨d, a1⟩, b1⟩ := h
  obtain ⟨q, e1, e2, e3, e4⟩ := s.sl j _ a1
  rw [b1] at e1
  have e : p = q := by
    injection e1 with e1
    injection e1
  subst e
  exact ⟨e4.there, e3⟩
end
inductive Ty where
  | b (n : String) | o (c : Nat)
def Ty.val (G : Gm) : Ty → Value → Prop
  | .b n, v => v = .type n
  | .o c, v => ∃ C ns, G.ct c = some (C, ns) ∧ v = .ref C
def subC (c d : Nat) : Bool := c == d || (d == 4 && (c == 5 || c == 6))
def isiT : Ty → Ty → Option Bool
  | .b a, .b c => if ["NoneType", "bool", "int", "str", "list", "tuple", "dict"].contains a && ["bool", "int", "str", "list", "tuple", "dict"].contains c then some (a == c || (a == "bool" && c == "int")) else none
  | .b a, .o _ => if ["NoneType", "bool", "int", "str", "list", "tuple", "dict"].contains a then some false else none
  | .o _, .b c => if ["bool", "int", "str", "list", "tuple", "dict"].contains c then some false else none
  | .o c, .o d => if c < 100 then some (subC c d) else none
structure GOk (G : Gm) : Prop where
  cl : ∀ c C ns, G.ct c = some (C, ns) → c < 100 → Cls G.K C ∧ (∀ f ∈ ns, NoAttr G.K C f) ∧ ns.Nodup ∧ ns.length < 1000
  dunder : ∀ c C ns, G.ct c = some (C, ns) → c < 100 → PySem.W.findIn G.K (.ref C) "__class__" = some (some (.builtin "object.__class__")) ∧ PySem.W.mroIn G.K C (.type "object") = some true
  gs : PySem.W.specialIn G.K (.builtin "object.__class__") "__get__" = some (some (.builtin "getset_descriptor.__get__"))
  tk : PySem.W.takesIn G.K (.builtin "object.__class__") = some true
  isi : ∀ t c b tv cv, isiT t c = some b → t.val G tv → c.val G cv → PySem.W.kitOne G.K tv cv = some b
inductive Kd where
  | shared | peek | fresh | borrow
def KR (G : Gm) (k : Kd) (H F' B' H' : Hp) (d : D) (v : V) : Prop := match k with
  | .shared => Rep G F' d v
  | .peek => Top G F' H' d v
  | .borrow => Top G F' B' d v
  | .fresh => if d.isMut = true then ∃ p, v = .ref p ∧ H p = none ∧ B' p = none ∧ OwnO G F' H' p d else Rep G F' d v
def XR (G : Gm) (F' H' : Hp) (x : Xc) (cls : Value) (dx : Option Addr) : Prop :=
  ∃ C ns, G.ct x.c = some (C, ns) ∧ cls = .ref C ∧
    ((x.fs = [] ∧ dx = none) ∨ ∃ d vs, dx = some d ∧ H' d = some (.xd (zipF ns vs)) ∧ RepL G F' x.fs vs)
def PostE (G : Gm) (W : WX) (k : Kd) (F B H : Hp) (σ : St) (Q : VK) : Except Xc D → Prop
  | .ok d => ∀ F' B' H' v, Up F B H F' B' H' → KR G k H F' B' H' d v → Q v H'
  | .error x => ∀ F' B' H' cls dx, Up F B H F' B' H' → XR G F' H' x cls dx → W cls dx σ H'
def SpecE (G : Gm) (W : WX) (k : Kd) (te : TE) (f : En → M D) : Prop :=
  ∀ Z F B H σ ρ, SR G Z F B H σ ρ → ∀ r, f ρ = some r → ∀ Q, PostE G W k F B H σ Q r → te σ H Q
structure CnE (G : Gm) (k : Nat) (W : WX) (N : List Str) (sc : Scope) (X : Cx) : Prop where
  hP : X.prog = G.P
  hw : X.w = G.w
  hK : X.K = G.K
  hmg : X.mg = G.mg
  hb : X.base = G.base
  hN : X.N = N
  hsc : X.env.scope = sc
  calm : X.calm = true
  nd : N.Nodup
  room : Room k X.A
  tk : L2N.Takes X W
def JE (G : Gm) (k : Nat) (W : WX) (N : List Str) (sc : Scope) (kd : Kd) (e : Expr) (f : En → M D) : Prop :=
  ∃ te, (∀ X, CnE G k W N sc X → PE X e te) ∧ SpecE G W kd te f
section
variable {G : Gm} {k : Nat} {W : WX} {N : List Str} {sc : Scope} {kd : Kd} {e : Expr} {f : En → M D}
theorem JE.sh_of_fresh (h : JE G k W N sc .fresh e f) : JE G k W N sc .shared e f := by
  obtain ⟨te, h1, h2⟩ := h
  refine ⟨te, h1, fun Z F B H σ ρ s r hr Q q => h2 Z F B H σ ρ s r hr Q ?_⟩
  cases r with
  | error x => exact q
  | ok d =>
    intro F' B' H' v u hk
    by_cases hm : d.isMut = true
    · have hk : (if d.isMut = true then ∃ p, v = .ref p ∧ H p = none ∧ B' p = none ∧ OwnO G F' H' p d else Rep G F' d v) := hk
      rw [if_pos hm] at hk
      obtain ⟨p, rfl, hp, hb, ho⟩ := hk
      obtain ⟨o, h3⟩ := ho.there
      have u2 := u.share hp hb h3
      refine q _ _ H' _ u2 ?_
      have hf : F' p = none := by
        cases q : F' p with
        | none => rfl
        | some o' => rw [u.fb p o' q] at hb; cases hb
      exact OwnO.rep (ho.mono (F' := upd F' p o) (H' := upd F' p o) (fun a q e => by rw [upd_ne (ne_of_none e hf)]; exact e) fun o' e => by
        rw [h3] at e
        rw [upd_same]
        exact e)
    · have hk : (if d.isMut = true then ∃ p, v = .ref p ∧ H p = none ∧ B' p = none ∧ OwnO G F' H' p d else Rep G F' d v) := hk
      rw [if_neg hm] at hk
      exact q F' B' H' v u hk
theorem JE.pk_of_sh (h : JE G k W N sc .shared e f) : JE G k W N sc .peek e f := by
  obtain ⟨te, h1, h2⟩ := h
  refine ⟨te, h1, fun Z F B H σ ρ s r hr Q q => h2 Z F B H σ ρ s r hr Q ?_⟩
  cases r with
  | error x => exact q
  | ok d => exact fun F' B' H' v u hk => q F' B' H' v u (Top.of_rep (u.fb.trans u.bh) hk)
theorem JE.bo_of_sh (h : JE G k W N sc .shared e f) : JE G k W N sc .borrow e f := by
  obtain ⟨te, h1, h2⟩ := h
  refine ⟨te, h1, fun Z F B H σ ρ s r hr Q q => h2 Z F B H σ ρ s r hr Q ?_⟩
  cases r with
  | error x => exact q
  | ok d => exact fun F' B' H' v u hk => q F' B' H' v u (Top.of_rep u.fb hk)
theorem JE.bo_of_fresh (h : JE G k W N sc .fresh e f) : JE G k W N sc .borrow e f := h.sh_of_fresh.bo_of_sh
theorem JE.pk_of_fresh (h : JE G k W N sc .fresh e f) : JE G k W N sc .peek e f := h.sh_of_fresh.pk_of_sh
theorem KR.scal {k : Kd} {H F' B' H' : Hp} {d : D} {v : V} (hm : d.isMut = false) (h : Rep G F' d v) : KR G k H F' B' H' d v := by
  cases k with
  | shared => exact h
  | peek => show Top G F' H' d v; unfold Top; rw [if_neg (by rw [hm]; decide)]; exact h
  | fresh => show (if d.isMut = true then _ else _); rw [if_neg (by rw [hm]; decide)]; exact h
  | borrow => show Top G F' B' d v; unfold Top; rw [if_neg (by rw [hm]; decide)]; exact h
end
end DL
namespace DL
open PySem PySem.Spec L2
abbrev LIM : Nat := 16000000
theorem lim_line {n : Nat} (h : n ≤ LIM) : n ≤ sizeLine := by rw [sizeLine_eq]; exact Nat.le_trans h (by decide)
theorem lim_lt {n : Nat} (h : n ≤ LIM) : n < sizeLine := by rw [sizeLine_eq]; exact Nat.lt_of_le_of_lt h (by decide)
def up1 {α : Type} (o : Option α) : M α := o.map Except.ok
theorem up1_ok {α : Type} {o : Option α} {r : Except Xc α} (h : up1 o = some r) : ∃ a, o = some a ∧ r = .ok a := by
  cases o with
  | none => cases h
  | some a => exact ⟨a, rfl, (Option.some.inj h).symm⟩
def PostT (G : Gm) (W : WX) (F B H : Hp) (σ : L2.St) (Q : Bool → Hp → Prop) : Except Xc Bool → Prop
  | .ok b => ∀ F' B' H', Up F B H F' B' H' → Q b H'
  | .error x => ∀ F' B' H' cls dx, Up F B H F' B' H' → XR G F' H' x cls dx → W cls dx σ H'
def SpecT (G : Gm) (W : WX) (tt : TT) (f : En → M Bool) : Prop :=
  ∀ Z F B H σ ρ, SR G Z F B H σ ρ → ∀ r, f ρ = some r → ∀ Q, PostT G W F B H σ Q r → tt σ H Q
def JT (G : Gm) (k : Nat) (W : WX) (N : List Str) (sc : Scope) (e : Expr) (f : En → M Bool) : Prop :=
  ∃ tt, (∀ X, CnE G k W N sc X → PT X e tt) ∧ SpecT G W tt f
def JW (G : Gm) (k : Nat) (W : WX) (N : List Str) (sc : Scope) (e : Expr) (f : En → M Bool) : Prop :=
  ∃ tt, (∀ X, CnE G k W N sc X → PW X e tt) ∧ SpecT G W tt f
inductive Arg where
  | shared | peek
def ArR (G : Gm) (F H : Hp) : List Arg → List D → List V → Prop
  | [], [], vs => vs = []
  | .shared :: ks, d :: ds, vs => ∃ v vs', vs = v :: vs' ∧ Rep G F d v ∧ ArR G F H ks ds vs'
  | .peek :: ks, d :: ds, vs => ∃ v vs', vs = v :: vs' ∧ Top G F H d v ∧ ArR G F H ks ds vs'
  | _, _, _ => False
def PostA (G : Gm) (W : WX) (ks : List Arg) (F B H : Hp) (σ : L2.St) (Q : List V → Hp → Prop) : Except Xc (List D) → Prop
  | .ok ds => ∀ F' B' H' vs, Up F B H F' B' H' → ArR G F' H' ks ds vs → Q vs H'
  | .error x => ∀ F' B' H' cls dx, Up F B H F' B' H' → XR G F' H' x cls dx → W cls dx σ H'
def SpecA (G : Gm) (W : WX) (ks : List Arg) (ta : TA) (f : En → M (List D)) : Prop :=
  ∀ Z F B H σ ρ, SR G Z F B H σ ρ → ∀ r, f ρ = some r → ∀ Q, PostA G W ks F B H σ Q r → ta σ H Q
def JA (G : Gm) (k : Nat) (W : WX) (N : List Str) (sc : Scope) (ks : List Arg) (es : List Expr) (f : En → M (List D)) : Prop :=
  ∃ ta, (∀ X, CnE G k W N sc X → PA X es ta) ∧ SpecA G W ks ta f
section
variable {G : Gm} {k : Nat} {W : WX} {N : List Str} {sc : Scope} {kd : Kd} {e a b : Expr} {f fa fb : En → M D} {pos : Pos}
theorem ArR.mono {F H F' H' : Hp} (e : Same F F') (e' : Same H H') : ∀ {ks : List Arg} {ds : List D} {vs : List V}, ArR G F H ks ds vs → ArR G F' H' ks ds vs
  | [], [], vs, h => h
  | .shared :: ks, d :: ds, vs, h => by
    obtain ⟨v, vs', rfl, h1, h2⟩ := h
    exact ⟨v, vs', rfl, h1.mono e, ArR.mono e e' h2⟩
  | .peek :: ks, d :: ds, vs, h => by
    obtain ⟨v, vs', rfl, h1, h2⟩ := h
    exact ⟨v, vs', rfl, h1.mono e e', ArR.mono e e' h2⟩
  | [], _ :: _, _, h => h.elim
  | .shared :: _, [], _, h => h.elim
  | .peek :: _, [], _, h => h.elim
def visB (sc : Scope) (x : Str) : Bool := match sc.names.lookup x with
  | some .local => true
  | some .cell => true
  | some .free => true
  | _ => false
theorem vis_of {sc : Scope} {x : Str} (h : visB sc x = true) : Vis sc x := by
  unfold visB at h
  unfold Vis
  split at h
  · rename_i e; exact .inl e
  · rename_i e; exact .inr (.inl e)
  · rename_i e; exact .inr (.inr e)
  · cases h
def glB (sc : Scope) (x : Str) : Bool := match sc.names.lookup x with
  | some .globalImplicit => true
  | _ => false
theorem gl_of {X : Cx} {sc : Scope} {x : Str} (hs : X.env.scope = sc) (h : glB sc x = true) : Gl X x := by
  unfold glB at h
  unfold Gl Env.kindOf
  rw [hs]
  split at h
  · assumption
  · cases h
def Aa (i : Nat) : En → M D := fun ρ => match ρ[i]? with
  | some (.sh d) => some (.ok d)
  | some (.bo d) => some (.ok d)
  | some (.ow d) => some (.ok d)
  | some (.mu d) => some (.ok d)
  | some (.ln d) => some (.ok d)
  | _ => none
def Ay (i : Nat) : En → M D := fun ρ => match ρ[i]? with
  | some (.sh d) => some (.ok d)
  | some (.bo d) => if d.isMut = true then none else some (.ok d)
  | _ => none
theorem SR.at {Z : Zn} {F B H : Hp} {σ : L2.St} {ρ : En} (s : SR G Z F B H σ ρ) {i : Nat} {q : Sl} (e : ρ[i]? = some q) {v : V} (h : (σ[i]?).join = some v) : σ[i]? = some (some v) := by
  cases q : σ[i]? with
  | none => rw [q] at h; cases h
  | some o => rw [q] at h; exact congrArg some h
theorem je_varP {i : Nat} {x : Str} (hi : N[i]? = some x) (hv : visB sc x = true) (hd : (x == ("__debug__" : Str)) = false) (hcd : (x == ("__classdict__" : Str)) = false) : JE G k W N sc .peek (.Name x pos) (Aa i) := by
  refine ⟨tVar i, fun X c => pe_var (by rw [c.hN]; exact hi) (by rw [c.hsc]; exact vis_of hv) hd hcd, fun Z F B H σ ρ s r hr Q q => ?_⟩
  unfold Aa at hr
  have key : ∀ (d : D) (v : V), (σ[i]?).join = some v → some (Except.ok d : Except Xc D) = some r → Top G F H d v → (∃ t, ρ[i]? = some t) → tVar i σ H Q := fun d v h1 h2 h3 h4 => by
    obtain ⟨t, ht⟩ := h4
    have e := Option.some.inj h2
    subst e
    exact ⟨v, s.at ht h1, q F B H v (Up.refl s.fb s.bh) h3⟩
  cases e : ρ[i]? with
  | none => rw [e] at hr; cases hr
  | some t =>
    rw [e] at hr
    have h := s.sl i t e
    cases t with
    | un => cases hr
    | sh d =>
      obtain ⟨v, e1, e2⟩ := h
      exact key d v e1 hr (Top.of_rep (s.fb.trans s.bh) e2) ⟨_, e⟩
    | bo d =>
      obtain ⟨v, e1, e2⟩ := h
      exact key d v e1 hr (e2.mono (Same.refl _) (s.zb.trans s.bh)) ⟨_, e⟩
    | ow d =>
      obtain ⟨p, e1, e2, e3, e4⟩ := h
      refine key d _ e1 hr ?_ ⟨_, e⟩
      unfold Top
      split
      · exact ⟨p, rfl, e4⟩
      · rename_i hm
        cases d <;> first | exact e4.elim | exact absurd rfl hm
    | mu d =>
      obtain ⟨p, e1, e2, e3, e4⟩ := h
      refine key d _ e1 hr ?_ ⟨_, e⟩
      unfold Top
      split
      · exact ⟨p, rfl, e4⟩
      · rename_i hm
        cases d <;> first | exact e4.elim | exact absurd rfl hm
    | ln d =>
      obtain ⟨p, e1, e2, e4⟩ := h
      refine key d _ e1 hr ?_ ⟨_, e⟩
      unfold Top
      split
      · exact ⟨p, rfl, e4.mono (Same.refl _) (s.bh p)⟩
      · rename_i hm
        cases d <;> first | exact e4.elim | exact absurd rfl hm
theorem je_varS {i : Nat} {x : Str} (hi : N[i]? = some x) (hv : visB sc x = true) (hd : (x == ("__debug__" : Str)) = false) (hcd : (x == ("__classdict__" : Str)) = false) : JE G k W N sc .shared (.Name x pos) (Ay i) := by
  refine ⟨tVar i, fun X c => pe_var (by rw [c.hN]; exact hi) (by rw [c.hsc]; exact vis_of hv) hd hcd, fun Z F B H σ ρ s r hr Q q => ?_⟩
  unfold Ay at hr
  cases e : ρ[i]? with
  | none => rw [e] at hr; cases hr
  | some t =>
    rw [e] at hr
    have h := s.sl i t e
    cases t with
    | un => cases hr
    | sh d =>
      obtain ⟨v, e1, e2⟩ := h
      have e' : Except.ok d = r := Option.some.inj hr
      subst e'
      exact ⟨v, s.at e e1, q F B H v (Up.refl s.fb s.bh) e2⟩
    | bo d =>
      obtain ⟨v, e1, e2⟩ := h
      have hr : (if d.isMut = true then none else some (Except.ok d)) = some r := hr
      by_cases hm : d.isMut = true
      · rw [if_pos hm] at hr; cases hr
      · rw [if_neg hm] at hr
        have e' : Except.ok d = r := Option.some.inj hr
        subst e'
        exact ⟨v, s.at e e1, q F B H v (Up.refl s.fb s.bh) (Top.rep_of (by simpa using hm) e2)⟩
    | ow d => cases hr
    | mu d => cases hr
    | ln d => cases hr
def Bc (i : Nat) : En → M D := fun ρ => match ρ[i]? with
  | some (.sh d) => some (.ok d)
  | some (.bo d) => some (.ok d)
  | some (.ln d) => some (.ok d)
  | _ => none
theorem je_varB {i : Nat} {x : Str} (hi : N[i]? = some x) (hv : visB sc x = true) (hd : (x == ("__debug__" : Str)) = false) (hcd : (x == ("__classdict__" : Str)) = false) : JE G k W N sc .borrow (.Name x pos) (Bc i) := by
  refine ⟨tVar i, fun X c => pe_var (by rw [c.hN]; exact hi) (by rw [c.hsc]; exact vis_of hv) hd hcd, fun Z F B H σ ρ s r hr Q q => ?_⟩
  unfold Bc at hr
  cases e : ρ[i]? with
  | none => rw [e] at hr; cases hr
  | some t =>
    rw [e] at hr
    have h := s.sl i t e
    cases t with
    | un => cases hr
    | sh d =>
      obtain ⟨v, e1, e2⟩ := h
      have e' : Except.ok d = r := Option.some.inj hr
      subst e'
      exact ⟨v, s.at e e1, q F B H v (Up.refl s.fb s.bh) (Top.of_rep s.fb e2)⟩
    | bo d =>
      obtain ⟨v, e1, e2⟩ := h
      have e' : Except.ok d = r := Option.some.inj hr
      subst e'
      exact ⟨v, s.at e e1, q F B H v (Up.refl s.fb s.bh) (e2.mono (Same.refl _) s.zb)⟩
    | ow d => cases hr
    | mu d => cases hr
    | ln d =>
      obtain ⟨p, e1, e2, e4⟩ := h
      have e' : Except.ok d = r := Option.some.inj hr
      subst e'
      refine ⟨_, s.at e e1, q F B H _ (Up.refl s.fb s.bh) ?_⟩
      show Top G F B d (.ref p)
      unfold Top
      split
      · exact ⟨p, rfl, e4⟩
      · rename_i hm
        cases d <;> first | exact e4.elim | exact absurd rfl hm
def fC (d : D) : En → M D := fun _ => some (.ok d)
theorem spec_c {d : D} {v : V} (hm : d.isMut = false) (h : ∀ H, Rep G H d v) : SpecE G W kd (tC v) (fC d) := fun Z F B H σ ρ s r hr Q q => by
  have e : Except.ok d = r := Option.some.inj hr
  subst e
  exact q F B H v (Up.refl s.fb s.bh) (KR.scal hm (h F))
theorem je_int {i : Int} {j : Nat} : JE G k W N sc kd (.Constant (.int i) j pos) (fC (.int i)) := ⟨_, fun _ _ => pe_int, spec_c rfl fun _ => rfl⟩
theorem je_bl {i : Bool} {j : Nat} : JE G k W N sc kd (.Constant (.bool i) j pos) (fC (.bl i)) := ⟨_, fun _ _ => pe_bl, spec_c rfl fun _ => rfl⟩
theorem je_str {i : Str} {j : Nat} : JE G k W N sc kd (.Constant (.str i) j pos) (fC (.str i)) := ⟨_, fun _ _ => pe_str, spec_c rfl fun _ => rfl⟩
theorem je_non {j : Nat} : JE G k W N sc kd (.Constant .none j pos) (fC .non) := ⟨_, fun _ _ => pe_non, spec_c rfl fun _ => rfl⟩
def PostV (G : Gm) (kd : Kd) (F B H : Hp) (Q : VK) (d : D) : Prop := ∀ F' B' H' v, Up F B H F' B' H' → KR G kd H F' B' H' d v → Q v H'
def OpS (G : Gm) (kd : Kd) (r : R2) (op : D → D → Option D) : Prop := ∀ F B H, Same F B → Same B H → ∀ x y v w, Top G F H x v → Top G F H y w → ∀ d, op x y = some d → ∀ Q, PostV G kd F B H Q d → r v w H Q
def CaS (G : Gm) (kd : Kd) (r : List V → Hp → VK → Prop) (ks : List Arg) (op : List D → Option D) : Prop := ∀ F B H, Same F B → Same B H → ∀ xs vs, ArR G F H ks xs vs → ∀ d, op xs = some d → ∀ Q, PostV G kd F B H Q d → r vs H Q
def Az (op : D → D → Option D) (fa fb : En → M D) : En → M D := fun ρ => (fa ρ).bnd fun x => (fb ρ).bnd fun y => up1 (op x y)
def Fb (op : D → Option D) (fa : En → M D) : En → M D := fun ρ => (fa ρ).bnd fun x => up1 (op x)
theorem KR.weak {kd : Kd} {H H1 F' B' H' : Hp} {d : D} {v : V} (e : Same H H1) (h : KR G kd H1 F' B' H' d v) : KR G kd H F' B' H' d v := by
  cases kd with
  | shared => exact h
  | peek => exact h
  | borrow => exact h
  | fresh =>
    have h : (if d.isMut = true then ∃ p, v = .ref p ∧ H1 p = none ∧ B' p = none ∧ OwnO G F' H' p d else Rep G F' d v) := h
    show (if d.isMut = true then ∃ p, v = .ref p ∧ H p = none ∧ B' p = none ∧ OwnO G F' H' p d else Rep G F' d v)
    by_cases hm : d.isMut = true
    · rw [if_pos hm] at h ⊢
      obtain ⟨p, e1, e2, e3⟩ := h
      exact ⟨p, e1, e.free e2, e3⟩
    · rw [if_neg hm] at h ⊢
      exact h
theorem PostE.weak {F B H F1 B1 H1 : Hp} {σ : L2.St} {Q : VK} {r : Except Xc D} (u : Up F B H F1 B1 H1) (q : PostE G W kd F B H σ Q r) : PostE G W kd F1 B1 H1 σ Q r := by
  cases r with
  | ok d => exact fun F' B' H' v u' hk => q F' B' H' v (u.trans u') (hk.weak u.h)
  | error x => exact fun F' B' H' cls dx u' hx => q F' B' H' cls dx (u.trans u') hx
theorem PostT.weak {F B H F1 B1 H1 : Hp} {σ : L2.St} {Q : Bool → Hp → Prop} {r : Except Xc Bool} (u : Up F B H F1 B1 H1) (q : PostT G W F B H σ Q r) : PostT G W F1 B1 H1 σ Q r := by
  cases r with
  | ok d => exact fun F' B' H' u' => q F' B' H' (u.trans u')
  | error x => exact fun F' B' H' cls dx u' hx => q F' B' H' cls dx (u.trans u') hx
theorem PostA.weak {ks : List Arg} {F B H F1 B1 H1 : Hp} {σ : L2.St} {Q : List V → Hp → Prop} {r : Except Xc (List D)} (u : Up F B H F1 B1 H1) (q : PostA G W ks F B H σ Q r) : PostA G W ks F1 B1 H1 σ Q r := by
  cases r with
  | ok d => exact fun F' B' H' vs u' hk => q F' B' H' vs (u.trans u') hk
  | error x => exact fun F' B' H' cls dx u' hx => q F' B' H' cls dx (u.trans u') hx
theorem PostE.v {F B H : Hp} {σ : L2.St} {Q : VK} {d : D} (q : PostE G W kd F B H σ Q (.ok d)) : PostV G kd F B H Q d := q
theorem spec_bin {ta tb : TE} {r : R2} {op : D → D → Option D} (ha : SpecE G W .peek ta fa) (hb : SpecE G W .peek tb fb) (ho : OpS G kd r op) : SpecE G W kd (tOp r ta tb) (Az op fa fb) := by
  intro Z F B H σ ρ s r' hr Q q
  rcases bnd_some hr with ⟨x, ex, hr⟩ | ⟨x, ex, rfl⟩
  · refine ha Z F B H σ ρ s _ ex _ fun F1 B1 H1 v1 u1 k1 => ?_
    rcases bnd_some hr with ⟨y, ey, hr⟩ | ⟨y, ey, rfl⟩
    · refine hb Z F1 B1 H1 σ ρ (s.up u1) _ ey _ fun F2 B2 H2 v2 u2 k2 => ?_
      obtain ⟨d, ed, rfl⟩ := up1_ok hr
      exact ho F2 B2 H2 u2.fb u2.bh x y v1 v2 (Top.mono u2.f u2.h k1) k2 d ed Q (q.weak (u1.trans u2))
    · exact hb Z F1 B1 H1 σ ρ (s.up u1) _ ey _ (fun F' B' H' cls dx u hx => q F' B' H' cls dx (u1.trans u) hx)
  · exact ha Z F B H σ ρ s _ ex _ q
theorem je_bin {o : Operator} {r : R2} {op : D → D → Option D} (hr : ∀ X, CnE G k W N sc X → OpR X (binaryOp o) r) (ho : OpS G kd r op) (ha : JE G k W N sc .peek a fa) (hb : JE G k W N sc .peek b fb) : JE G k W N sc kd (.BinOp a o b pos) (Az op fa fb) := by
  obtain ⟨ta, a1, a2⟩ := ha
  obtain ⟨tb, b1, b2⟩ := hb
  exact ⟨_, fun X c => pe_op (hr X c) (a1 X c) (b1 X c), spec_bin a2 b2 ho⟩
theorem je_cmp {o : CmpOp} {r : R2} {op : D → D → Option D} (hr : ∀ X, CnE G k W N sc X → OpR X (compareOp o) r) (ho : OpS G kd r op) (ha : JE G k W N sc .peek a fa) (hb : JE G k W N sc .peek b fb) (hm : behindInMarks o b = false) : JE G k W N sc kd (.Compare a [o] [b] pos) (Az op fa fb) := by
  obtain ⟨ta, a1, a2⟩ := ha
  obtain ⟨tb, b1, b2⟩ := hb
  exact ⟨_, fun X c => pe_cmpR (hr X c) (a1 X c) (b1 X c) hm, spec_bin a2 b2 ho⟩
def Eg : D → Option Bool
  | .bl b => some b
  | _ => none
def Cc (f : En → M D) : En → M Bool := fun ρ => (f ρ).bnd fun x => up1 (Eg x)
theorem isBl_some {d : D} {b : Bool} (h : Eg d = some b) : d = .bl b := by
  cases d <;> first | (cases h; rfl) | cases h
theorem spec_tst {te : TE} (h : SpecE G W .peek te f) : SpecT G W (tTest te) (Cc f) := by
  intro Z F B H σ ρ s r hr Q q
  rcases bnd_some hr with ⟨x, ex, hr⟩ | ⟨x, ex, rfl⟩
  · refine h Z F B H σ ρ s _ ex _ fun F1 B1 H1 v1 u1 k1 => ?_
    obtain ⟨b, eb, rfl⟩ := up1_ok hr
    rw [isBl_some eb] at k1
    exact ⟨b, k1, q F1 B1 H1 u1⟩
  · exact h Z F B H σ ρ s _ ex _ q
theorem jt_cmp {o : CmpOp} {r : R2} {op : D → D → Option D} (hr : ∀ X, CnE G k W N sc X → OpR X (compareOp o) r) (ho : OpS G .peek r op) (ha : JE G k W N sc .peek a fa) (hb : JE G k W N sc .peek b fb) (hm : behindInMarks o b = false) : JT G k W N sc (.Compare a [o] [b] pos) (Cc (Az op fa fb)) := by
  obtain ⟨ta, a1, a2⟩ := ha
  obtain ⟨tb, b1, b2⟩ := hb
  exact ⟨_, fun X c => pt_cmpR (hr X c) (a1 X c) (b1 X c) hm, spec_tst (spec_bin a2 b2 ho)⟩
theorem jt_val (h : JE G k W N sc .peek e f) (he : ∀ (X : Cx) whole, isTrue e X.env whole = (do let v ← whole; standAt e.pos; holding [v] (truthy v))) : JT G k W N sc e (Cc f) := by
  obtain ⟨te, h1, h2⟩ := h
  exact ⟨_, fun X c => pt_val (h1 X c) (he X), spec_tst h2⟩
end
end DL
namespace DL
open PySem PySem.Spec L2
section
variable {G : Gm} {kd : Kd} {F B H : Hp} {Q : VK}
theorem none_of_same {H H' : Hp} (e : Same H H') {p : Addr} (h : H' p = none) : H p = none := e.free h
theorem PostV.here {d : D} {v : V} (q : PostV G kd F B H Q d) (fb : Same F B) (bh : Same B H) (hm : d.isMut = false) (h : Rep G F d v) : Q v H := q F B H v (Up.refl fb bh) (KR.scal hm h)
theorem PostV.newL {ds : List D} {vs : List V} {p : Addr} (q : PostV G .fresh F B H Q (.lst ds)) (fb : Same F B) (bh : Same B H) (h : RepL G F ds vs) (hp : H p = none) : Q (.ref p) (upd H p (.lst vs)) :=
  q F B _ _ (Up.new fb bh hp) ⟨p, rfl, hp, bh.free hp, vs, upd_same, h⟩
theorem PostV.newT {ds : List D} {vs : List V} (q : PostV G kd F B H Q (.tup ds)) (fb : Same F B) (bh : Same B H) (h : RepL G F ds vs) : NewT H vs Q := fun p o hp hd => by
  have u := (Up.new (o := .frz o (.tup vs)) fb bh hp).share hp (bh.free hp) upd_same
  exact q _ _ _ _ u (KR.scal rfl ⟨p, vs, rfl, GT.of upd_same hd, h.mono u.f⟩)
theorem topL {ds : List D} {v : V} (h : Top G F H (.lst ds) v) : ∃ p vs, v = .ref p ∧ H p = some (.lst vs) ∧ RepL G F ds vs := by
  obtain ⟨p, e, vs, h1, h2⟩ := h
  exact ⟨p, vs, e, h1, h2⟩
theorem topT {ds : List D} {v : V} (fh : Same F H) (h : Top G F H (.tup ds) v) : ∃ p vs, v = .ref p ∧ SqT G.K H p vs ∧ RepL G F ds vs := by
  obtain ⟨p, vs, e, h1, h2⟩ := h
  exact ⟨p, vs, e, (h1.mono fh).sq, h2⟩
theorem topG {ds : List D} {v : V} (fh : Same F H) (h : Top G F H (.tup ds) v) : ∃ p vs, v = .ref p ∧ GT G.K H p vs ∧ RepL G F ds vs := by
  obtain ⟨p, vs, e, h1, h2⟩ := h
  exact ⟨p, vs, e, h1.mono fh, h2⟩
theorem topS {l : List Int} {v : V} (fh : Same F H) (h : Top G F H (.scr l) v) : ∃ p, v = .ref p ∧ SqL G.K H p (l.map V.int) := by
  obtain ⟨p, e, h1⟩ := h
  exact ⟨p, e, fh.seq h1⟩
end
def orO (o1 o2 : D → D → Option D) : D → D → Option D := fun x y => (o1 x y).or (o2 x y)
theorem OpS.or {G : Gm} {kd : Kd} {r1 r2 : R2} {o1 o2 : D → D → Option D} (h1 : OpS G kd r1 o1) (h2 : OpS G kd r2 o2) : OpS G kd (fun x y H Q => r1 x y H Q ∨ r2 x y H Q) (orO o1 o2) := by
  intro F B H fb bh x y v w hx hy d hd Q q
  unfold orO at hd
  cases e : o1 x y with
  | some d' =>
    rw [e] at hd
    have e' : d' = d := Option.some.inj hd
    subst e'
    exact .inl (h1 F B H fb bh x y v w hx hy _ e Q q)
  | none =>
    rw [e] at hd
    exact .inr (h2 F B H fb bh x y v w hx hy d hd Q q)
def orC (o1 o2 : List D → Option D) : List D → Option D := fun x => (o1 x).or (o2 x)
theorem CaS.or {G : Gm} {kd : Kd} {r1 r2 : List V → Hp → VK → Prop} {ks : List Arg} {o1 o2 : List D → Option D} (h1 : CaS G kd r1 ks o1) (h2 : CaS G kd r2 ks o2) : CaS G kd (fun x H Q => r1 x H Q ∨ r2 x H Q) ks (orC o1 o2) := by
  intro F B H fb bh x v hx d hd Q q
  unfold orC at hd
  cases e : o1 x with
  | some d' =>
    rw [e] at hd
    have e' : d' = d := Option.some.inj hd
    subst e'
    exact .inl (h1 F B H fb bh x v hx _ e Q q)
  | none =>
    rw [e] at hd
    exact .inr (h2 F B H fb bh x v hx d hd Q q)
section
variable {G : Gm} {kd : Kd}
def o2I (C : Int → Int → Bool) (g : Int → Int → D) : D → D → Option D
  | .int i, .int j => if C i j = true then some (g i j) else none
  | _, _ => none
theorem s2I {C : Int → Int → Prop} {c : Int → Int → Bool} {g : Int → Int → D} {gv : Int → Int → V} (hc : ∀ i j, c i j = true → C i j) (hm : ∀ i j, (g i j).isMut = false) (hg : ∀ i j F, Rep G F (g i j) (gv i j)) : OpS G kd (rI C gv) (o2I c g) := by
  intro F B H fb bh x y v w hx hy d hd Q q
  unfold o2I at hd
  split at hd
  · rename_i i j
    split at hd
    · rename_i h
      have e := Option.some.inj hd
      subst e
      exact ⟨i, j, hx, hy, hc i j h, q.here fb bh (hm i j) (hg i j F)⟩
    · cases hd
  · cases hd
def Er (g : Int → Int → D) : D → D → Option D
  | .int i, .int j => some (g i j)
  | _, _ => none
theorem s2I0 {g : Int → Int → D} {gv : Int → Int → V} (hm : ∀ i j, (g i j).isMut = false) (hg : ∀ i j F, Rep G F (g i j) (gv i j)) : OpS G kd (rI0 gv) (Er g) := by
  intro F B H fb bh x y v w hx hy d hd Q q
  unfold Er at hd
  split at hd
  · rename_i i j
    have e := Option.some.inj hd
    subst e
    exact ⟨i, j, hx, hy, q.here fb bh (hm i j) (hg i j F)⟩
  · cases hd
def addT : D → D → Option D
  | .tup xs, .tup ys => if xs.length + ys.length ≤ LIM then some (.tup (xs ++ ys)) else none
  | _, _ => none
theorem s_addT : OpS G kd (rCatF G.K) addT := by
  intro F B H fb bh x y v w hx hy d hd Q q
  unfold addT at hd
  split at hd
  · rename_i xs ys
    split at hd
    · rename_i h
      have e := Option.some.inj hd
      subst e
      obtain ⟨p, vs, rfl, h1, h2⟩ := topT (fb.trans bh) hx
      obtain ⟨p', vs', rfl, h1', h2'⟩ := topT (fb.trans bh) hy
      refine ⟨p, p', vs, vs', rfl, rfl, h1, h1', lim_line (by rw [h2.length, h2'.length]; exact h), fun e => ?_, fun e e' => ?_, fun e e' => q.newT fb bh (h2.app h2')⟩
      · have e0 : xs = [] := List.eq_nil_of_length_eq_zero (by rw [← h2.length, e]; rfl)
        subst e0
        exact q.here fb bh rfl hy
      · have e0 : ys = [] := List.eq_nil_of_length_eq_zero (by rw [← h2'.length, e']; rfl)
        subst e0
        refine q.here fb bh rfl ?_
        rw [List.append_nil]
        exact hx
    · cases hd
  · cases hd
def addL : D → D → Option D
  | .lst xs, .lst ys => if xs.length + ys.length ≤ LIM then some (.lst (xs ++ ys)) else none
  | _, _ => none
theorem s_addL : OpS G .fresh rCat addL := by
  intro F B H fb bh x y v w hx hy d hd Q q
  unfold addL at hd
  split at hd
  · rename_i xs ys
    split at hd
    · rename_i h
      have e := Option.some.inj hd
      subst e
      obtain ⟨p, vs, rfl, h1, h2⟩ := topL hx
      obtain ⟨p', vs', rfl, h1', h2'⟩ := topL hy
      exact ⟨p, p', vs, vs', rfl, rfl, h1, h1', lim_line (by rw [h2.length, h2'.length]; exact h), fun a ha => q.newL fb bh (h2.app h2') ha⟩
    · cases hd
  · cases hd
def addS : D → D → Option D
  | .str x, .str y => if x.length + y.length ≤ LIM then some (.str (x ++ y)) else none
  | _, _ => none
def rAddStr : R2 := fun x y H Q => ∃ i j, x = .str i ∧ y = .str j ∧ i.length + j.length ≤ sizeLine ∧ Q (.str (i ++ j)) H
theorem s_addS : OpS G kd rAddStr addS := by
  intro F B H fb bh x y v w hx hy d hd Q q
  unfold addS at hd
  split at hd
  · rename_i x y
    split at hd
    · rename_i h
      have e := Option.some.inj hd
      subst e
      exact ⟨x, y, hx, hy, lim_line h, q.here fb bh rfl rfl⟩
    · cases hd
  · cases hd
def D.add : D → D → Option D := orO (Er fun i j => .int (i + j)) (orO addT (orO addL addS))
def rAddD (K : PySem.W.Frag) : R2 := fun x y H Q => (rI0 fun i j => .int (i + j)) x y H Q ∨ (fun x y H Q => rCatF K x y H Q ∨ (fun x y H Q => rCat x y H Q ∨ rAddStr x y H Q) x y H Q) x y H Q
theorem s_add : OpS G .fresh (rAddD G.K) D.add := (s2I0 (g := fun i j => .int (i + j)) (gv := fun i j => .int (i + j)) (fun _ _ => rfl) fun _ _ _ => rfl).or (s_addT.or (s_addL.or s_addS))
theorem op_addD {X : Cx} : OpR X (binaryOp .Add) (rAddD X.K) := op_add.or (op_catF.or (op_cat.or op_add_str))
def D.sub : D → D → Option D := Er fun i j => .int (i - j)
def cMod (i j : Int) : Bool := decide (0 < j)
def D.mod : D → D → Option D := o2I cMod fun i j => .int (i % j)
def cDiv (i j : Int) : Bool := decide (0 < j) && decide (j < 1073741824)
def D.div : D → D → Option D := o2I cDiv fun i j => .int (i / j)
def cPow (i j : Int) : Bool := decide (0 ≤ j) && decide (j ≤ 1000000) && decide (i.natAbs < 2 ^ 64)
def D.pow : D → D → Option D := o2I cPow fun i j => .int (i ^ j.toNat)
def cMul (i j : Int) : Bool := (decide (-(2 ^ 64) < i) && decide (i < 2 ^ 64)) || (decide (-(2 ^ 64) < j) && decide (j < 2 ^ 64))
def mulI : D → D → Option D := o2I cMul fun i j => .int (i * j)
def mulL : D → D → Option D
  | .lst xs, .int n => if -1000000 ≤ n ∧ n ≤ 1000000 ∧ xs.length * n.toNat ≤ LIM then some (.lst (List.replicate n.toNat xs).flatten) else none
  | _, _ => none
theorem RepL.rep {F : Hp} {ds : List D} {vs : List V} (h : RepL G F ds vs) : ∀ n : Nat, RepL G F (List.replicate n ds).flatten (List.replicate n vs).flatten
  | 0 => rfl
  | n + 1 => by
    rw [List.replicate_succ, List.replicate_succ, List.flatten_cons, List.flatten_cons]
    exact h.app (RepL.rep h n)
theorem s_mulL : OpS G .fresh rRep mulL := by
  intro F B H fb bh x y v w hx hy d hd Q q
  unfold mulL at hd
  split at hd
  · rename_i xs n
    split at hd
    · rename_i h
      obtain ⟨ha, hb, hc⟩ := h
      have e := Option.some.inj hd
      subst e
      obtain ⟨p, vs, rfl, h1, h2⟩ := topL hx
      exact ⟨p, n, vs, rfl, hy, h1, by omega, by omega, lim_line (by rw [h2.length]; exact hc), fun a ha => q.newL fb bh (h2.rep n.toNat) ha⟩
    · cases hd
  · cases hd
def D.mul : D → D → Option D := orO mulI mulL
def rMulD : R2 := fun x y H Q => (rI CMul fun i j => .int (i * j)) x y H Q ∨ rRep x y H Q
theorem s_mulI : OpS G kd (rI CMul fun i j => .int (i * j)) mulI := s2I (fun i j h => by
  unfold cMul at h
  simp only [Bool.or_eq_true, Bool.and_eq_true, decide_eq_true_eq] at h
  exact h) (fun _ _ => rfl) fun _ _ _ => rfl
theorem s_mul : OpS G .fresh rMulD D.mul := s_mulI.or s_mulL
theorem op_mulD {X : Cx} : OpR X (binaryOp .Mult) rMulD := op_mul.or op_rep
variable {k : Nat} {W : WX} {N : List Str} {sc : Scope} {e a b : Expr} {f fa fb : En → M D} {pos : Pos}
theorem je_add (ha : JE G k W N sc .peek a fa) (hb : JE G k W N sc .peek b fb) : JE G k W N sc .fresh (.BinOp a .Add b pos) (Az D.add fa fb) := je_bin (fun X c => by rw [← c.hK]; exact op_addD) s_add ha hb
theorem je_sub (ha : JE G k W N sc .peek a fa) (hb : JE G k W N sc .peek b fb) : JE G k W N sc kd (.BinOp a .Sub b pos) (Az D.sub fa fb) := je_bin (fun X c => op_sub) (s2I0 (fun _ _ => rfl) fun _ _ _ => rfl) ha hb
theorem je_mod (ha : JE G k W N sc .peek a fa) (hb : JE G k W N sc .peek b fb) : JE G k W N sc kd (.BinOp a .Mod b pos) (Az D.mod fa fb) := je_bin (fun X c => op_mod) (s2I (fun i j h => of_decide_eq_true h) (fun _ _ => rfl) fun _ _ _ => rfl) ha hb
theorem je_div (ha : JE G k W N sc .peek a fa) (hb : JE G k W N sc .peek b fb) : JE G k W N sc kd (.BinOp a .FloorDiv b pos) (Az D.div fa fb) := je_bin (fun X c => op_fdiv) (s2I (fun i j h => by
  unfold cDiv at h
  simp only [Bool.and_eq_true, decide_eq_true_eq] at h
  exact h) (fun _ _ => rfl) fun _ _ _ => rfl) ha hb
theorem je_pow (ha : JE G k W N sc .peek a fa) (hb : JE G k W N sc .peek b fb) : JE G k W N sc kd (.BinOp a .Pow b pos) (Az D.pow fa fb) := je_bin (fun X c => op_pow) (s2I (fun i j h => by
  unfold cPow at h
  simp only [Bool.and_eq_true, decide_eq_true_eq] at h
  exact ⟨h.1.1, h.1.2, h.2⟩) (fun _ _ => rfl) fun _ _ _ => rfl) ha hb
theorem je_mul (ha : JE G k W N sc .peek a fa) (hb : JE G k W N sc .peek b fb) : JE G k W N sc .fresh (.BinOp a .Mult b pos) (Az D.mul fa fb) := je_bin (fun X c => op_mulD) s_mul ha hb
def ints? : List D → Option (List Int)
  | [] => some []
  | .int i :: ds => (ints? ds).map (i :: ·)
  | _ :: _ => none
theorem ints?_eq : ∀ {ds : List D} {ns : List Int}, ints? ds = some ns → ds = ns.map D.int
  | [], ns, h => by
    have e := Option.some.inj h
    subst e
    rfl
  | .int i :: ds, ns, h => by
    have h : (ints? ds).map (i :: ·) = some ns := h
    cases e : ints? ds with
    | none => rw [e] at h; cases h
    | some ms =>
      rw [e] at h
      have e2 := Option.some.inj h
      subst e2
      rw [ints?_eq e]
      rfl
  | .non :: _, _, h => nomatch h
  | .bl _ :: _, _, h => nomatch h
  | .str _ :: _, _, h => nomatch h
  | .tup _ :: _, _, h => nomatch h
  | .lst _ :: _, _, h => nomatch h
  | .dct _ :: _, _, h => nomatch h
  | .obj _ _ :: _, _, h => nomatch h
  | .scr _ :: _, _, h => nomatch h
  | .typ _ :: _, _, h => nomatch h
  | .cls _ :: _, _, h => nomatch h
theorem ints?_map : ∀ ns : List Int, ints? (ns.map D.int) = some ns
  | [] => rfl
  | n :: ns => by
    show (ints? (ns.map D.int)).map (n :: ·) = some (n :: ns)
    rw [ints?_map ns]
    rfl
def ltT : D → D → Option D
  | .tup xs, .tup ys => match ints? xs, ints? ys with
    | some ns, some ms => some (.bl (HT.lexLt ns ms))
    | _, _ => none
  | _, _ => none
theorem s_ltT : OpS G kd (rLtT G.K) ltT := by
  intro F B H fb bh x y v w hx hy d hd Q q
  unfold ltT at hd
  split at hd
  · rename_i xs ys
    split at hd
    · rename_i ns ms e1 e2
      have e := Option.some.inj hd
      subst e
      obtain ⟨p, vs, rfl, h1, h2⟩ := topT (fb.trans bh) hx
      obtain ⟨p', vs', rfl, h1', h2'⟩ := topT (fb.trans bh) hy
      rw [ints?_eq e1] at h2
      rw [ints?_eq e2] at h2'
      rw [h2.ints] at h1
      rw [h2'.ints] at h1'
      exact ⟨p, p', ns, ms, rfl, rfl, h1, h1', q.here fb bh rfl rfl⟩
    · cases hd
  · cases hd
def D.lt : D → D → Option D := orO (Er fun i j => .bl (decide (i < j))) ltT
def D.le : D → D → Option D := Er fun i j => .bl (decide (i ≤ j))
def D.gt : D → D → Option D := Er fun i j => .bl (decide (j < i))
def D.ge : D → D → Option D := Er fun i j => .bl (decide (j ≤ i))
theorem s_lt : OpS G kd (fun x y H Q => rI0 (fun i j => .bl (decide (i < j))) x y H Q ∨ rLtT G.K x y H Q) D.lt := (s2I0 (g := fun i j => .bl (decide (i < j))) (gv := fun i j => .bl (decide (i < j))) (fun _ _ => rfl) fun _ _ _ => rfl).or s_ltT
theorem hu0 {X : Cx} (c : CnE G k W N sc X) : X.A.units < cLine := by have := c.room.units; omega
theorem hu64 {X : Cx} (c : CnE G k W N sc X) : X.A.units + 64 < cLine := c.room.units
theorem op_ltD {X : Cx} (c : CnE G k W N sc X) : OpR X (compareOp .Lt) (fun x y H Q => rI0 (fun i j => .bl (decide (i < j))) x y H Q ∨ rLtT G.K x y H Q) := op_lt.or (by rw [← c.hK]; exact op_ltT (hu0 c))
theorem jt_lt (ha : JE G k W N sc .peek a fa) (hb : JE G k W N sc .peek b fb) : JT G k W N sc (.Compare a [.Lt] [b] pos) (Cc (Az D.lt fa fb)) := jt_cmp (fun X c => op_ltD c) s_lt ha hb (nomark _)
theorem jt_le (ha : JE G k W N sc .peek a fa) (hb : JE G k W N sc .peek b fb) : JT G k W N sc (.Compare a [.LtE] [b] pos) (Cc (Az D.le fa fb)) := jt_cmp (fun X c => op_le) (s2I0 (fun _ _ => rfl) fun _ _ _ => rfl) ha hb (nomark _)
theorem jt_gt (ha : JE G k W N sc .peek a fa) (hb : JE G k W N sc .peek b fb) : JT G k W N sc (.Compare a [.Gt] [b] pos) (Cc (Az D.gt fa fb)) := jt_cmp (fun X c => op_gt) (s2I0 (fun _ _ => rfl) fun _ _ _ => rfl) ha hb (nomark _)
theorem jt_ge (ha : JE G k W N sc .peek a fa) (hb : JE G k W N sc .peek b fb) : JT G k W N sc (.Compare a [.GtE] [b] pos) (Cc (Az D.ge fa fb)) := jt_cmp (fun X c => op_ge) (s2I0 (fun _ _ => rfl) fun _ _ _ => rfl) ha hb (nomark _)
mutual
def toP : D → Option PyData
  | .non => some .none
  | .bl b => some (.bool b)
  | .int i => some (.int i)
  | .str s => some (.str s)
  | .tup l => (toPs l).map .tuple
  | .lst l => (toPs l).map .list
  | _ => none
def toPs : List D → Option (List PyData)
  | [] => some []
  | d :: ds => match toP d, toPs ds with
    | some x, some xs => some (x :: xs)
    | _, _ => none
end
mutual
theorem toP_dp {F H : Hp} (fh : Same F H) : ∀ (d : D) (v : V) (x : PyData), toP d = some x → Rep G F d v → Dp G.K H v x
  | .non, v, x, h, r => by
    have e := Option.some.inj h
    subst e
    rw [show v = .non from r]
    exact .non
  | .bl b, v, x, h, r => by
    have e := Option.some.inj h
    subst e
    rw [show v = .bl b from r]
    exact .bl b
  | .int b, v, x, h, r => by
    have e := Option.some.inj h
    subst e
    rw [show v = .int b from r]
    exact .int b
  | .str b, v, x, h, r => by
    have e := Option.some.inj h
    subst e
    rw [show v = .str b from r]
    exact .str b
  | .tup l, v, x, h, r => by
    have h : (toPs l).map PyData.tuple = some x := h
    cases e : toPs l with
    | none => rw [e] at h; cases h
    | some xs =>
      rw [e] at h
      have e2 := Option.some.inj h
      subst e2
      obtain ⟨p, vs, rfl, h1, h2⟩ := topT fh r
      exact .tup h1 (toPs_dp fh l vs xs e h2)
  | .lst l, v, x, h, r => by
    have h : (toPs l).map PyData.list = some x := h
    cases e : toPs l with
    | none => rw [e] at h; cases h
    | some xs =>
      rw [e] at h
      have e2 := Option.some.inj h
      subst e2
      obtain ⟨p, vs, rfl, h1, h2⟩ := r
      exact .lst (SqL.of (fh _ _ h1)) (toPs_dp fh l vs xs e h2)
  | .dct _, v, x, h, r => nomatch h
  | .obj _ _, v, x, h, r => nomatch h
  | .scr _, v, x, h, r => nomatch h
  | .typ _, v, x, h, r => nomatch h
  | .cls _, v, x, h, r => nomatch h
theorem toPs_dp {F H : Hp} (fh : Same F H) : ∀ (ds : List D) (vs : List V) (xs : List PyData), toPs ds = some xs → RepL G F ds vs → DpAll G.K H vs xs
  | [], vs, xs, h, r => by
    have e := Option.some.inj h
    subst e
    rw [show vs = [] from r]
    exact .nil
  | d :: ds, vs, xs, h, r => by
    obtain ⟨v, vs', rfl, h1, h2⟩ := r
    have h : (match toP d, toPs ds with
      | some x, some xs => some (x :: xs)
      | _, _ => none) = some xs := h
    split at h
    · rename_i x ys e1 e2
      have e := Option.some.inj h
      subst e
      exact .cons (toP_dp fh d v x e1 h1) (toPs_dp fh ds vs' ys e2 h2)
    · cases h
end
theorem toP_top {F H : Hp} (fh : Same F H) : ∀ (d : D) (v : V) (x : PyData), toP d = some x → Top G F H d v → Dp G.K H v x
  | .lst l, v, x, h, r => by
    have h : (toPs l).map PyData.list = some x := h
    cases e : toPs l with
    | none => rw [e] at h; cases h
    | some xs =>
      rw [e] at h
      have e2 := Option.some.inj h
      subst e2
      obtain ⟨p, vs, rfl, h1, h2⟩ := topL r
      exact .lst (SqL.of h1) (toPs_dp fh l vs xs e h2)
  | .non, v, x, h, r => toP_dp fh _ v x h r
  | .bl _, v, x, h, r => toP_dp fh _ v x h r
  | .int _, v, x, h, r => toP_dp fh _ v x h r
  | .str _, v, x, h, r => toP_dp fh _ v x h r
  | .tup _, v, x, h, r => toP_dp fh _ v x h r
  | .dct _, v, x, h, r => nomatch h
  | .obj _ _, v, x, h, r => nomatch h
  | .scr _, v, x, h, r => nomatch h
  | .typ _, v, x, h, r => nomatch h
  | .cls _, v, x, h, r => nomatch h
def D.eqd : D → D → Option Bool := fun x y => match toP x, toP y with
  | some a, some b => if SeqAt.shaped a = true ∧ SeqAt.shaped b = true then some (PyData.eqv a b) else none
  | _, _ => none
def D.eq : D → D → Option D := fun x y => (D.eqd x y).map .bl
def D.ne : D → D → Option D := fun x y => (D.eqd x y).map fun b => .bl (!b)
theorem eqd_some {x y : D} {b : Bool} (h : D.eqd x y = some b) : ∃ a c, toP x = some a ∧ toP y = some c ∧ SeqAt.shaped a = true ∧ SeqAt.shaped c = true ∧ PyData.eqv a c = b := by
  unfold D.eqd at h
  split at h
  · rename_i a c e1 e2
    split at h
    · rename_i hs
      exact ⟨a, c, e1, e2, hs.1, hs.2, Option.some.inj h⟩
    · cases h
  · cases h
theorem s_eq : OpS G kd (rEqD G.K) D.eq := by
  intro F B H fb bh x y v w hx hy d hd Q q
  unfold D.eq at hd
  cases e : D.eqd x y with
  | none => rw [e] at hd; cases hd
  | some b =>
    rw [e] at hd
    have e2 := Option.some.inj hd
    subst e2
    obtain ⟨a, c, h1, h2, h3, h4, rfl⟩ := eqd_some e
    exact ⟨a, c, toP_top (fb.trans bh) x v a h1 hx, toP_top (fb.trans bh) y w c h2 hy, h3, h4, q.here fb bh rfl rfl⟩
theorem s_ne : OpS G kd (rNeD G.K) D.ne := by
  intro F B H fb bh x y v w hx hy d hd Q q
  unfold D.ne at hd
  cases e : D.eqd x y with
  | none => rw [e] at hd; cases hd
  | some b =>
    rw [e] at hd
    have e2 := Option.some.inj hd
    subst e2
    obtain ⟨a, c, h1, h2, h3, h4, rfl⟩ := eqd_some e
    exact ⟨a, c, toP_top (fb.trans bh) x v a h1 hx, toP_top (fb.trans bh) y w c h2 hy, h3, h4, q.here fb bh rfl rfl⟩
theorem je_eq (ha : JE G k W N sc .peek a fa) (hb : JE G k W N sc .peek b fb) : JE G k W N sc kd (.Compare a [.Eq] [b] pos) (Az D.eq fa fb) := je_cmp (fun X c => by rw [← c.hK]; exact op_eqD (hu64 c)) s_eq ha hb (nomark _)
theorem jt_eq (ha : JE G k W N sc .peek a fa) (hb : JE G k W N sc .peek b fb) : JT G k W N sc (.Compare a [.Eq] [b] pos) (Cc (Az D.eq fa fb)) := jt_cmp (fun X c => by rw [← c.hK]; exact op_eqD (hu64 c)) s_eq ha hb (nomark _)
theorem jt_ne (ha : JE G k W N sc .peek a fa) (hb : JE G k W N sc .peek b fb) : JT G k W N sc (.Compare a [.NotEq] [b] pos) (Cc (Az D.ne fa fb)) := jt_cmp (fun X c => by rw [← c.hK]; exact op_neD (hu64 c)) s_ne ha hb (nomark _)
def Ei : D → Bool
  | .non => true
  | _ => false
def D.isN : D → D → Option D
  | x, .non => some (.bl (Ei x))
  | _, _ => none
def D.isNot : D → D → Option D
  | x, .non => some (.bl (!Ei x))
  | _, _ => none
theorem top_non {F H : Hp} : ∀ {x : D} {v : V}, Top G F H x v → decide (v = V.non) = Ei x
  | .non, v, h => by rw [show v = .non from h]; rfl
  | .bl _, v, h => by rw [show v = .bl _ from h]; rfl
  | .int _, v, h => by rw [show v = .int _ from h]; rfl
  | .str _, v, h => by rw [show v = .str _ from h]; rfl
  | .typ _, v, h => by rw [show v = .ty _ from h]; rfl
  | .cls _, v, h => by obtain ⟨C, ns, _, rfl⟩ := h; rfl
  | .tup _, v, h => by obtain ⟨p, vs, rfl, _⟩ := h; rfl
  | .lst _, v, h => by obtain ⟨p, rfl, _⟩ := h; rfl
  | .obj _ _, v, h => by obtain ⟨p, rfl, _⟩ := h; rfl
  | .scr _, v, h => by obtain ⟨p, rfl, _⟩ := h; rfl
  | .dct _, v, h => by obtain ⟨p, rfl, _⟩ := h; rfl
def rIsNn : R2 := fun x y H Q => y = .non ∧ Q (.bl (decide (x = .non))) H
def rNotNn : R2 := fun x y H Q => y = .non ∧ Q (.bl (!decide (x = .non))) H
theorem s_isN : OpS G kd rIsNn D.isN := by
  intro F B H fb bh x y v w hx hy d hd Q q
  cases y <;> first
    | (have e := Option.some.inj hd
       subst e
       exact ⟨hy, by rw [top_non hx]; exact q.here fb bh rfl rfl⟩)
    | cases hd
theorem s_isNot : OpS G kd rNotNn D.isNot := by
  intro F B H fb bh x y v w hx hy d hd Q q
  cases y <;> first
    | (have e := Option.some.inj hd
       subst e
       exact ⟨hy, by rw [top_non hx]; exact q.here fb bh rfl rfl⟩)
    | cases hd
theorem jt_isN (ha : JE G k W N sc .peek a fa) (hb : JE G k W N sc .peek b fb) : JT G k W N sc (.Compare a [.Is] [b] pos) (Cc (Az D.isN fa fb)) := jt_cmp (fun X c => op_isN) s_isN ha hb (nomark _)
theorem jt_isNot (ha : JE G k W N sc .peek a fa) (hb : JE G k W N sc .peek b fb) : JT G k W N sc (.Compare a [.IsNot] [b] pos) (Cc (Az D.isNot fa fb)) := jt_cmp (fun X c => op_notN) s_isNot ha hb (nomark _)
def inD (x : D) (l : List D) : Option Bool := match toP x, toPs l with
  | some a, some bs => if SeqAt.shaped a = true ∧ SeqAt.shaped (.list bs) = true then some (bs.any fun z => PyData.eqv z a) else none
  | _, _ => none
def inL : D → D → Option Bool
  | x, .lst l => inD x l
  | _, _ => none
theorem inL_some {x y : D} {b : Bool} {F B H : Hp} {v w : V} (fb : Same F B) (bh : Same B H) (hx : Top G F H x v) (hy : Top G F H y w) (h : inL x y = some b) : ∃ d ds, Dp G.K H v d ∧ Dp G.K H w (.list ds) ∧ SeqAt.shaped d = true ∧ SeqAt.shaped (.list ds) = true ∧ (ds.any fun z => PyData.eqv z d) = b := by
  unfold inL at h
  split at h
  · rename_i l
    unfold inD at h
    split at h
    · rename_i a bs e1 e2
      split at h
      · rename_i hs
        refine ⟨a, bs, toP_top (fb.trans bh) x v a e1 hx, toP_top (fb.trans bh) (.lst l) w (.list bs) ?_ hy, hs.1, hs.2, Option.some.inj h⟩
        show (toPs l).map PyData.list = _
        rw [e2]
        rfl
      · cases h
    · cases h
  · cases h
def flatD : D → Option V
  | .non => some .non
  | .bl b => some (.bl b)
  | .int i => some (.int i)
  | .str s => some (.str s)
  | _ => none
def flatDs : List D → Option (List V)
  | [] => some []
  | d :: ds => match flatD d, flatDs ds with
    | some x, some xs => some (x :: xs)
    | _, _ => none
theorem flatD_rep {F : Hp} : ∀ {d : D} {v u : V}, flatD d = some u → Rep G F d v → v = u ∧ flatV u = true
  | .non, v, u, h, r => by
    have e := Option.some.inj h
    subst e
    exact ⟨r, rfl⟩
  | .bl b, v, u, h, r => by
    have e := Option.some.inj h
    subst e
    exact ⟨r, rfl⟩
  | .int i, v, u, h, r => by
    have e := Option.some.inj h
    subst e
    exact ⟨r, rfl⟩
  | .str s, v, u, h, r => by
    have e := Option.some.inj h
    subst e
    exact ⟨r, rfl⟩
  | .tup _, _, _, h, _ => nomatch h
  | .lst _, _, _, h, _ => nomatch h
  | .dct _, _, _, h, _ => nomatch h
  | .obj _ _, _, _, h, _ => nomatch h
  | .scr _, _, _, h, _ => nomatch h
  | .typ _, _, _, h, _ => nomatch h
  | .cls _, _, _, h, _ => nomatch h
theorem flatDs_rep {F : Hp} : ∀ {ds : List D} {vs us : List V}, flatDs ds = some us → RepL G F ds vs → vs = us ∧ us.all flatV = true
  | [], vs, us, h, r => by
    have e := Option.some.inj h
    subst e
    exact ⟨r, rfl⟩
  | d :: ds, vs, us, h, r => by
    obtain ⟨v, vs', rfl, h1, h2⟩ := r
    have h : (match flatD d, flatDs ds with
      | some x, some xs => some (x :: xs)
      | _, _ => none) = some us := h
    split at h
    · rename_i x ys e1 e2
      have e := Option.some.inj h
      subst e
      obtain ⟨rfl, f1⟩ := flatD_rep e1 h1
      obtain ⟨rfl, f2⟩ := flatDs_rep e2 h2
      exact ⟨rfl, by rw [List.all_cons, f1, f2]; rfl⟩
    · cases h
theorem flatD_top {F H : Hp} : ∀ {d : D} {v u : V}, flatD d = some u → Top G F H d v → v = u ∧ flatV u = true
  | .non, v, u, h, r => flatD_rep (G := G) (F := F) (d := .non) h r
  | .bl b, v, u, h, r => flatD_rep (G := G) (F := F) (d := .bl b) h r
  | .int b, v, u, h, r => flatD_rep (G := G) (F := F) (d := .int b) h r
  | .str b, v, u, h, r => flatD_rep (G := G) (F := F) (d := .str b) h r
  | .tup _, _, _, h, _ => nomatch h
  | .lst _, _, _, h, _ => nomatch h
  | .dct _, _, _, h, _ => nomatch h
  | .obj _ _, _, _, h, _ => nomatch h
  | .scr _, _, _, h, _ => nomatch h
  | .typ _, _, _, h, _ => nomatch h
  | .cls _, _, _, h, _ => nomatch h
def inT : D → D → Option Bool
  | x, .tup l => match flatD x, flatDs l with
    | some v, some vs => some (inV v vs)
    | _, _ => none
  | _, _ => none
def rInB (K : PySem.W.Frag) (neg : Bool) : R2 := fun x y H Q => (if neg = true then rNotInD K x y H Q else rInD K x y H Q) ∨ rIn K neg x y H Q
def inB (x y : D) : Option Bool := (inL x y).or (inT x y)
def D.inn : D → D → Option D := fun x y => (inB x y).map .bl
def D.nin : D → D → Option D := fun x y => (inB x y).map fun b => .bl (!b)
theorem inT_some {x y : D} {b : Bool} {F B H : Hp} {v w : V} (fb : Same F B) (bh : Same B H) (hx : Top G F H x v) (hy : Top G F H y w) (h : inT x y = some b) : ∃ p vs, w = .ref p ∧ SqT G.K H p vs ∧ flatV v = true ∧ vs.all flatV = true ∧ inV v vs = b := by
  unfold inT at h
  split at h
  · rename_i l
    split at h
    · rename_i u us e1 e2
      obtain ⟨rfl, f1⟩ := flatD_top e1 hx
      obtain ⟨p, vs, rfl, h1, h2⟩ := topT (fb.trans bh) hy
      obtain ⟨rfl, f2⟩ := flatDs_rep e2 h2
      exact ⟨p, vs, rfl, h1, f1, f2, Option.some.inj h⟩
    · cases h
  · cases h
theorem s_in : OpS G kd (rInB G.K false) D.inn := by
  intro F B H fb bh x y v w hx hy d hd Q q
  unfold D.inn inB at hd
  cases e : inL x y with
  | some b =>
    rw [e] at hd
    have e2 := Option.some.inj hd
    subst e2
    obtain ⟨d, ds, h1, h2, h3, h4, rfl⟩ := inL_some fb bh hx hy e
    exact .inl ⟨d, ds, h1, h2, h3, h4, q.here fb bh rfl rfl⟩
  | none =>
    rw [e] at hd
    cases e2 : inT x y with
    | none => rw [e2] at hd; cases hd
    | some b =>
      rw [e2] at hd
      have e3 := Option.some.inj hd
      subst e3
      obtain ⟨p, vs, rfl, h1, h2, h3, rfl⟩ := inT_some fb bh hx hy e2
      exact .inr ⟨p, vs, rfl, .inr h1, h2, h3, q.here fb bh rfl rfl⟩
theorem s_nin : OpS G kd (rInB G.K true) D.nin := by
  intro F B H fb bh x y v w hx hy d hd Q q
  unfold D.nin inB at hd
  cases e : inL x y with
  | some b =>
    rw [e] at hd
    have e2 := Option.some.inj hd
    subst e2
    obtain ⟨d, ds, h1, h2, h3, h4, rfl⟩ := inL_some fb bh hx hy e
    exact .inl ⟨d, ds, h1, h2, h3, h4, q.here fb bh rfl rfl⟩
  | none =>
    rw [e] at hd
    cases e2 : inT x y with
    | none => rw [e2] at hd; cases hd
    | some b =>
      rw [e2] at hd
      have e3 := Option.some.inj hd
      subst e3
      obtain ⟨p, vs, rfl, h1, h2, h3, rfl⟩ := inT_some fb bh hx hy e2
      exact .inr ⟨p, vs, rfl, .inr h1, h2, h3, q.here fb bh rfl rfl⟩
theorem hu65 {X : Cx} (c : CnE G k W N sc X) : X.A.units + 65 < cLine := by have := c.room.un; omega
theorem op_inB {X : Cx} (c : CnE G k W N sc X) : OpR X (compareOp .In) (rInB G.K false) := by
  rw [← c.hK]
  exact (op_inD (hu65 c)).or op_in_seq
theorem op_ninB {X : Cx} (c : CnE G k W N sc X) : OpR X (compareOp .NotIn) (rInB G.K true) := by
  rw [← c.hK]
  exact (op_notInD (hu65 c)).or op_notIn_seq
theorem je_in (ha : JE G k W N sc .peek a fa) (hb : JE G k W N sc .peek b fb) (hm : behindInMarks .In b = false) : JE G k W N sc kd (.Compare a [.In] [b] pos) (Az D.inn fa fb) := je_cmp (fun X c => op_inB c) s_in ha hb hm
theorem je_nin (ha : JE G k W N sc .peek a fa) (hb : JE G k W N sc .peek b fb) (hm : behindInMarks .NotIn b = false) : JE G k W N sc kd (.Compare a [.NotIn] [b] pos) (Az D.nin fa fb) := je_cmp (fun X c => op_ninB c) s_nin ha hb hm
theorem jt_in (ha : JE G k W N sc .peek a fa) (hb : JE G k W N sc .peek b fb) (hm : behindInMarks .In b = false) : JT G k W N sc (.Compare a [.In] [b] pos) (Cc (Az D.inn fa fb)) := jt_cmp (fun X c => op_inB c) s_in ha hb hm
theorem jt_nin (ha : JE G k W N sc .peek a fa) (hb : JE G k W N sc .peek b fb) (hm : behindInMarks .NotIn b = false) : JT G k W N sc (.Compare a [.NotIn] [b] pos) (Cc (Az D.nin fa fb)) := jt_cmp (fun X c => op_ninB c) s_nin ha hb hm
end
end DL
namespace DL
open PySem PySem.Spec L2
section
variable {G : Gm} {kd : Kd} {k : Nat} {W : WX} {N : List Str} {sc : Scope} {e a b c : Expr} {f fa fb fc : En → M D} {ga gb : En → M Bool} {pos : Pos} {rest : List Expr}
def Em (ga gb : En → M Bool) : En → M Bool := fun ρ => (ga ρ).bnd fun x => if x = true then gb ρ else some (.ok false)
def Ff (ga gb : En → M Bool) : En → M Bool := fun ρ => (ga ρ).bnd fun x => if x = true then some (.ok true) else gb ρ
def Cz (ga : En → M Bool) : En → M Bool := fun ρ => (ga ρ).bnd fun x => some (.ok (!x))
theorem JW.jt (h : JW G k W N sc e ga) : JT G k W N sc e ga := by
  obtain ⟨tt, h1, h2⟩ := h
  exact ⟨tt, fun X c => (h1 X c).pt, h2⟩
theorem jw_and1 (h : JT G k W N sc a ga) : JW G k W N sc (.BoolOp .And [a] pos) ga := by
  obtain ⟨tt, h1, h2⟩ := h
  exact ⟨tt, fun X c => pw_and1 (h1 X c), h2⟩
theorem jw_or1 (h : JT G k W N sc a ga) : JW G k W N sc (.BoolOp .Or [a] pos) ga := by
  obtain ⟨tt, h1, h2⟩ := h
  exact ⟨tt, fun X c => pw_or1 (h1 X c), h2⟩
theorem spec_and {ta tb : TT} (ha : SpecT G W ta ga) (hb : SpecT G W tb gb) : SpecT G W (tAnd ta tb) (Em ga gb) := by
  intro Z F B H σ ρ s r hr Q q
  rcases bnd_some hr with ⟨x, ex, hr⟩ | ⟨x, ex, rfl⟩
  · refine ha Z F B H σ ρ s _ ex _ fun F1 B1 H1 u1 => ?_
    cases x with
    | true =>
      show tb σ H1 Q
      exact hb Z F1 B1 H1 σ ρ (s.up u1) r hr Q (q.weak u1)
    | false =>
      show Q false H1
      have e := Option.some.inj (show some (Except.ok false) = some r from hr)
      subst e
      exact q F1 B1 H1 u1
  · exact ha Z F B H σ ρ s _ ex _ q
theorem spec_or {ta tb : TT} (ha : SpecT G W ta ga) (hb : SpecT G W tb gb) : SpecT G W (tOr ta tb) (Ff ga gb) := by
  intro Z F B H σ ρ s r hr Q q
  rcases bnd_some hr with ⟨x, ex, hr⟩ | ⟨x, ex, rfl⟩
  · refine ha Z F B H σ ρ s _ ex _ fun F1 B1 H1 u1 => ?_
    cases x with
    | false =>
      show tb σ H1 Q
      exact hb Z F1 B1 H1 σ ρ (s.up u1) r hr Q (q.weak u1)
    | true =>
      show Q true H1
      have e := Option.some.inj (show some (Except.ok true) = some r from hr)
      subst e
      exact q F1 B1 H1 u1
  · exact ha Z F B H σ ρ s _ ex _ q
theorem spec_not {ta : TT} (ha : SpecT G W ta ga) : SpecT G W (tNot ta) (Cz ga) := by
  intro Z F B H σ ρ s r hr Q q
  rcases bnd_some hr with ⟨x, ex, hr⟩ | ⟨x, ex, rfl⟩
  · refine ha Z F B H σ ρ s _ ex _ fun F1 B1 H1 u1 => ?_
    have e := Option.some.inj (show some (Except.ok (!x)) = some r from hr)
    subst e
    exact q F1 B1 H1 u1
  · exact ha Z F B H σ ρ s _ ex _ q
theorem jw_and (ha : JT G k W N sc a ga) (hb : JW G k W N sc (.BoolOp .And (b :: rest) pos) gb) : JW G k W N sc (.BoolOp .And (a :: b :: rest) pos) (Em ga gb) := by
  obtain ⟨ta, a1, a2⟩ := ha
  obtain ⟨tb, b1, b2⟩ := hb
  exact ⟨_, fun X c => pw_and (a1 X c) (b1 X c), spec_and a2 b2⟩
theorem jw_or (ha : JT G k W N sc a ga) (hb : JW G k W N sc (.BoolOp .Or (b :: rest) pos) gb) : JW G k W N sc (.BoolOp .Or (a :: b :: rest) pos) (Ff ga gb) := by
  obtain ⟨ta, a1, a2⟩ := ha
  obtain ⟨tb, b1, b2⟩ := hb
  exact ⟨_, fun X c => pw_or (a1 X c) (b1 X c), spec_or a2 b2⟩
theorem jt_not (ha : JT G k W N sc a ga) : JT G k W N sc (.UnaryOp .Not a pos) (Cz ga) := by
  obtain ⟨ta, a1, a2⟩ := ha
  exact ⟨_, fun X c => pt_not (a1 X c), spec_not a2⟩
def Bg (fa fb : En → M D) : En → M D := fun ρ => (fa ρ).bnd fun x => (up1 (Eg x)).bnd fun t => if t = true then fb ρ else some (.ok (.bl false))
def Eo (fa fb : En → M D) : En → M D := fun ρ => (fa ρ).bnd fun x => (up1 (Eg x)).bnd fun t => if t = true then some (.ok (.bl true)) else fb ρ
def Bj (fa : En → M D) : En → M D := fun ρ => (fa ρ).bnd fun x => (up1 (Eg x)).bnd fun t => some (.ok (.bl (!t)))
theorem up1_bnd {α β : Type} {o : Option α} {g : α → M β} {r : Except Xc β} (h : (up1 o).bnd g = some r) : ∃ x, o = some x ∧ g x = some r := by
  cases o with
  | none => cases h
  | some x => exact ⟨x, rfl, h⟩
theorem je_one {op : BoolOp} (h : JE G k W N sc kd a fa) : JE G k W N sc kd (.BoolOp op [a] pos) fa := by
  obtain ⟨te, h1, h2⟩ := h
  exact ⟨te, fun X c => pe_one (h1 X c), h2⟩
theorem je_and (ha : JE G k W N sc .peek a fa) (hb : JE G k W N sc kd (.BoolOp .And (b :: rest) pos) fb) : JE G k W N sc kd (.BoolOp .And (a :: b :: rest) pos) (Bg fa fb) := by
  obtain ⟨ta, a1, a2⟩ := ha
  obtain ⟨tb, b1, b2⟩ := hb
  refine ⟨_, fun X c => pe_and (a1 X c) (b1 X c), fun Z F B H σ ρ s r hr Q q => ?_⟩
  rcases bnd_some hr with ⟨x, ex, hr⟩ | ⟨x, ex, rfl⟩
  · refine a2 Z F B H σ ρ s _ ex _ fun F1 B1 H1 v1 u1 k1 => ?_
    obtain ⟨t, et, hr⟩ := up1_bnd hr
    rw [isBl_some et] at k1
    refine ⟨t, k1, ?_⟩
    cases t with
    | true =>
      show tb σ H1 Q
      exact b2 Z F1 B1 H1 σ ρ (s.up u1) r hr Q (q.weak u1)
    | false =>
      show Q (.bl false) H1
      have e := Option.some.inj (show some (Except.ok (D.bl false)) = some r from hr)
      subst e
      exact q F1 B1 H1 _ u1 (KR.scal rfl rfl)
  · exact a2 Z F B H σ ρ s _ ex _ q
theorem je_not (ha : JE G k W N sc .peek a fa) : JE G k W N sc kd (.UnaryOp .Not a pos) (Bj fa) := by
  obtain ⟨ta, a1, a2⟩ := ha
  refine ⟨_, fun X c => pe_not (a1 X c), fun Z F B H σ ρ s r hr Q q => ?_⟩
  rcases bnd_some hr with ⟨x, ex, hr⟩ | ⟨x, ex, rfl⟩
  · refine a2 Z F B H σ ρ s _ ex _ fun F1 B1 H1 v1 u1 k1 => ?_
    obtain ⟨t, et, hr⟩ := up1_bnd hr
    rw [isBl_some et] at k1
    have e := Option.some.inj (show some (Except.ok (D.bl (!t))) = some r from hr)
    subst e
    exact ⟨t, k1, q F1 B1 H1 _ u1 (KR.scal rfl rfl)⟩
  · exact a2 Z F B H σ ρ s _ ex _ q
def D.neg : D → Option D
  | .int i => some (.int (-i))
  | _ => none
theorem je_neg (ha : JE G k W N sc .peek a fa) : JE G k W N sc kd (.UnaryOp .USub a pos) (Fb D.neg fa) := by
  obtain ⟨ta, a1, a2⟩ := ha
  refine ⟨_, fun X c => pe_un un_neg (a1 X c), fun Z F B H σ ρ s r hr Q q => ?_⟩
  rcases bnd_some hr with ⟨x, ex, hr⟩ | ⟨x, ex, rfl⟩
  · refine a2 Z F B H σ ρ s _ ex _ fun F1 B1 H1 v1 u1 k1 => ?_
    obtain ⟨t, et, rfl⟩ := up1_ok hr
    cases x <;> first
      | (have e := Option.some.inj et
         subst e
         exact ⟨_, k1, q F1 B1 H1 _ u1 (KR.scal rfl rfl)⟩)
      | cases et
  · exact a2 Z F B H σ ρ s _ ex _ q
def fChain (p q : Int → Int → Bool) (fa fb fc : En → M D) : En → M D := fun ρ => (fa ρ).bnd fun x => (fb ρ).bnd fun y => (up1 (Er (fun i j => .bl (p i j)) x y)).bnd fun z => (up1 (Eg z)).bnd fun t =>
  if t = true then (fc ρ).bnd fun w => up1 (Er (fun i j => .bl (q i j)) y w) else some (.ok (.bl false))
theorem o2I0_some {g : Int → Int → D} {x y d : D} (h : Er g x y = some d) : ∃ i j, x = .int i ∧ y = .int j ∧ d = g i j := by
  unfold Er at h
  split at h
  · rename_i i j
    exact ⟨i, j, rfl, rfl, (Option.some.inj h).symm⟩
  · cases h
theorem spec_chain {p q : Int → Int → Bool} {ta tb tc : TE} (a2 : SpecE G W .peek ta fa) (b2 : SpecE G W .peek tb fb) (c2 : SpecE G W .peek tc fc) : SpecE G W kd (tChain (rI0 fun i j => .bl (p i j)) (rI0 fun i j => .bl (q i j)) ta tb tc) (fChain p q fa fb fc) := by
  intro Z F B H σ ρ s r hr Q qq
  rcases bnd_some hr with ⟨x, ex, hr⟩ | ⟨x, ex, rfl⟩
  · refine a2 Z F B H σ ρ s _ ex _ fun F1 B1 H1 v1 u1 k1 => ?_
    rcases bnd_some hr with ⟨y, ey, hr⟩ | ⟨y, ey, rfl⟩
    · refine b2 Z F1 B1 H1 σ ρ (s.up u1) _ ey _ fun F2 B2 H2 v2 u2 k2 => ?_
      obtain ⟨z, ez, hr⟩ := up1_bnd hr
      obtain ⟨t, et, hr⟩ := up1_bnd hr
      obtain ⟨i, j, rfl, rfl, rfl⟩ := o2I0_some ez
      have et' : p i j = t := Option.some.inj et
      refine ⟨i, j, k1, k2, t, congrArg V.bl et', ?_⟩
      cases t with
      | true =>
        rw [if_pos rfl] at hr ⊢
        rcases bnd_some hr with ⟨w, ew, hr⟩ | ⟨w, ew, rfl⟩
        · refine c2 Z F2 B2 H2 σ ρ (s.up (u1.trans u2)) _ ew _ fun F3 B3 H3 v3 u3 k3 => ?_
          obtain ⟨d, ed, rfl⟩ := up1_ok hr
          obtain ⟨i', j', e1, e2, e3⟩ := o2I0_some ed
          have e1' : j = i' := by injection e1
          subst e1' e2 e3
          exact ⟨j, j', k2, k3, qq F3 B3 H3 _ (u1.trans (u2.trans u3)) (KR.scal rfl rfl)⟩
        · exact c2 Z F2 B2 H2 σ ρ (s.up (u1.trans u2)) _ ew _ (fun F' B' H' cls dx u hx => qq F' B' H' cls dx (u1.trans (u2.trans u)) hx)
      | false =>
        rw [if_neg Bool.false_ne_true] at hr ⊢
        have e := Option.some.inj hr
        subst e
        exact qq F2 B2 H2 _ (u1.trans u2) (KR.scal rfl rfl)
    · exact b2 Z F1 B1 H1 σ ρ (s.up u1) _ ey _ (fun F' B' H' cls dx u hx => qq F' B' H' cls dx (u1.trans u) hx)
  · exact a2 Z F B H σ ρ s _ ex _ qq
theorem jt_chain {o o' : CmpOp} {p q : Int → Int → Bool} (ho : ∀ X : Cx, OpR X (compareOp o) (rI0 fun i j => .bl (p i j))) (ho' : ∀ X : Cx, OpR X (compareOp o') (rI0 fun i j => .bl (q i j)))
    (ha : JE G k W N sc .peek a fa) (hb : JE G k W N sc .peek b fb) (hc : JE G k W N sc .peek c fc) (hm : lastMarks [o, o'] [b, c] = false) : JT G k W N sc (.Compare a [o, o'] [b, c] pos) (Cc (fChain p q fa fb fc)) := by
  obtain ⟨ta, a1, a2⟩ := ha
  obtain ⟨tb, b1, b2⟩ := hb
  obtain ⟨tc, c1, c2⟩ := hc
  exact ⟨_, fun X c => pt_chain (ho X) (ho' X) (a1 X c) (b1 X c) (c1 X c) hm, spec_tst (spec_chain a2 b2 c2)⟩
def Fi (ga : En → M Bool) (fa fb : En → M D) : En → M D := fun ρ => (ga ρ).bnd fun t => if t = true then fa ρ else fb ρ
def Ba : En → M (List D) := fun _ => some (.ok [])
def Ac (fa : En → M D) (fs : En → M (List D)) : En → M (List D) := fun ρ => (fa ρ).bnd fun x => (fs ρ).bnd fun xs => some (.ok (x :: xs))
theorem ja_nil : JA G k W N sc [] [] Ba := ⟨_, fun X c => pa_nil, fun Z F B H σ ρ s r hr Q q => by
  have e := Option.some.inj hr
  subst e
  exact q F B H [] (Up.refl s.fb s.bh) rfl⟩
def PlainArg (e : Expr) : Prop := ∀ (es : List Expr) (env : Env), starEach (e :: es) env = (false, eval e env) :: starEach es env
theorem ja_consP {ks : List Arg} {es : List Expr} {fs : En → M (List D)} (hp : PlainArg e) (ha : JE G k W N sc .peek e fa) (hr : JA G k W N sc ks es fs) : JA G k W N sc (.peek :: ks) (e :: es) (Ac fa fs) := by
  obtain ⟨ta, a1, a2⟩ := ha
  obtain ⟨tr, r1, r2⟩ := hr
  refine ⟨_, fun X c => pa_cons (a1 X c) (r1 X c) (hp _ _), fun Z F B H σ ρ s r hr Q q => ?_⟩
  rcases bnd_some hr with ⟨x, ex, hr⟩ | ⟨x, ex, rfl⟩
  · refine a2 Z F B H σ ρ s _ ex _ fun F1 B1 H1 v1 u1 k1 => ?_
    rcases bnd_some hr with ⟨y, ey, hr⟩ | ⟨y, ey, rfl⟩
    · refine r2 Z F1 B1 H1 σ ρ (s.up u1) _ ey _ fun F2 B2 H2 v2 u2 k2 => ?_
      have e := Option.some.inj hr
      subst e
      exact q F2 B2 H2 _ (u1.trans u2) ⟨v1, v2, rfl, Top.mono u2.f u2.h k1, k2⟩
    · exact r2 Z F1 B1 H1 σ ρ (s.up u1) _ ey _ (fun F' B' H' cls dx u hx => q F' B' H' cls dx (u1.trans u) hx)
  · exact a2 Z F B H σ ρ s _ ex _ q
theorem ja_consS {ks : List Arg} {es : List Expr} {fs : En → M (List D)} (hp : PlainArg e) (ha : JE G k W N sc .shared e fa) (hr : JA G k W N sc ks es fs) : JA G k W N sc (.shared :: ks) (e :: es) (Ac fa fs) := by
  obtain ⟨ta, a1, a2⟩ := ha
  obtain ⟨tr, r1, r2⟩ := hr
  refine ⟨_, fun X c => pa_cons (a1 X c) (r1 X c) (hp _ _), fun Z F B H σ ρ s r hr Q q => ?_⟩
  rcases bnd_some hr with ⟨x, ex, hr⟩ | ⟨x, ex, rfl⟩
  · refine a2 Z F B H σ ρ s _ ex _ fun F1 B1 H1 v1 u1 k1 => ?_
    rcases bnd_some hr with ⟨y, ey, hr⟩ | ⟨y, ey, rfl⟩
    · refine r2 Z F1 B1 H1 σ ρ (s.up u1) _ ey _ fun F2 B2 H2 v2 u2 k2 => ?_
      have e := Option.some.inj hr
      subst e
      exact q F2 B2 H2 _ (u1.trans u2) ⟨v1, v2, rfl, k1.mono u2.f, k2⟩
    · exact r2 Z F1 B1 H1 σ ρ (s.up u1) _ ey _ (fun F' B' H' cls dx u hx => q F' B' H' cls dx (u1.trans u) hx)
  · exact a2 Z F B H σ ρ s _ ex _ q
def shs (n : Nat) : List Arg := List.replicate n .shared
theorem ArR.shs {F H : Hp} : ∀ {n : Nat} {ds : List D} {vs : List V}, ArR G F H (shs n) ds vs → RepL G F ds vs
  | 0, [], vs, h => h
  | 0, _ :: _, vs, h => h.elim
  | n + 1, [], vs, h => h.elim
  | n + 1, d :: ds, vs, h => by
    obtain ⟨v, vs', rfl, h1, h2⟩ := h
    exact ⟨v, vs', rfl, h1, ArR.shs (n := n) h2⟩
def Ea (fs : En → M (List D)) : En → M D := fun ρ => (fs ρ).bnd fun xs => if xs.length ≤ LIM then some (.ok (.tup xs)) else none
def Ck (fs : En → M (List D)) : En → M D := fun ρ => (fs ρ).bnd fun xs => if xs.length ≤ LIM then some (.ok (.lst xs)) else none
theorem je_tup {es : List Expr} {n x1 : Nat} {fs : En → M (List D)} (h : JA G k W N sc (shs n) es fs) : JE G k W N sc kd (.Tuple es x1 pos) (Ea fs) := by
  obtain ⟨tr, r1, r2⟩ := h
  refine ⟨_, fun X c => pe_tupF (r1 X c), fun Z F B H σ ρ s r hr Q q => ?_⟩
  rcases bnd_some hr with ⟨x, ex, hr⟩ | ⟨x, ex, rfl⟩
  · refine r2 Z F B H σ ρ s _ ex _ fun F1 B1 H1 vs u1 k1 => ?_
    have k2 := k1.shs
    split at hr
    · rename_i hl
      have e := Option.some.inj hr
      subst e
      exact ⟨lim_line (by rw [k2.length]; exact hl), (q.weak u1).v.newT u1.fb u1.bh k2⟩
    · cases hr
  · exact r2 Z F B H σ ρ s _ ex _ q
theorem je_lst {es : List Expr} {n : Nat} {fs : En → M (List D)} (h : JA G k W N sc (shs n) es fs) : JE G k W N sc .fresh (.List es pos) (Ck fs) := by
  obtain ⟨tr, r1, r2⟩ := h
  refine ⟨_, fun X c => pe_lst (r1 X c), fun Z F B H σ ρ s r hr Q q => ?_⟩
  rcases bnd_some hr with ⟨x, ex, hr⟩ | ⟨x, ex, rfl⟩
  · refine r2 Z F B H σ ρ s _ ex _ fun F1 B1 H1 vs u1 k1 => ?_
    have k2 := k1.shs
    split at hr
    · rename_i hl
      have e := Option.some.inj hr
      subst e
      exact ⟨lim_line (by rw [k2.length]; exact hl), fun p hp => (q.weak u1).v.newL u1.fb u1.bh k2 hp⟩
    · cases hr
  · exact r2 Z F B H σ ρ s _ ex _ q
def Ez (op : List D → Option D) (fs : En → M (List D)) : En → M D := fun ρ => (fs ρ).bnd fun xs => up1 (op xs)
theorem spec_ca {ks : List Arg} {ta : TA} {r : List V → Hp → VK → Prop} {op : List D → Option D} {fs : En → M (List D)} (ha : SpecA G W ks ta fs) (ho : CaS G kd r ks op) : SpecE G W kd (tCB r ta) (Ez op fs) := by
  intro Z F B H σ ρ s r' hr Q q
  rcases bnd_some hr with ⟨x, ex, hr⟩ | ⟨x, ex, rfl⟩
  · refine ha Z F B H σ ρ s _ ex _ fun F1 B1 H1 vs u1 k1 => ?_
    obtain ⟨d, ed, rfl⟩ := up1_ok hr
    exact ho F1 B1 H1 u1.fb u1.bh x vs k1 d ed Q (q.weak u1).v
  · exact ha Z F B H σ ρ s _ ex _ q
def NoStar (pos : Pos) (es : List Expr) : Prop := ∀ env : Env, (backTo pos (starEach es env)).any (·.1) = false
theorem je_callB {x : Str} {id : String} {p : Pos} {es : List Expr} {ks : List Arg} {r : List V → Hp → VK → Prop} {op : List D → Option D} {fs : En → M (List D)} (hc : ∀ X, CnE G k W N sc X → CallR X (.builtin id) r) (ho : CaS G kd r ks op)
    (hg : glB sc x = true) (hm : G.mg x = none) (hv : bootBuiltins x = some (.builtin id)) (hn : x ≠ "__name__") (hd : (x == ("__debug__" : Str)) = false) (hp : PlainArg e) (hpl : NoStar pos es) (ha : JA G k W N sc ks (e :: es) fs) :
    JE G k W N sc kd (.Call (.Name x p) (e :: es) [] pos) (Ez op fs) := by
  obtain ⟨ta, a1, a2⟩ := ha
  exact ⟨_, fun X c => pe_callB (hc X c) (gl_of c.hsc hg) (by rw [c.hmg]; exact hm) hv (a1 X c) hn hd (hp _ _) (hpl _), spec_ca a2 ho⟩
theorem je_callTy {x : Str} {T : String} {p : Pos} {es : List Expr} {ks : List Arg} {r : List V → Hp → VK → Prop} {op : List D → Option D} {fs : En → M (List D)} (hc : ∀ X, CnE G k W N sc X → CallR X (.type T) r) (ho : CaS G kd r ks op)
    (hg : glB sc x = true) (hm : G.mg x = none) (hv : bootBuiltins x = some (.type T)) (hn : x ≠ "__name__") (hd : (x == ("__debug__" : Str)) = false) (hp : PlainArg e) (hpl : NoStar pos es) (ha : JA G k W N sc ks (e :: es) fs) :
    JE G k W N sc kd (.Call (.Name x p) (e :: es) [] pos) (Ez op fs) := by
  obtain ⟨ta, a1, a2⟩ := ha
  exact ⟨_, fun X c => pe_callTy (hc X c) (gl_of c.hsc hg) (by rw [c.hmg]; exact hm) hv (a1 X c) hn hd (hp _ _) (hpl _), spec_ca a2 ho⟩
end
end DL
namespace DL
open PySem PySem.Spec L2
section
variable {G : Gm} {kd : Kd} {k : Nat} {W : WX} {N : List Str} {sc : Scope} {e a b c : Expr} {f fa fb fc : En → M D} {ga gb : En → M Bool} {pos : Pos} {rest : List Expr} {F B H : Hp}
theorem ar1 {d : D} {vs : List V} (h : ArR G F H [.peek] [d] vs) : ∃ v, vs = [v] ∧ Top G F H d v := by
  obtain ⟨v, vs', rfl, h1, h2⟩ := h
  rw [show vs' = [] from h2]
  exact ⟨v, rfl, h1⟩
theorem ar2 {d d' : D} {vs : List V} (h : ArR G F H [.peek, .peek] [d, d'] vs) : ∃ v v', vs = [v, v'] ∧ Top G F H d v ∧ Top G F H d' v' := by
  obtain ⟨v, vs', rfl, h1, h2⟩ := h
  obtain ⟨v', e, h3⟩ := ar1 h2
  exact ⟨v, v', by rw [e], h1, h3⟩
def D.len : List D → Option D
  | [.lst l] => some (.int l.length)
  | [.tup l] => some (.int l.length)
  | [.scr l] => some (.int l.length)
  | _ => none
def rLenB (K : PySem.W.Frag) : List V → Hp → VK → Prop := fun xs H Q => ∃ p ys, xs = [.ref p] ∧ (SqL K H p ys ∨ SqT K H p ys) ∧ Q (.int ys.length) H
theorem s_len : CaS G kd (rLenB G.K) [.peek] D.len := by
  intro F B H fb bh xs vs hx d hd Q q
  unfold D.len at hd
  split at hd
  · rename_i l
    have e := Option.some.inj hd
    subst e
    obtain ⟨v, rfl, h⟩ := ar1 hx
    obtain ⟨p, us, rfl, h1, h2⟩ := topL h
    exact ⟨p, us, rfl, .inl (SqL.of h1), q.here fb bh rfl (by rw [h2.length]; rfl)⟩
  · rename_i l
    have e := Option.some.inj hd
    subst e
    obtain ⟨v, rfl, h⟩ := ar1 hx
    obtain ⟨p, us, rfl, h1, h2⟩ := topT (fb.trans bh) h
    exact ⟨p, us, rfl, .inr h1, q.here fb bh rfl (by rw [h2.length]; rfl)⟩
  · rename_i l
    have e := Option.some.inj hd
    subst e
    obtain ⟨v, rfl, h⟩ := ar1 hx
    obtain ⟨p, rfl, h1⟩ := topS (fb.trans bh) h
    exact ⟨p, _, rfl, .inl h1, q.here fb bh rfl (by rw [List.length_map]; rfl)⟩
  · cases hd
theorem je_len {p : Pos} (hg : glB sc "len" = true) (hm : G.mg "len" = none) (hp : PlainArg e) (hpl : NoStar pos []) (ha : JE G k W N sc .peek e f) : JE G k W N sc kd (.Call (.Name "len" p) [e] [] pos) (Ez D.len (Ac f Ba)) :=
  je_callB (id := "len") (r := rLenB G.K) (fun X c => by rw [← c.hK]; exact call_len_seq) s_len hg hm PySem.boot_len (by decide) (by decide) hp hpl (ja_consP hp ha ja_nil)
def D.int1 : List D → Option D
  | [.int i] => some (.int i)
  | [.bl b] => some (.int (if b then 1 else 0))
  | _ => none
def rInt1 : List V → Hp → VK → Prop := fun xs H Q => (∃ i, xs = [.int i] ∧ Q (.int i) H) ∨ ∃ k, xs = [.bl k] ∧ Q (.int (if k then 1 else 0)) H
theorem s_int : CaS G kd rInt1 [.peek] D.int1 := by
  intro F B H fb bh xs vs hx d hd Q q
  unfold D.int1 at hd
  split at hd
  · rename_i l
    have e := Option.some.inj hd
    subst e
    obtain ⟨v, rfl, h⟩ := ar1 hx
    exact .inl ⟨l, by rw [show v = .int l from h], q.here fb bh rfl rfl⟩
  · rename_i l
    have e := Option.some.inj hd
    subst e
    obtain ⟨v, rfl, h⟩ := ar1 hx
    exact .inr ⟨l, by rw [show v = .bl l from h], q.here fb bh rfl rfl⟩
  · cases hd
theorem je_intC {p : Pos} (hg : glB sc "int" = true) (hm : G.mg "int" = none) (hp : PlainArg e) (hpl : NoStar pos []) (ha : JE G k W N sc .peek e f) : JE G k W N sc kd (.Call (.Name "int" p) [e] [] pos) (Ez D.int1 (Ac f Ba)) :=
  je_callTy (T := "int") (r := rInt1) (fun X c => call_int1) s_int hg hm (by decide +kernel) (by decide) (by decide) hp hpl (ja_consP hp ha ja_nil)
def D.abs : List D → Option D
  | [.int i] => some (.int (if i < 0 then -i else i))
  | _ => none
def rAbs : List V → Hp → VK → Prop := fun xs H Q => ∃ i, xs = [.int i] ∧ Q (.int (if i < 0 then -i else i)) H
theorem s_abs : CaS G kd rAbs [.peek] D.abs := by
  intro F B H fb bh xs vs hx d hd Q q
  unfold D.abs at hd
  split at hd
  · rename_i l
    have e := Option.some.inj hd
    subst e
    obtain ⟨v, rfl, h⟩ := ar1 hx
    exact ⟨l, by rw [show v = .int l from h], q.here fb bh rfl rfl⟩
  · cases hd
theorem je_abs {p : Pos} (hg : glB sc "abs" = true) (hm : G.mg "abs" = none) (hp : PlainArg e) (hpl : NoStar pos []) (ha : JE G k W N sc .peek e f) : JE G k W N sc kd (.Call (.Name "abs" p) [e] [] pos) (Ez D.abs (Ac f Ba)) :=
  je_callB (id := "abs") (r := rAbs) (fun X c => call_abs) s_abs hg hm (by decide +kernel) (by decide) (by decide) hp hpl (ja_consP hp ha ja_nil)
def D.list : List D → Option D
  | [.lst l] => some (.lst l)
  | [.tup l] => some (.lst l)
  | _ => none
def rListB (K : PySem.W.Frag) : List V → Hp → VK → Prop := fun xs H Q => ∃ p ys, xs = [.ref p] ∧ (SqL K H p ys ∨ SqT K H p ys) ∧ ∀ l, H l = none → Q (.ref l) (upd H l (.lst ys))
theorem s_list : CaS G .fresh (rListB G.K) [.peek] D.list := by
  intro F B H fb bh xs vs hx d hd Q q
  unfold D.list at hd
  split at hd
  · rename_i l
    have e := Option.some.inj hd
    subst e
    obtain ⟨v, rfl, h⟩ := ar1 hx
    obtain ⟨p, us, rfl, h1, h2⟩ := topL h
    exact ⟨p, us, rfl, .inl (SqL.of h1), fun a ha => q.newL fb bh h2 ha⟩
  · rename_i l
    have e := Option.some.inj hd
    subst e
    obtain ⟨v, rfl, h⟩ := ar1 hx
    obtain ⟨p, us, rfl, h1, h2⟩ := topT (fb.trans bh) h
    exact ⟨p, us, rfl, .inr h1, fun a ha => q.newL fb bh h2 ha⟩
  · cases hd
theorem je_list {p : Pos} (hg : glB sc "list" = true) (hm : G.mg "list" = none) (hp : PlainArg e) (hpl : NoStar pos []) (ha : JE G k W N sc .peek e f) : JE G k W N sc .fresh (.Call (.Name "list" p) [e] [] pos) (Ez D.list (Ac f Ba)) :=
  je_callTy (T := "list") (r := rListB G.K) (fun X c => by rw [← c.hK]; exact call_list_of) s_list hg hm (by decide +kernel) (by decide) (by decide) hp hpl (ja_consP hp ha ja_nil)
def D.tupl : List D → Option D
  | [.lst l] => some (.tup l)
  | [.tup l] => some (.tup l)
  | _ => none
theorem s_tupl : CaS G kd (rTupF G.K) [.peek] D.tupl := by
  intro F B H fb bh xs vs hx d hd Q q
  unfold D.tupl at hd
  split at hd
  · rename_i l
    have e := Option.some.inj hd
    subst e
    obtain ⟨v, rfl, h⟩ := ar1 hx
    obtain ⟨p, us, rfl, h1, h2⟩ := topL h
    exact ⟨p, us, rfl, .inl ⟨SqL.of h1, q.newT fb bh h2⟩⟩
  · rename_i l
    have e := Option.some.inj hd
    subst e
    obtain ⟨v, rfl, h⟩ := ar1 hx
    obtain ⟨p, us, rfl, h1, h2⟩ := topT (fb.trans bh) h
    exact ⟨p, us, rfl, .inr ⟨h1, q.here fb bh rfl h⟩⟩
  · cases hd
theorem je_tupl {p : Pos} (hg : glB sc "tuple" = true) (hm : G.mg "tuple" = none) (hp : PlainArg e) (hpl : NoStar pos []) (ha : JE G k W N sc .peek e f) : JE G k W N sc kd (.Call (.Name "tuple" p) [e] [] pos) (Ez D.tupl (Ac f Ba)) :=
  je_callTy (T := "tuple") (r := rTupF G.K) (fun X c => by rw [← c.hK]; exact call_tupF) s_tupl hg hm (by decide +kernel) (by decide) (by decide) hp hpl (ja_consP hp ha ja_nil)
def srt : List Int → List Int
  | [] => []
  | x :: xs => ins x (srt xs)
where ins (x : Int) : List Int → List Int
  | [] => [x]
  | y :: ys => if x ≤ y then x :: y :: ys else y :: ins x ys
theorem ins_perm (x : Int) : ∀ ys : List Int, (srt.ins x ys).Perm (x :: ys)
  | [] => List.Perm.refl _
  | y :: ys => by
    unfold srt.ins
    split
    · exact List.Perm.refl _
    · exact ((ins_perm x ys).cons y).trans (List.Perm.swap x y ys)
theorem srt_perm : ∀ xs : List Int, (srt xs).Perm xs
  | [] => List.Perm.refl _
  | x :: xs => (ins_perm x (srt xs)).trans ((srt_perm xs).cons x)
theorem ins_sorted (x : Int) : ∀ {ys : List Int}, ys.Pairwise (· ≤ ·) → (srt.ins x ys).Pairwise (· ≤ ·)
  | [], _ => List.pairwise_singleton _ _
  | y :: ys, h => by
    unfold srt.ins
    split
    · rename_i hxy
      refine List.pairwise_cons.mpr ⟨fun z hz => ?_, h⟩
      rcases List.mem_cons.mp hz with rfl | hz
      · exact hxy
      · exact Int.le_trans hxy ((List.pairwise_cons.mp h).1 z hz)
    · rename_i hxy
      refine List.pairwise_cons.mpr ⟨fun z hz => ?_, ins_sorted x (List.pairwise_cons.mp h).2⟩
      rcases List.mem_cons.mp ((ins_perm x ys).mem_iff.mp hz) with rfl | hz
      · omega
      · exact (List.pairwise_cons.mp h).1 z hz
theorem srt_sorted : ∀ xs : List Int, (srt xs).Pairwise (· ≤ ·)
  | [] => List.Pairwise.nil
  | x :: xs => ins_sorted x (srt_sorted xs)
theorem srt_eq {xs ys : List Int} (hp : xs.Perm ys) (hs : xs.Pairwise (· ≤ ·)) : xs = srt ys := PySem.W.ksm_same (hp.trans (srt_perm ys).symm) hs (srt_sorted ys)
theorem srt_length (xs : List Int) : (srt xs).length = xs.length := (srt_perm xs).length_eq
def D.sorted : List D → Option D
  | [.lst l] => (ints? l).map fun ns => .lst ((srt ns).map D.int)
  | _ => none
theorem s_sorted : CaS G .fresh (rSortedI G.K) [.peek] D.sorted := by
  intro F B H fb bh xs vs hx d hd Q q
  unfold D.sorted at hd
  split at hd
  · rename_i l
    cases e : ints? l with
    | none => rw [e] at hd; cases hd
    | some ns =>
      rw [e] at hd
      have e2 := Option.some.inj hd
      subst e2
      obtain ⟨v, rfl, h⟩ := ar1 hx
      obtain ⟨p, us, rfl, h1, h2⟩ := topL h
      rw [ints?_eq e] at h2
      rw [h2.ints] at h1
      refine ⟨p, ns, rfl, SqL.of h1, fun ns' a hp hs ha => ?_⟩
      rw [srt_eq hp hs]
      exact q.newL fb bh RepL.ofInts ha
  · cases hd
theorem je_sorted {p : Pos} (hg : glB sc "sorted" = true) (hm : G.mg "sorted" = none) (hp : PlainArg e) (hpl : NoStar pos []) (ha : JE G k W N sc .peek e f) : JE G k W N sc .fresh (.Call (.Name "sorted" p) [e] [] pos) (Ez D.sorted (Ac f Ba)) :=
  je_callB (id := "sorted") (r := rSortedI G.K) (fun X c => by rw [← c.hK]; exact cr_sortedI) s_sorted hg hm (by decide +kernel) (by decide) (by decide) hp hpl (ja_consP hp ha ja_nil)
theorem je_typ {x : Str} {n : String} (hg : glB sc x = true) (hm : G.mg x = none) (hv : bootBuiltins x = some (.type n)) (hn : x ≠ "__name__") (hd : (x == ("__debug__" : Str)) = false) : JE G k W N sc kd (.Name x pos) (fC (.typ n)) :=
  ⟨_, fun X c => pe_bltn (v := .ty n) (gl_of c.hsc hg) (by rw [c.hmg]; exact hm) hv rfl hn hd, spec_c rfl fun _ => rfl⟩
theorem je_cls {x : Str} {i : Nat} {C : Addr} {ns : List Str} (hg : glB sc x = true) (hm : G.mg x = some (.ref C)) (hi : G.ct i = some (C, ns)) (hd : (x == ("__debug__" : Str)) = false) : JE G k W N sc kd (.Name x pos) (fC (.cls i)) :=
  ⟨_, fun X c => pe_glob (v := .ref C) (gl_of c.hsc hg) (by rw [c.hmg]; exact hm) rfl hd, spec_c rfl fun _ => ⟨C, ns, hi, rfl⟩⟩
def tyOf : D → Option Ty
  | .non => some (.b "NoneType")
  | .bl _ => some (.b "bool")
  | .int _ => some (.b "int")
  | .str _ => some (.b "str")
  | .tup _ => some (.b "tuple")
  | .lst _ => some (.b "list")
  | .obj c _ => if c < 100 then some (.o c) else none
  | _ => none
def clOf : D → Option Ty
  | .typ n => some (.b n)
  | .cls c => some (.o c)
  | _ => none
def D.isi : List D → Option D
  | [x, c] => match tyOf x, clOf c with
    | some t, some u => (isiT t u).map .bl
    | _, _ => none
  | _ => none
theorem tyX_of (gok : GOk G) (fh : Same F H) : ∀ {d : D} {v : V} {t : Ty}, tyOf d = some t → Top G F H d v → ∃ tv, t.val G tv ∧ TyX G.K H v tv
  | .non, v, t, h, r => by
    have e := Option.some.inj h
    subst e
    rw [show v = .non from r]
    exact ⟨_, rfl, .base .non⟩
  | .bl b, v, t, h, r => by
    have e := Option.some.inj h
    subst e
    rw [show v = .bl b from r]
    exact ⟨_, rfl, .base (.bl b)⟩
  | .int b, v, t, h, r => by
    have e := Option.some.inj h
    subst e
    rw [show v = .int b from r]
    exact ⟨_, rfl, .base (.int b)⟩
  | .str b, v, t, h, r => by
    have e := Option.some.inj h
    subst e
    rw [show v = .str b from r]
    exact ⟨_, rfl, .base (.str b)⟩
  | .tup l, v, t, h, r => by
    have e := Option.some.inj h
    subst e
    obtain ⟨p, vs, rfl, h1, h2⟩ := topT fh r
    refine ⟨_, rfl, ?_⟩
    rcases h1 with (h1 | ⟨o, h1⟩) | ⟨o, its, n, h1, h2, _⟩
    · exact .base (.tup h1)
    · exact .fTuple h1
    · exact .kTuple h1 h2
  | .lst l, v, t, h, r => by
    have e := Option.some.inj h
    subst e
    obtain ⟨p, vs, rfl, h1, h2⟩ := topL r
    exact ⟨_, rfl, .base (.lst h1)⟩
  | .obj c fs, v, t, h, r => by
    have h : (if c < 100 then some (Ty.o c) else none) = some t := h
    split at h
    · rename_i hc
      have e := Option.some.inj h
      subst e
      obtain ⟨p, rfl, C, ns, dx, vs, h1, h2, h3⟩ := r
      obtain ⟨c1, c2, c3⟩ := gok.cl c C ns h1 hc
      obtain ⟨d1, d2⟩ := gok.dunder c C ns h1 hc
      exact ⟨_, ⟨C, ns, h1, rfl⟩, .base (.ins h2 c1 d1 gok.gs gok.tk d2)⟩
    · cases h
  | .dct _, _, _, h, _ => nomatch h
  | .scr _, _, _, h, _ => nomatch h
  | .typ _, _, _, h, _ => nomatch h
  | .cls _, _, _, h, _ => nomatch h
theorem clV_of : ∀ {d : D} {v : V} {t : Ty}, clOf d = some t → Top G F H d v → ∃ tv, t.val G tv ∧ ClsV v tv
  | .typ n, v, t, h, r => by
    have e := Option.some.inj h
    subst e
    rw [show v = .ty n from r]
    exact ⟨_, rfl, .ty n⟩
  | .cls c, v, t, h, r => by
    have e := Option.some.inj h
    subst e
    obtain ⟨C, ns, h1, rfl⟩ := r
    exact ⟨_, ⟨C, ns, h1, rfl⟩, .own C⟩
  | .non, _, _, h, _ => nomatch h
  | .bl _, _, _, h, _ => nomatch h
  | .int _, _, _, h, _ => nomatch h
  | .str _, _, _, h, _ => nomatch h
  | .tup _, _, _, h, _ => nomatch h
  | .lst _, _, _, h, _ => nomatch h
  | .dct _, _, _, h, _ => nomatch h
  | .obj _ _, _, _, h, _ => nomatch h
  | .scr _, _, _, h, _ => nomatch h
theorem s_isi (gok : GOk G) : CaS G kd (rIsi G.K) [.peek, .peek] D.isi := by
  intro F B H fb bh xs vs hx d hd Q q
  unfold D.isi at hd
  split at hd
  · rename_i x c
    split at hd
    · rename_i t u e1 e2
      cases e3 : isiT t u with
      | none => rw [e3] at hd; cases hd
      | some r =>
        rw [e3] at hd
        have e := Option.some.inj hd
        subst e
        obtain ⟨v, w, rfl, h1, h2⟩ := ar2 hx
        obtain ⟨tv, a1, a2⟩ := tyX_of gok (fb.trans bh) e1 h1
        obtain ⟨cv, b1, b2⟩ := clV_of e2 h2
        exact ⟨v, w, tv, cv, r, rfl, b2, a2, gok.isi t u r tv cv e3 a1 b1, q.here fb bh rfl rfl⟩
    · cases hd
  · cases hd
def fIsi (fa fb : En → M D) : En → M D := Ez D.isi (Ac fa (Ac fb Ba))
theorem je_isi (gok : GOk G) {p : Pos} (hg : glB sc "isinstance" = true) (hm : G.mg "isinstance" = none) (hp : PlainArg a) (hp2 : PlainArg b) (hpl : NoStar pos [b]) (ha : JE G k W N sc .peek a fa) (hb : JE G k W N sc .peek b fb) : JE G k W N sc kd (.Call (.Name "isinstance" p) [a, b] [] pos) (fIsi fa fb) :=
  je_callB (id := "isinstance") (r := rIsi G.K) (fun X c => by rw [← c.hK]; exact call_isi) (s_isi gok) hg hm (by decide +kernel) (by decide) (by decide) hp hpl (ja_consP hp ha (ja_consP hp2 hb ja_nil))
def ixL : D → D → Option D
  | .lst l, .int i => atI l i
  | .tup l, .int i => atI l i
  | .scr l, .int i => (atI l i).map .int
  | _, _ => none
theorem atI_rep {l : List D} {vs : List V} {i : Int} {d : D} (h : RepL G F l vs) (e : atI l i = some d) : ∃ v, atI vs i = some v ∧ Rep G F d v := by
  unfold atI at e ⊢
  rw [h.length]
  cases q : ixN l.length i with
  | none => rw [q] at e; cases e
  | some j =>
    rw [q] at e
    exact h.get e
theorem atI_map {l : List Int} {i x : Int} (e : atI l i = some x) : atI (l.map V.int) i = some (V.int x) := by
  unfold atI at e ⊢
  rw [List.length_map]
  cases q : ixN l.length i with
  | none => rw [q] at e; cases e
  | some j =>
    rw [q] at e
    show (l.map V.int)[j]? = _
    rw [List.getElem?_map, show l[j]? = some x from e]
    rfl
theorem s_ix : OpS G .shared (rIx G.K) ixL := by
  intro F B H fb bh x y v w hx hy d hd Q q
  unfold ixL at hd
  split at hd
  · rename_i l i
    obtain ⟨p, vs, rfl, h1, h2⟩ := topL hx
    obtain ⟨u, e1, e2⟩ := atI_rep h2 hd
    exact .inl ⟨p, vs, i, u, rfl, hy, SqL.of h1, e1, q F B H u (Up.refl fb bh) e2⟩
  · rename_i l i
    obtain ⟨p, vs, rfl, h1, h2⟩ := topT (fb.trans bh) hx
    obtain ⟨u, e1, e2⟩ := atI_rep h2 hd
    exact .inr (.inl ⟨p, vs, i, u, rfl, hy, h1, e1, q F B H u (Up.refl fb bh) e2⟩)
  · rename_i l i
    cases e : atI l i with
    | none => rw [e] at hd; cases hd
    | some z =>
      rw [e] at hd
      have e2 := Option.some.inj hd
      subst e2
      obtain ⟨p, rfl, h1⟩ := topS (fb.trans bh) hx
      exact .inl ⟨p, _, i, _, rfl, hy, h1, atI_map e, q F B H _ (Up.refl fb bh) rfl⟩
  · cases hd
theorem je_ix (ha : JE G k W N sc .peek a fa) (hb : JE G k W N sc .peek b fb) (hs : PlainIx b) : JE G k W N sc .shared (.Subscript a b pos) (Az ixL fa fb) := by
  obtain ⟨ta, a1, a2⟩ := ha
  obtain ⟨tb, b1, b2⟩ := hb
  exact ⟨_, fun X c => pe_ix (by rw [← c.hK]; exact ix_seq) (a1 X c) (b1 X c) hs, spec_bin a2 b2 s_ix⟩
def cutD {α : Type} (xs : List α) (lo hi : Option Int) : List α := (xs.drop (HT.sIx xs.length 0 lo)).take (HT.sIx xs.length xs.length hi - HT.sIx xs.length 0 lo)
theorem cut_rep {l : List D} {vs : List V} (h : RepL G F l vs) (lo hi : Option Int) : RepL G F (cutD l lo hi) (cutV vs lo hi) := by
  unfold cutD cutV
  rw [h.length]
  exact (h.drop _).take _
def Cj (fo : Option (En → M D)) (ρ : En) : M (Option Int) := match fo with
  | none => some (.ok none)
  | some g => (g ρ).bnd fun x => match x with
    | .int i => some (.ok (some i))
    | _ => none
def slD : D → Option Int → Option Int → Option D
  | .lst l, lo, hi => some (.lst (cutD l lo hi))
  | .tup l, lo, hi => some (.tup (cutD l lo hi))
  | _, _, _ => none
def fSl (fa : En → M D) (lo hi : Option (En → M D)) : En → M D := fun ρ => (fa ρ).bnd fun x => (Cj lo ρ).bnd fun l => (Cj hi ρ).bnd fun h => up1 (slD x l h)
def PostO (G : Gm) (W : WX) (F B H : Hp) (σ : L2.St) (Q : Option Int → Hp → Prop) : Except Xc (Option Int) → Prop
  | .ok b => ∀ F' B' H', Up F B H F' B' H' → Q b H'
  | .error x => ∀ F' B' H' cls dx, Up F B H F' B' H' → XR G F' H' x cls dx → W cls dx σ H'
def JO (G : Gm) (k : Nat) (W : WX) (N : List Str) (sc : Scope) (e : Option Expr) (fo : Option (En → M D)) : Prop :=
  ∃ to, (∀ X, CnE G k W N sc X → PO X e to) ∧ ∀ Z F B H σ ρ, SR G Z F B H σ ρ → ∀ r, Cj fo ρ = some r → ∀ Q, PostO G W F B H σ Q r → to σ H Q
theorem jo_none : JO G k W N sc none none := ⟨_, fun X c => po_none, fun Z F B H σ ρ s r hr Q q => by
  have e := Option.some.inj (show some (Except.ok none) = some r from hr)
  subst e
  exact q F B H (Up.refl s.fb s.bh)⟩
theorem jo_some (ha : JE G k W N sc .peek a fa) : JO G k W N sc (some a) (some fa) := by
  obtain ⟨ta, a1, a2⟩ := ha
  refine ⟨_, fun X c => po_some (a1 X c), fun Z F B H σ ρ s r hr Q q => ?_⟩
  rcases bnd_some (show (fa ρ).bnd _ = some r from hr) with ⟨x, ex, hr⟩ | ⟨x, ex, rfl⟩
  · refine a2 Z F B H σ ρ s _ ex _ fun F1 B1 H1 v1 u1 k1 => ?_
    cases x <;> first
      | (have e := Option.some.inj hr
         subst e
         exact ⟨_, k1, q F1 B1 H1 u1⟩)
      | cases hr
  · exact a2 Z F B H σ ρ s _ ex _ q
def rSlB (K : PySem.W.Frag) : V → Option Int → Option Int → Hp → VK → Prop := fun x lo hi H Q => rSlL K x lo hi H Q ∨ rSlF K x lo hi H Q
theorem je_sl {lo hi : Option Expr} {fl fh : Option (En → M D)} {p2 : Pos} (ha : JE G k W N sc .peek a fa) (hl : JO G k W N sc lo fl) (hh : JO G k W N sc hi fh) : JE G k W N sc .fresh (.Subscript a (.Slice lo hi none p2) pos) (fSl fa fl fh) := by
  obtain ⟨ta, a1, a2⟩ := ha
  obtain ⟨tl, l1, l2⟩ := hl
  obtain ⟨th, h1, h2⟩ := hh
  refine ⟨_, fun X c => pe_slice (r := rSlB G.K) (by rw [← c.hK]; exact sl_list.or sl_tupF) (a1 X c) (l1 X c) (h1 X c), fun Z F B H σ ρ s r hr Q q => ?_⟩
  rcases bnd_some hr with ⟨x, ex, hr⟩ | ⟨x, ex, rfl⟩
  · refine a2 Z F B H σ ρ s _ ex _ fun F1 B1 H1 v1 u1 k1 => ?_
    rcases bnd_some hr with ⟨y, ey, hr⟩ | ⟨y, ey, rfl⟩
    · refine l2 Z F1 B1 H1 σ ρ (s.up u1) _ ey _ fun F2 B2 H2 u2 => ?_
      rcases bnd_some hr with ⟨z, ez, hr⟩ | ⟨z, ez, rfl⟩
      · refine h2 Z F2 B2 H2 σ ρ (s.up (u1.trans u2)) _ ez _ fun F3 B3 H3 u3 => ?_
        obtain ⟨d, ed, rfl⟩ := up1_ok hr
        have k3 : Top G F3 H3 x v1 := Top.mono (u2.trans u3).f (u2.trans u3).h k1
        have qv := (q.weak (u1.trans (u2.trans u3))).v
        unfold slD at ed
        split at ed
        · rename_i l _ _
          have e := Option.some.inj ed
          subst e
          obtain ⟨p, vs, rfl, g1, g2⟩ := topL k3
          exact .inl ⟨p, vs, rfl, SqL.of g1, fun a ha => qv.newL u3.fb u3.bh (cut_rep g2 y z) ha⟩
        · rename_i l _ _
          have e := Option.some.inj ed
          subst e
          obtain ⟨p, vs, rfl, g1, g2⟩ := topT (u3.fb.trans u3.bh) k3
          refine .inr ⟨p, vs, rfl, g1, fun hw => qv.here u3.fb u3.bh rfl ?_, fun _ => qv.newT u3.fb u3.bh (cut_rep g2 y z)⟩
          have ew : cutD l y z = l := by
            unfold cutD
            rw [g2.length] at hw
            rw [hw.1, hw.2]
            simp
          rw [ew]
          exact k3
        · cases ed
      · exact h2 Z F2 B2 H2 σ ρ (s.up (u1.trans u2)) _ ez _ (fun F' B' H' cls dx u hx => q F' B' H' cls dx (u1.trans (u2.trans u)) hx)
    · exact l2 Z F1 B1 H1 σ ρ (s.up u1) _ ey _ (fun F' B' H' cls dx u hx => q F' B' H' cls dx (u1.trans u) hx)
  · exact a2 Z F B H σ ρ s _ ex _ q
end
end DL
namespace DL
open PySem PySem.Spec L2
inductive Out where
  | nx (ρ : En) | rt (k : Kd) (d : D) (ρ : En) | bk (ρ : En) | ct (ρ : En) | er (x : Xc) (ρ : En)
abbrev SO := En → Option Out
def RetR (G : Gm) (Z : Zn) (F B H : Hp) (k : Kd) (d : D) (v : V) : Prop := match k with
  | .fresh => if d.isMut = true then ∃ p, v = .ref p ∧ Z.H p = none ∧ B p = none ∧ OwnO G F H p d else Rep G F d v
  | _ => Rep G F d v
structure Gro (F B F' B' : Hp) : Prop where
  f : Same F F'
  b : Same B B'
theorem Gro.refl {F B : Hp} : Gro F B F B := ⟨Same.refl _, Same.refl _⟩
theorem Gro.trans {F B F1 B1 F2 B2 : Hp} (x : Gro F B F1 B1) (y : Gro F1 B1 F2 B2) : Gro F B F2 B2 := ⟨x.f.trans y.f, x.b.trans y.b⟩
theorem Up.gro {F B H F' B' H' : Hp} (u : Up F B H F' B' H') : Gro F B F' B' := ⟨u.f, u.b⟩
def PostS (G : Gm) (W : WX) (Z : Zn) (F0 B0 : Hp) (E : Ends) : Out → Prop
  | .nx ρ => ∀ F B H σ, SR G Z F B H σ ρ → Gro F0 B0 F B → E.nx σ H
  | .rt k d ρ => ∀ F B H σ v, SR G Z F B H σ ρ → Gro F0 B0 F B → RetR G Z F B H k d v → E.rt v H
  | .bk ρ => ∀ F B H σ, SR G Z F B H σ ρ → Gro F0 B0 F B → E.bk σ H
  | .ct ρ => ∀ F B H σ, SR G Z F B H σ ρ → Gro F0 B0 F B → E.ct σ H
  | .er x ρ => ∀ F B H σ cls dx, SR G Z F B H σ ρ → Gro F0 B0 F B → XR G F H x cls dx → W cls dx σ H
theorem PostS.weak {G : Gm} {W : WX} {Z : Zn} {F0 B0 F1 B1 : Hp} {E : Ends} {o : Out} (y : Gro F0 B0 F1 B1) (q : PostS G W Z F0 B0 E o) : PostS G W Z F1 B1 E o := by
  cases o with
  | nx ρ => exact fun F B H σ s x => q F B H σ s (y.trans x)
  | rt k d ρ => exact fun F B H σ v s x r => q F B H σ v s (y.trans x) r
  | bk ρ => exact fun F B H σ s x => q F B H σ s (y.trans x)
  | ct ρ => exact fun F B H σ s x => q F B H σ s (y.trans x)
  | er x ρ => exact fun F B H σ cls dx s z r => q F B H σ cls dx s (y.trans z) r
def SpecS (G : Gm) (W : WX) (ts : TS) (g : SO) : Prop := ∀ Z F B H σ ρ, SR G Z F B H σ ρ → ∀ o, g ρ = some o → ∀ E, PostS G W Z F B E o → ts E σ H
structure CnS (G : Gm) (k : Nat) (W : WX) (N : List Str) (sc : Scope) (X : Cx) : Prop where
  ce : CnE G k W N sc X
  fn : ∀ x, X.fn x = true
  own : PassesOwn (model X.prog X.w) X.A X.env X.xe
  stk : X.stack = X.env :: X.outer
  frm : X.env.frame = some X.env.locals
  knd : X.env.scope = sc
def JS (G : Gm) (k : Nat) (W : WX) (N : List Str) (sc : Scope) (st : Stmt) (g : SO) : Prop := ∃ ts, (∀ X, CnS G k W N sc X → PS X st ts) ∧ SpecS G W ts g
def JB (G : Gm) (k : Nat) (W : WX) (N : List Str) (sc : Scope) (st : List Stmt) (g : SO) : Prop := ∃ ts, (∀ X, CnS G k W N sc X → PSs X st ts) ∧ SpecS G W ts g
section
variable {G : Gm} {k : Nat} {W : WX} {N : List Str} {sc : Scope} {e a b c : Expr} {f fa fb fc : En → M D} {ga gb : En → M Bool} {pos : Pos} {st : Stmt} {sts : List Stmt} {g h : SO}
def Fe : SO := fun ρ => some (.nx ρ)
def Ca (g h : SO) : SO := fun ρ => match g ρ with
  | some (.nx ρ') => h ρ'
  | o => o
theorem jb_nil : JB G k W N sc [] Fe := ⟨_, fun X c => pss_nil, fun Z F B H σ ρ s o ho E q => by
  have e := Option.some.inj ho
  subst e
  exact q F B H σ s Gro.refl⟩
theorem spec_seq {t u : TS} (h1 : SpecS G W t g) (h2 : SpecS G W u h) : SpecS G W (tSeq t u) (Ca g h) := by
  intro Z F B H σ ρ s o ho E q
  unfold Ca at ho
  cases e : g ρ with
  | none => rw [e] at ho; cases ho
  | some o1 =>
    rw [e] at ho
    refine h1 Z F B H σ ρ s o1 e { E with nx := u E } ?_
    cases o1 with
    | nx ρ' => exact fun F' B' H' σ' s' y => h2 Z F' B' H' σ' ρ' s' o ho E (q.weak y)
    | rt k d ρ' =>
      have e2 := Option.some.inj (show some (Out.rt k d ρ') = some o from ho)
      subst e2
      exact q
    | bk ρ' =>
      have e2 := Option.some.inj (show some (Out.bk ρ') = some o from ho)
      subst e2
      exact q
    | ct ρ' =>
      have e2 := Option.some.inj (show some (Out.ct ρ') = some o from ho)
      subst e2
      exact q
    | er x ρ' =>
      have e2 := Option.some.inj (show some (Out.er x ρ') = some o from ho)
      subst e2
      exact q
theorem jb_cons (h1 : JS G k W N sc st g) (h2 : JB G k W N sc sts h) : JB G k W N sc (st :: sts) (Ca g h) := by
  obtain ⟨t, a1, a2⟩ := h1
  obtain ⟨u, b1, b2⟩ := h2
  exact ⟨_, fun X c => pss_cons (a1 X c) (b1 X c), spec_seq a2 b2⟩
theorem jb_one (h1 : JS G k W N sc st g) : JB G k W N sc [st] g := by
  obtain ⟨t, a1, a2⟩ := h1
  exact ⟨_, fun X c => pss_one (a1 X c), a2⟩
def gBk : SO := fun ρ => some (.bk ρ)
def gCt : SO := fun ρ => some (.ct ρ)
def Cw {α : Type} (f : En → M α) (g : α → SO) : SO := fun ρ => match f ρ with
  | some (.ok d) => g d ρ
  | some (.error x) => some (.er x ρ)
  | none => none
theorem gBnd_some {α : Type} {f : En → M α} {g : α → SO} {ρ : En} {o : Out} (h : Cw f g ρ = some o) : (∃ d, f ρ = some (.ok d) ∧ g d ρ = some o) ∨ (∃ x, f ρ = some (.error x) ∧ o = .er x ρ) := by
  unfold Cw at h
  split at h
  · rename_i d e
    exact .inl ⟨d, e, h⟩
  · rename_i x e
    exact .inr ⟨x, e, (Option.some.inj h).symm⟩
  · cases h
theorem PostS.er {Z : Zn} {F B H : Hp} {σ : L2.St} {ρ : En} {E : Ends} {x : Xc} (s : SR G Z F B H σ ρ) (q : PostS G W Z F B E (.er x ρ)) {Q : VK} : PostE G W kd F B H σ Q (.error x) := fun F' B' H' cls dx u hx => q F' B' H' σ cls dx (s.up u) u.gro hx
theorem PostS.erT {Z : Zn} {F B H : Hp} {σ : L2.St} {ρ : En} {E : Ends} {x : Xc} (s : SR G Z F B H σ ρ) (q : PostS G W Z F B E (.er x ρ)) {Q : Bool → Hp → Prop} : PostT G W F B H σ Q (.error x) := fun F' B' H' cls dx u hx => q F' B' H' σ cls dx (s.up u) u.gro hx
def Bl (f : En → M D) : SO := Cw f fun _ => Fe
def Cf (kd : Kd) (f : En → M D) : SO := Cw f fun d ρ => some (.rt kd d ρ)
theorem js_retF (ha : JE G k W N sc .fresh e f) : JS G k W N sc (.Return (some e) pos) (Cf .fresh f) := by
  obtain ⟨ta, a1, a2⟩ := ha
  refine ⟨_, fun X c => ps_ret (a1 X c.ce), fun Z F B H σ ρ s o ho E q => ?_⟩
  rcases gBnd_some ho with ⟨d, ed, ho⟩ | ⟨x, ex, rfl⟩
  · refine a2 Z F B H σ ρ s _ ed _ fun F1 B1 H1 v1 u1 k1 => ?_
    have e := Option.some.inj ho
    subst e
    refine q F1 B1 H1 σ v1 (s.up u1) u1.gro ?_
    have k1 : (if d.isMut = true then ∃ p, v1 = .ref p ∧ H p = none ∧ B1 p = none ∧ OwnO G F1 H1 p d else Rep G F1 d v1) := k1
    show (if d.isMut = true then ∃ p, v1 = .ref p ∧ Z.H p = none ∧ B1 p = none ∧ OwnO G F1 H1 p d else Rep G F1 d v1)
    by_cases hm : d.isMut = true
    · rw [if_pos hm] at k1 ⊢
      obtain ⟨p, e1, e2, e3, e4⟩ := k1
      refine ⟨p, e1, ?_, e3, e4⟩
      cases hz : Z.H p with
      | none => rfl
      | some o => exact absurd e2 (s.zk p (by rw [hz]; intro z; cases z))
    · rw [if_neg hm] at k1 ⊢
      exact k1
  · exact a2 Z F B H σ ρ s _ ex _ (PostS.er s q)
def Bf (i : Nat) : SO := fun ρ => match ρ[i]? with
  | some (.ow d) => some (.rt .fresh d ρ)
  | some (.sh d) => if d.isMut = true then none else some (.rt .fresh d ρ)
  | _ => none
theorem js_retO {i : Nat} {x : Str} {p : Pos} (hi : N[i]? = some x) (hv : visB sc x = true) (hd : (x == ("__debug__" : Str)) = false) (hcd : (x == ("__classdict__" : Str)) = false) : JS G k W N sc (.Return (some (.Name x p)) pos) (Bf i) := by
  refine ⟨tRet (tVar i), fun X c => ps_ret (pe_var (by rw [c.ce.hN]; exact hi) (by rw [c.ce.hsc]; exact vis_of hv) hd hcd), fun Z F B H σ ρ s o ho E q => ?_⟩
  unfold Bf at ho
  split at ho
  · rename_i d e1
    have e := Option.some.inj ho
    subst e
    obtain ⟨p, a1, a2, a3, a4⟩ := s.sl i _ e1
    refine ⟨.ref p, s.at e1 a1, q F B H σ _ s Gro.refl ?_⟩
    show (if d.isMut = true then _ else _)
    by_cases hm : d.isMut = true
    · rw [if_pos hm]
      exact ⟨p, rfl, a2, a3, a4⟩
    · cases d <;> first | exact a4.elim | exact absurd rfl hm
  · rename_i d e1
    split at ho
    · cases ho
    · rename_i hm
      have e := Option.some.inj ho
      subst e
      obtain ⟨v, a1, a2⟩ := s.sl i _ e1
      refine ⟨v, s.at e1 a1, q F B H σ _ s Gro.refl ?_⟩
      show (if d.isMut = true then _ else _)
      rw [if_neg hm]
      exact a2
  · cases ho
def Bk : SO := fun ρ => some (.rt .fresh .non ρ)
def Fd (ga : En → M Bool) (g h : SO) : SO := Cw ga fun t => if t = true then g else h
theorem js_if {p q : List Stmt} (hc : JT G k W N sc c ga) (h1 : JB G k W N sc p g) (h2 : JB G k W N sc q h) : JS G k W N sc (.If c p q pos) (Fd ga g h) := by
  obtain ⟨tt, t1, t2⟩ := hc
  obtain ⟨t, a1, a2⟩ := h1
  obtain ⟨u, b1, b2⟩ := h2
  refine ⟨_, fun X c => ps_if (t1 X c.ce) (a1 X c) (b1 X c), fun Z F B H σ ρ s o ho E q => ?_⟩
  rcases gBnd_some ho with ⟨d, ed, ho⟩ | ⟨x, ex, rfl⟩
  · refine t2 Z F B H σ ρ s _ ed _ fun F1 B1 H1 u1 => ?_
    cases d with
    | true => exact a2 Z F1 B1 H1 σ ρ (s.up u1) o ho E (q.weak u1.gro)
    | false => exact b2 Z F1 B1 H1 σ ρ (s.up u1) o ho E (q.weak u1.gro)
  · exact t2 Z F B H σ ρ s _ ex _ (PostS.erT s q)
def Eh (d : D) : Sl := if d.isMut = true then .ow d else .sh d
def put (i : Nat) (q : Sl) (ρ : En) : Option En := match ρ[i]? with
  | some (.mu _) => none
  | some _ => some (ρ.set i q)
  | none => none
theorem put_some {i : Nat} {q : Sl} {ρ ρ' : En} (h : put i q ρ = some ρ') : i < ρ.length ∧ ρ' = ρ.set i q := by
  unfold put at h
  split at h
  · cases h
  · rename_i s _ e
    exact ⟨(List.getElem?_eq_some_iff.mp e).1, (Option.some.inj h).symm⟩
  · cases h
def Ek (i : Nat) (q : Sl) : SO := fun ρ => (put i q ρ).map .nx
def Bd (i : Nat) (f : En → M D) : SO := Cw f fun d => Ek i (Eh d)
def Bb (i : Nat) (f : En → M D) : SO := Cw f fun d => Ek i (.sh d)
theorem gPut_some {i : Nat} {q : Sl} {ρ : En} {o : Out} (h : Ek i q ρ = some o) : i < ρ.length ∧ o = .nx (ρ.set i q) := by
  unfold Ek at h
  cases e : put i q ρ with
  | none => rw [e] at h; cases h
  | some ρ' =>
    rw [e] at h
    obtain ⟨h1, h2⟩ := put_some e
    exact ⟨h1, by rw [← h2]; exact (Option.some.inj h).symm⟩
def locB (sc : Scope) (x : Str) : Bool := match sc.names.lookup x with
  | some .local => true
  | some .cell => true
  | _ => false
theorem loc_of {sc : Scope} {x : Str} (h : locB sc x = true) : L2.Loc sc x := by
  unfold locB at h
  unfold L2.Loc
  split at h
  · rename_i e; exact .inl e
  · rename_i e; exact .inr e
  · cases h
theorem SR.putF {Z : Zn} {F B H F1 B1 H1 : Hp} {σ : L2.St} {ρ : En} {i : Nat} {d : D} {v : V} (s : SR G Z F B H σ ρ) (u : Up F B H F1 B1 H1) (kr : KR G .fresh H F1 B1 H1 d v) (hi : i < ρ.length) : SR G Z F1 B1 H1 (σ.set i (some v)) (ρ.set i (Eh d)) := by
  have kr : (if d.isMut = true then ∃ p, v = .ref p ∧ H p = none ∧ B1 p = none ∧ OwnO G F1 H1 p d else Rep G F1 d v) := kr
  by_cases hm : d.isMut = true
  · rw [if_pos hm] at kr
    obtain ⟨p, e1, e2, e3, e4⟩ := kr
    have em : Eh d = .ow d := by unfold Eh; rw [if_pos hm]
    rw [em]
    refine (s.up u).set hi ⟨p, by rw [e1], ?_, e3, e4⟩ fun d' p' j _ ep _ ho => ?_
    · cases hz : Z.H p with
      | none => rfl
      | some o => exact absurd e2 (s.zk p (by rw [hz]; intro z; cases z))
    · have epp : p = p' := by rw [e1] at ep; injection ep
      subst epp
      obtain ⟨⟨o, ho1⟩, _⟩ := s.own_there ho
      rw [e2] at ho1
      cases ho1
  · rw [if_neg hm] at kr
    have em : Eh d = .sh d := by unfold Eh; rw [if_neg hm]
    rw [em]
    exact (s.up u).set hi ⟨v, rfl, kr⟩ fun d' p' j ed => nomatch ed
theorem SR.putS {Z : Zn} {F B H F1 B1 H1 : Hp} {σ : L2.St} {ρ : En} {i : Nat} {d : D} {v : V} (s : SR G Z F B H σ ρ) (u : Up F B H F1 B1 H1) (kr : Rep G F1 d v) (hi : i < ρ.length) : SR G Z F1 B1 H1 (σ.set i (some v)) (ρ.set i (.sh d)) :=
  (s.up u).set hi ⟨v, rfl, kr⟩ fun d' p' j ed => nomatch ed
theorem js_setF {i : Nat} {x : Str} {p : Pos} (hi : N[i]? = some x) (hx : locB sc x = true) (ha : JE G k W N sc .fresh e f) (hs : ∀ X : Cx, X.env.scope = sc → swapsWith e (some (.Name x p)) pos.line X.env = pure false) : JS G k W N sc (.Assign [.Name x p] e pos) (Bd i f) := by
  obtain ⟨ta, a1, a2⟩ := ha
  refine ⟨tAsg ta (gName i), fun X c => ps_set (by rw [c.ce.hN]; exact c.ce.nd) (by rw [c.ce.hN]; exact hi) (by rw [c.ce.hsc]; exact loc_of hx) (a1 X c.ce) (hs X c.ce.hsc) (.inl (c.fn x)), fun Z F B H σ ρ s o ho E q => ?_⟩
  rcases gBnd_some ho with ⟨d, ed, ho⟩ | ⟨x, ex, rfl⟩
  · refine a2 Z F B H σ ρ s _ ed _ fun F1 B1 H1 v1 u1 k1 => ?_
    obtain ⟨hl, rfl⟩ := gPut_some ho
    exact q F1 B1 H1 _ (s.putF u1 k1 hl) u1.gro
  · exact a2 Z F B H σ ρ s _ ex _ (PostS.er s q)
theorem js_setS {i : Nat} {x : Str} {p : Pos} (hi : N[i]? = some x) (hx : locB sc x = true) (ha : JE G k W N sc .shared e f) (hs : ∀ X : Cx, X.env.scope = sc → swapsWith e (some (.Name x p)) pos.line X.env = pure false) : JS G k W N sc (.Assign [.Name x p] e pos) (Bb i f) := by
  obtain ⟨ta, a1, a2⟩ := ha
  refine ⟨tAsg ta (gName i), fun X c => ps_set (by rw [c.ce.hN]; exact c.ce.nd) (by rw [c.ce.hN]; exact hi) (by rw [c.ce.hsc]; exact loc_of hx) (a1 X c.ce) (hs X c.ce.hsc) (.inl (c.fn x)), fun Z F B H σ ρ s o ho E q => ?_⟩
  rcases gBnd_some ho with ⟨d, ed, ho⟩ | ⟨x, ex, rfl⟩
  · refine a2 Z F B H σ ρ s _ ed _ fun F1 B1 H1 v1 u1 k1 => ?_
    obtain ⟨hl, rfl⟩ := gPut_some ho
    exact q F1 B1 H1 _ (s.putS u1 k1 hl) u1.gro
  · exact a2 Z F B H σ ρ s _ ex _ (PostS.er s q)
def frz (i : Nat) (ρ : En) : En := match ρ[i]? with
  | some (.ow d) => ρ.set i (.sh d)
  | _ => ρ
theorem SR.frz {Z : Zn} {F B H : Hp} {σ : L2.St} {ρ : En} (s : SR G Z F B H σ ρ) (i : Nat) : ∃ F1 B1, SR G Z F1 B1 H σ (frz i ρ) ∧ Gro F B F1 B1 := by
  unfold DL.frz
  split
  · rename_i d e
    obtain ⟨p, a1, a2, a3, a4⟩ := s.sl i _ e
    obtain ⟨o, ho⟩ := a4.there
    have hf : F p = none := by
      cases q : F p with
      | none => rfl
      | some o' => rw [s.fb p o' q] at a3; cases a3
    have fF : Same F (upd F p o) := fun a q e => by rw [upd_ne (ne_of_none e hf)]; exact e
    have fB : Same B (upd B p o) := fun a q e => by rw [upd_ne (ne_of_none e a3)]; exact e
    have hat : OwnAt σ ρ i p := ⟨⟨d, e⟩, s.at e a1⟩
    have hbh : Same (upd B p o) H := fun a q e => by
      by_cases h : a = p
      · subst h; rw [upd_same] at e; cases e; exact ho
      · rw [upd_ne h] at e; exact s.bh a q e
    have hfb : Same (upd F p o) (upd B p o) := fun a q e => by
      by_cases h : a = p
      · subst h; rw [upd_same] at e ⊢; exact e
      · rw [upd_ne h] at e ⊢; exact s.fb a q e
    have hi : i < ρ.length := (List.getElem?_eq_some_iff.mp e).1
    have hne : ∀ a, Z.H a ≠ none → a ≠ p := fun a ha z => by subst z; exact ha a2
    refine ⟨upd F p o, upd B p o, ⟨⟨hfb, hbh, s.zf.trans fF, s.zb.trans fB, fun a ha => ?_, s.zh, s.zk, s.mm, s.md, by rw [List.length_set]; exact s.len, fun j t ht => ?_, fun j k' p' hj hk => ?_, fun q hq => ?_, s.la⟩, ⟨fF, fB⟩⟩⟩
    · rw [upd_ne (hne a ha), upd_ne (hne a ha)]
      exact s.zo a ha
    · by_cases hj : j = i
      · subst hj
        rw [List.getElem?_set_self hi] at ht
        cases ht
        refine ⟨.ref p, a1, OwnO.rep (a4.mono (F' := upd F p o) (H' := upd F p o) fF fun o' e' => ?_)⟩
        rw [ho] at e'
        rw [upd_same]
        exact e'
      · rw [List.getElem?_set_ne (Ne.symm hj)] at ht
        have h := s.sl j t ht
        cases t with
        | un => trivial
        | sh d' =>
          obtain ⟨v, e1, e2⟩ := h
          exact ⟨v, e1, e2.mono fF⟩
        | bo d' =>
          obtain ⟨v, e1, e2⟩ := h
          exact ⟨v, e1, e2.mono fF (Same.refl _)⟩
        | ow d' =>
          obtain ⟨p', e1, e2, e3, e4⟩ := h
          have hpp : p' ≠ p := fun z => hj (s.nd j i p ⟨⟨d', ht⟩, by rw [← z]; exact s.at ht e1⟩ hat)
          exact ⟨p', e1, e2, by rw [upd_ne hpp]; exact e3, e4.mono fF fun _ q => q⟩
        | mu d' =>
          obtain ⟨p', e1, e2, e3, e4⟩ := h
          exact ⟨p', e1, e2, by rw [upd_ne (hne p' (s.mm _ p' e2).1)]; exact e3, e4.mono fF fun _ q => q⟩
        | ln d' =>
          obtain ⟨p', e1, e2, e4⟩ := h
          exact ⟨p', e1, e2, e4.mono fF (fB p')⟩
    · have back : ∀ l p', OwnAt σ (ρ.set i (.sh d)) l p' → OwnAt σ ρ l p' := fun l p' hl => by
        obtain ⟨⟨d', h1⟩, h2⟩ := hl
        by_cases hli : l = i
        · subst hli
          rw [List.getElem?_set_self hi] at h1
          cases h1
        · rw [List.getElem?_set_ne (Ne.symm hli)] at h1
          exact ⟨⟨d', h1⟩, h2⟩
      exact s.nd j k' p' (back j p' hj) (back k' p' hk)
    · obtain ⟨h1, o1, h2⟩ := s.lt q hq
      have hqp : q ≠ p := fun z => by subst z; rw [a3] at h2; cases h2
      exact ⟨by rw [upd_ne hqp]; exact h1, o1, fB q o1 h2⟩
  · exact ⟨F, B, s, Gro.refl⟩
def El (i : Nat) (g : SO) : SO := fun ρ => g (frz i ρ)
theorem js_frz (i : Nat) (h : JS G k W N sc st g) : JS G k W N sc st (El i g) := by
  obtain ⟨t, a1, a2⟩ := h
  refine ⟨t, a1, fun Z F B H σ ρ s o ho E q => ?_⟩
  obtain ⟨F1, B1, s1, y⟩ := s.frz i
  exact a2 Z F1 B1 H σ _ s1 o ho E (q.weak y)
end
end DL
namespace DL
open PySem PySem.Spec L2
section
variable {G : Gm} {k : Nat} {W : WX} {N : List Str} {sc : Scope} {e a b c : Expr} {f fa fb fc : En → M D} {ga gb : En → M Bool} {pos : Pos} {st : Stmt} {sts : List Stmt} {g : SO} {Cn : Cx → Prop}
theorem wipe_set {σ : L2.St} {i : Nat} {o : Option V} : ∀ {vs : List Nat}, i ∈ vs → wipe (σ.set i o) vs = wipe σ vs
  | v :: vs, h => by
    unfold wipe
    by_cases hi : i ∈ vs
    · rw [wipe_set hi]
    · have hv : i = v := by
        rcases List.mem_cons.mp h with h | h
        · exact h
        · exact absurd h hi
      subst hv
      have comm : ∀ {vs : List Nat}, i ∉ vs → wipe (σ.set i o) vs = (wipe σ vs).set i o := fun {vs} hn => by
        induction vs with
        | nil => rfl
        | cons w ws ih =>
          unfold wipe
          rw [ih (fun z => hn (List.mem_cons_of_mem _ z)), List.set_comm _ _ (fun z => hn (by rw [z]; exact List.mem_cons_self))]
      rw [comm hi, List.set_set]
def JG (G : Gm) (Cn : Cx → Prop) (tg : Expr) (is : List Nat) (h : D → En → Option En) : Prop :=
  ∃ t : TG, (∀ X, Cn X → PG X tg t) ∧ ∀ Z F B H σ ρ, SR G Z F B H σ ρ → ∀ d v, Rep G F d v → ∀ ρ', h d ρ = some ρ' → ∀ Q : L2.St → Hp → Prop,
    (∀ σ', SR G Z F B H σ' ρ' → (∀ vs, (∀ i ∈ is, i ∈ vs) → wipe σ' vs = wipe σ vs) → (∀ j p, OwnAt σ' ρ' j p → OwnAt σ ρ j p) → Q σ' H) → t v σ H Q
def JGs (G : Gm) (Cn : Cx → Prop) (tg : List Expr) (is : List Nat) (h : List D → En → Option En) : Prop :=
  ∃ t : TGs, (∀ X, Cn X → PGs X tg t) ∧ ∀ Z F B H σ ρ, SR G Z F B H σ ρ → ∀ ds vs, RepL G F ds vs → ∀ ρ', h ds ρ = some ρ' → ∀ Q : L2.St → Hp → Prop,
    (∀ σ', SR G Z F B H σ' ρ' → (∀ vs, (∀ i ∈ is, i ∈ vs) → wipe σ' vs = wipe σ vs) → (∀ j p, OwnAt σ' ρ' j p → OwnAt σ ρ j p) → Q σ' H) → t vs σ H Q
def Ep (i : Nat) : D → En → Option En := fun d ρ => put i (.sh d) ρ
def Es : List D → En → Option En
  | [], ρ => some ρ
  | _, _ => none
def Ce (h : D → En → Option En) (hs : List D → En → Option En) : List D → En → Option En
  | d :: ds, ρ => (h d ρ).bind (hs ds)
  | _, _ => none
def Et (hs : List D → En → Option En) : D → En → Option En
  | .tup ds, ρ => hs ds ρ
  | _, _ => none
theorem jg_name {i : Nat} {x : Str} {p : Pos} (h : ∀ X, Cn X → PG X (.Name x p) (gName i)) : JG G Cn (.Name x p) [i] (Ep i) := by
  refine ⟨gName i, h, fun Z F B H σ ρ s d v r ρ' hp Q q => ?_⟩
  obtain ⟨hl, rfl⟩ := put_some hp
  exact q _ (s.putS (Up.refl s.fb s.bh) r hl) (fun vs hv => wipe_set (hv i (by simp))) fun j p ho => by
    obtain ⟨⟨d', h1⟩, h2⟩ := ho
    by_cases hji : j = i
    · subst hji
      rw [List.getElem?_set_self hl] at h1
      cases h1
    · rw [List.getElem?_set_ne (Ne.symm hji)] at h1 h2
      exact ⟨⟨d', h1⟩, h2⟩
theorem pgS {i : Nat} {x : Str} {p : Pos} (hi : N[i]? = some x) (hx : locB sc x = true) : ∀ X, CnS G k W N sc X → PG X (.Name x p) (gName i) := fun X c =>
  pg_name (by rw [c.ce.hN]; exact c.ce.nd) (by rw [c.ce.hN]; exact hi) (by rw [c.ce.hsc]; exact loc_of hx) (.inl (c.fn x))
theorem pgE {i : Nat} {x : Str} {p : Pos} (hi : N[i]? = some x) (hx : sc.names.lookup x = some .local) : ∀ X, CnE G k W N sc X → PG X (.Name x p) (gName i) := fun X c =>
  pg_name (by rw [c.hN]; exact c.nd) (by rw [c.hN]; exact hi) (by rw [c.hsc]; exact .inl hx) (.inr (by rw [c.hsc]; exact hx))
theorem jgs_nil : JGs G Cn [] [] Es := by
  refine ⟨gNil, fun X c => pgs_nil, fun Z F B H σ ρ s ds vs r ρ' hp Q q => ?_⟩
  cases ds with
  | nil =>
    have e := Option.some.inj (show some ρ = some ρ' from hp)
    subst e
    exact ⟨r, q σ s (fun _ _ => rfl) fun _ _ z => z⟩
  | cons d ds => cases hp
theorem jgs_cons {es : List Expr} {is js : List Nat} {h : D → En → Option En} {hs : List D → En → Option En} (h1 : JG G Cn e is h) (h2 : JGs G Cn es js hs)
    (ha : ∀ env : Env, (assignEach (e :: es) env).map (·.2) = assign e env :: (assignEach es env).map (·.2)) : JGs G Cn (e :: es) (is ++ js) (Ce h hs) := by
  obtain ⟨t, a1, a2⟩ := h1
  obtain ⟨u, b1, b2⟩ := h2
  refine ⟨gCons t u, fun X c => pgs_cons (a1 X c) (b1 X c) (ha _), fun Z F B H σ ρ s ds vs r ρ' hp Q q => ?_⟩
  cases ds with
  | nil => cases hp
  | cons d ds =>
    obtain ⟨v, vs', rfl, r1, r2⟩ := r
    have hp : (h d ρ).bind (hs ds) = some ρ' := hp
    cases e1 : h d ρ with
    | none => rw [e1] at hp; cases hp
    | some ρ1 =>
      rw [e1] at hp
      refine ⟨v, vs', rfl, a2 Z F B H σ ρ s d v r1 ρ1 e1 _ fun σ1 s1 w1 o1 => ?_⟩
      exact b2 Z F B H σ1 ρ1 s1 ds vs' r2 ρ' hp Q fun σ2 s2 w2 o2 => q σ2 s2 (fun vs hv =>
        (w2 vs fun i hi => hv i (List.mem_append_right _ hi)).trans (w1 vs fun i hi => hv i (List.mem_append_left _ hi))) fun j p z => o1 j p (o2 j p z)
theorem jg_tup {es : List Expr} {kk n : Nat} {is : List Nat} {hs : List D → En → Option En} (hc : ∀ X, Cn X → X.calm = true ∧ X.K = G.K) (h : JGs G Cn es is hs) (hn : ∀ env : Env, (assignEach es env).length = n) (hst : ∀ env : Env, (assignEach es env).findIdx? (·.1) = none) (hl : ∀ ds ρ ρ', hs ds ρ = some ρ' → ds.length = n) :
    JG G Cn (.Tuple es kk pos) is (Et hs) := by
  obtain ⟨t, a1, a2⟩ := h
  refine ⟨gTup G.K n t, fun X c => by rw [← (hc X c).2]; exact pg_tup (hc X c).1 (a1 X c) (hn _) (hst _), fun Z F B H σ ρ s d v r ρ' hp Q q => ?_⟩
  cases d <;> first
    | cases hp
    | (rename_i l
       obtain ⟨p, vs, rfl, h1, h2⟩ := topT (s.fb.trans s.bh) (show Top G F H (.tup l) v from r)
       exact ⟨p, vs, rfl, h1, by rw [h2.length]; exact hl l ρ ρ' hp, a2 Z F B H σ ρ s l vs h2 ρ' hp Q q⟩)
theorem hNil_len {ds : List D} {ρ ρ' : En} (h : Es ds ρ = some ρ') : ds.length = 0 := by
  cases ds with
  | nil => rfl
  | cons d ds => cases h
theorem hCons_len {n : Nat} {h : D → En → Option En} {hs : List D → En → Option En} (hl : ∀ ds ρ ρ', hs ds ρ = some ρ' → ds.length = n) {ds : List D} {ρ ρ' : En} (e : Ce h hs ds ρ = some ρ') : ds.length = n + 1 := by
  cases ds with
  | nil => cases e
  | cons d ds =>
    have e : (h d ρ).bind (hs ds) = some ρ' := e
    cases e1 : h d ρ with
    | none => rw [e1] at e; cases e
    | some ρ1 =>
      rw [e1] at e
      rw [List.length_cons, hl ds ρ1 ρ' e]
def ItR (G : Gm) (F B : Hp) (J : It) (items : List D) : Prop :=
  Walk J items.length (fun H => Same B H) fun i H x H1 => ∀ F1 B1, Gro F B F1 B1 → Same F1 B1 → Same B1 H → ∃ F2 B2 d, items[i]? = some d ∧ Up F1 B1 H F2 B2 H1 ∧ Rep G F2 d x
def PostI (G : Gm) (W : WX) (F B H : Hp) (σ : L2.St) (R : It → Hp → Prop) : Except Xc (List D) → Prop
  | .ok items => ∀ F' B' H' J, Up F B H F' B' H' → ItR G F' B' J items → R J H'
  | .error x => ∀ F' B' H' cls dx, Up F B H F' B' H' → XR G F' H' x cls dx → W cls dx σ H'
def JI (G : Gm) (k : Nat) (W : WX) (N : List Str) (sc : Scope) (tg e : Expr) (fi : En → M (List D)) : Prop :=
  ∃ wi : TI, (∀ X, CnE G k W N sc X → PI X tg e wi) ∧ ∀ Z F B H σ ρ, SR G Z F B H σ ρ → ∀ r, fi ρ = some r → ∀ R, PostI G W F B H σ R r → wi σ H R
theorem itr_list {F B : Hp} {p : Addr} {l : List D} {vs : List V} (h : B p = some (.lst vs)) (r : RepL G F l vs) : ItR G F B (Itl G.K p) l where
  goes := fun i H hi hb => ⟨vs, vs[i]'(by rw [r.length]; exact hi), SqL.of (hb _ _ h), by simp⟩
  stops := fun H hb => ⟨vs, SqL.of (hb _ _ h), by rw [r.length]; exact Nat.le_refl _⟩
  yields := fun i H x H1 hi hb y F1 B1 gr fb bh => by
    obtain ⟨rfl, y⟩ := y
    have e := y vs (SqL.of (hb _ _ h))
    obtain ⟨d, e1, e2⟩ := r.getV e
    exact ⟨F1, B1, d, e1, Up.refl fb bh, e2.mono gr.f⟩
theorem itr_tup {F B : Hp} {p : Addr} {l : List D} {vs : List V} (h : SqT G.K B p vs) (r : RepL G F l vs) : ItR G F B (Itt G.K p) l := by
  have up : ∀ {H : Hp}, Same B H → SqT G.K H p vs := fun {H} hb => by
    rcases h with (h | ⟨o, h⟩) | h
    · exact .inl (.inl (hb _ _ h))
    · exact .inl (.inr ⟨o, hb _ _ h⟩)
    · exact .inr h
  exact {
    goes := fun i H hi hb => ⟨vs, vs[i]'(by rw [r.length]; exact hi), up hb, by simp⟩
    stops := fun H hb => ⟨vs, up hb, by rw [r.length]; exact Nat.le_refl _⟩
    yields := fun i H x H1 hi hb y F1 B1 gr fb bh => by
      obtain ⟨rfl, y⟩ := y
      have e := y vs (up hb)
      obtain ⟨d, e1, e2⟩ := r.getV e
      exact ⟨F1, B1, d, e1, Up.refl fb bh, e2.mono gr.f⟩ }
def iSq (K : PySem.W.Frag) (tl : TE) : TI := fun σ H R => tl σ H fun x H1 => ∃ p, x = .ref p ∧ ((∃ xs, SqL K H1 p xs ∧ R (Itl K p) H1) ∨ (∃ xs, SqT K H1 p xs ∧ R (Itt K p) H1))
theorem pi_sq {X : Cx} {tg l : Expr} {tl : TE} (hl : PE X l tl) : PI X tg l (iSq X.K tl) := by
  refine ⟨fun pp s σ H R I h => thn (hl.run pp s σ H _ I h) fun v t ⟨x, H1, J, r1, p, ex, q1⟩ => ?_⟩
  subst ex
  cases r1
  have new : ∀ {o : Obj}, Inv X pp σ H1 { t with heap := t.heap.push o } := fun {o} => J.kept (t' := t.toks) fun b o' e => Heap.get?_push_of_some _ e
  have fp : ∀ b ∈ [t.heap.objs.size], FpOk X pp H1 b := fun b hb => by
    rw [List.mem_singleton.mp hb]
    exact J.fpOk (Nat.le_refl _) (J.hok.fresh (Nat.le_refl _))
  rcases q1 with ⟨xs, hq, q⟩ | ⟨xs, hq, q⟩
  · obtain ⟨us, rv, pl, hz⟩ := J.list hq
    exact wpAny_pyIter_list pl.isList ⟨_, [_], _, _, H1, rfl, new, turn_list p _, ⟨_, Heap.get?_push_size _ rfl, rfl, rfl⟩, fp, q⟩
  · obtain ⟨us, rv, pl, hz⟩ := J.tuple hq
    exact wpAny_pyIter_tuple (show t.heap.IsTuple p us.toArray from pl) ⟨_, [_], _, _, H1, rfl, new, turn_tuple p _, ⟨_, Heap.get?_push_size _ rfl, rfl, rfl⟩, fp, q⟩
def itemsD : D → Option (List D)
  | .lst l => some l
  | .tup l => some l
  | _ => none
def Fc (f : En → M D) : En → M (List D) := fun ρ => (f ρ).bnd fun x => up1 (itemsD x)
theorem ji_sq {tg : Expr} (h : JE G k W N sc .borrow e f) : JI G k W N sc tg e (Fc f) := by
  obtain ⟨te, a1, a2⟩ := h
  refine ⟨iSq G.K te, fun X c => by rw [← c.hK]; exact pi_sq (a1 X c), fun Z F B H σ ρ s r hr R q => ?_⟩
  rcases bnd_some hr with ⟨x, ex, hr⟩ | ⟨x, ex, rfl⟩
  · refine a2 Z F B H σ ρ s _ ex _ fun F1 B1 H1 v1 u1 k1 => ?_
    obtain ⟨items, ei, rfl⟩ := up1_ok hr
    unfold itemsD at ei
    split at ei
    · have e := Option.some.inj ei
      subst e
      obtain ⟨p, vs, rfl, h1, h2⟩ := topL (show Top G F1 B1 _ v1 from k1)
      exact ⟨p, rfl, .inl ⟨vs, SqL.of (u1.bh _ _ h1), q F1 B1 H1 _ u1 (itr_list h1 h2)⟩⟩
    · have e := Option.some.inj ei
      subst e
      obtain ⟨p, vs, rfl, h1, h2⟩ := topT u1.fb (show Top G F1 B1 _ v1 from k1)
      refine ⟨p, rfl, .inr ⟨vs, ?_, q F1 B1 H1 _ u1 (itr_tup h1 h2)⟩⟩
      rcases h1 with (h1 | ⟨o, h1⟩) | h1
      · exact .inl (.inl (u1.bh _ _ h1))
      · exact .inl (.inr ⟨o, u1.bh _ _ h1⟩)
      · exact .inr h1
    · cases ei
  · exact a2 Z F B H σ ρ s _ ex _ q
def rngD (lo hi : Int) : List D := (List.range (hi - lo).toNat).map fun i => D.int (lo + (i : Nat))
theorem itr_rng {F B : Hp} {lo : Int} {n : Nat} : ItR G F B (Itr lo n) ((List.range n).map fun i => D.int (lo + (i : Nat))) where
  goes := fun i H hi hb => by
    rw [List.length_map, List.length_range] at hi
    exact hi
  stops := fun H hb => by
    rw [List.length_map, List.length_range]
    exact Nat.le_refl _
  yields := fun i H x H1 hi hb y F1 B1 gr fb bh => by
    obtain ⟨rfl, rfl⟩ := y
    rw [List.length_map, List.length_range] at hi
    exact ⟨F1, B1, .int (lo + (i : Nat)), by rw [List.getElem?_map, List.getElem?_range hi]; rfl, Up.refl fb bh, rfl⟩
def rng1 : List D → Option (List D)
  | [.int n] => if -16000000 ≤ n ∧ n ≤ 16000000 then some (rngD 0 n) else none
  | _ => none
def rng2 : List D → Option (List D)
  | [.int m, .int n] => if -16000000 ≤ n ∧ n ≤ 16000000 ∧ -16000000 ≤ m ∧ m ≤ 16000000 then some (rngD m n) else none
  | _ => none
def Ed (op : List D → Option (List D)) (fs : En → M (List D)) : En → M (List D) := fun ρ => (fs ρ).bnd fun xs => up1 (op xs)
theorem ji_rng1 {tg : Expr} {p : Pos} (hg : glB sc "range" = true) (hm : G.mg "range" = none) (hp : PlainArg a) (ha : JE G k W N sc .peek a fa) : JI G k W N sc tg (.Call (.Name "range" p) [a] [] pos) (Ed rng1 (Ac fa Ba)) := by
  obtain ⟨ta, a1, a2⟩ := ja_consP hp ha ja_nil
  refine ⟨iRng1 ta, fun X c => pi_range1 (gl_of c.hsc hg) (by rw [c.hmg]; exact hm) (a1 X c) (hp [] _), fun Z F B H σ ρ s r hr R q => ?_⟩
  rcases bnd_some hr with ⟨x, ex, hr⟩ | ⟨x, ex, rfl⟩
  · refine a2 Z F B H σ ρ s _ ex _ fun F1 B1 H1 vs u1 k1 => ?_
    obtain ⟨items, ei, rfl⟩ := up1_ok hr
    unfold rng1 at ei
    split at ei
    · rename_i n
      split at ei
      · rename_i hn
        have e := Option.some.inj ei
        subst e
        obtain ⟨v, rfl, h⟩ := ar1 k1
        refine ⟨n, by rw [show v = .int n from h], by omega, by omega, q F1 B1 H1 _ u1 ?_⟩
        unfold rngD
        rw [Int.sub_zero]
        exact itr_rng
      · cases ei
    · cases ei
  · exact a2 Z F B H σ ρ s _ ex _ q
def loopG (h : D → En → Option En) (g : SO) : List D → SO
  | [], ρ => some (.nx ρ)
  | d :: ds, ρ => match h d ρ with
    | none => none
    | some ρ1 => match g ρ1 with
      | some (.nx ρ2) => loopG h g ds ρ2
      | some (.ct ρ2) => loopG h g ds ρ2
      | some (.bk ρ2) => some (.nx ρ2)
      | o => o
def Cy (fi : En → M (List D)) (h : D → En → Option En) (g : SO) : SO := Cw fi fun items => loopG h g items
theorem PostS.erI {Z : Zn} {F B H : Hp} {σ : L2.St} {ρ : En} {E : Ends} {x : Xc} (s : SR G Z F B H σ ρ) (q : PostS G W Z F B E (.er x ρ)) {R : It → Hp → Prop} : PostI G W F B H σ R (.error x) := fun F' B' H' cls dx u hx => q F' B' H' σ cls dx (s.up u) u.gro hx
theorem spec_for {wi : TI} {t : TG} {tb : TS} {fi : En → M (List D)} {is : List Nat} {h : D → En → Option En}
    (hi : ∀ Z F B H σ ρ, SR G Z F B H σ ρ → ∀ r, fi ρ = some r → ∀ R, PostI G W F B H σ R r → wi σ H R)
    (ht : ∀ Z F B H σ ρ, SR G Z F B H σ ρ → ∀ d v, Rep G F d v → ∀ ρ', h d ρ = some ρ' → ∀ Q : L2.St → Hp → Prop, (∀ σ', SR G Z F B H σ' ρ' → (∀ vs, (∀ i ∈ is, i ∈ vs) → wipe σ' vs = wipe σ vs) → (∀ j p, OwnAt σ' ρ' j p → OwnAt σ ρ j p) → Q σ' H) → t v σ H Q)
    (hb : SpecS G W tb g) : SpecS G W (tFor wi t tb) (Cy fi h g) := by
  intro Z F B H σ ρ s o ho E q
  rcases gBnd_some ho with ⟨items, ed, ho⟩ | ⟨x, ex, rfl⟩
  · refine hi Z F B H σ ρ s _ ed _ fun F1 B1 H1 J u1 it => ?_
    have q1 := q.weak u1.gro
    refine for_it it (fun i σ' H' => ∃ F' B' ρ', SR G Z F' B' H' σ' ρ' ∧ Gro F1 B1 F' B' ∧ loopG h g (items.drop i) ρ' = some o) ⟨F1, B1, ρ, s.up u1, Gro.refl, ho⟩ ?_ ?_ ?_
    · rintro i σ' H' hi ⟨F', B', ρ', s', gr, _⟩
      exact gr.b.trans s'.bh
    · rintro i x σ' H' H2 hi ⟨F', B', ρ', s', gr, hl⟩ y
      obtain ⟨F2, B2, d, ed, u2, rd⟩ := y F' B' gr s'.fb s'.bh
      have hd : items.drop i = d :: items.drop (i + 1) := by
        obtain ⟨hi', e⟩ := List.getElem?_eq_some_iff.mp ed
        rw [List.drop_eq_getElem_cons hi', e]
      rw [hd] at hl
      unfold loopG at hl
      cases e1 : h d ρ' with
      | none => rw [e1] at hl; cases hl
      | some ρ1 =>
        rw [e1] at hl
        have hl : (match g ρ1 with
          | some (.nx ρ2) => loopG h g (items.drop (i + 1)) ρ2
          | some (.ct ρ2) => loopG h g (items.drop (i + 1)) ρ2
          | some (.bk ρ2) => some (.nx ρ2)
          | o => o) = some o := hl
        refine ht Z F2 B2 H2 σ' ρ' (s'.up u2) d x rd ρ1 e1 _ fun σ3 s3 _ _ => ?_
        have gr2 : Gro F1 B1 F2 B2 := gr.trans u2.gro
        cases e2 : g ρ1 with
        | none => rw [e2] at hl; cases hl
        | some o1 =>
          rw [e2] at hl
          refine hb Z F2 B2 H2 σ3 ρ1 s3 o1 e2 _ ?_
          cases o1 with
          | nx ρ2 => exact fun F4 B4 H4 σ4 s4 gr4 => ⟨F4, B4, ρ2, s4, gr2.trans gr4, hl⟩
          | ct ρ2 => exact fun F4 B4 H4 σ4 s4 gr4 => ⟨F4, B4, ρ2, s4, gr2.trans gr4, hl⟩
          | bk ρ2 =>
            have e := Option.some.inj (show some (Out.nx ρ2) = some o from hl)
            subst e
            exact fun F4 B4 H4 σ4 s4 gr4 => q1 F4 B4 H4 σ4 s4 (gr2.trans gr4)
          | rt kd d ρ2 =>
            have e := Option.some.inj (show some (Out.rt kd d ρ2) = some o from hl)
            subst e
            exact fun F4 B4 H4 σ4 v4 s4 gr4 r4 => q1 F4 B4 H4 σ4 v4 s4 (gr2.trans gr4) r4
          | er x ρ2 =>
            have e := Option.some.inj (show some (Out.er x ρ2) = some o from hl)
            subst e
            exact fun F4 B4 H4 σ4 cls dx s4 gr4 r4 => q1 F4 B4 H4 σ4 cls dx s4 (gr2.trans gr4) r4
    · rintro σ' H' ⟨F', B', ρ', s', gr, hl⟩
      rw [List.drop_length] at hl
      have e := Option.some.inj (show some (Out.nx ρ') = some o from hl)
      subst e
      exact q1 F' B' H' σ' s' gr
  · exact hi Z F B H σ ρ s _ ex _ (PostS.erI s q)
theorem js_for {tg iter : Expr} {body : List Stmt} {fi : En → M (List D)} {is : List Nat} {h : D → En → Option En} (hi : JI G k W N sc tg iter fi) (ht : JG G (CnS G k W N sc) tg is h) (hb : JB G k W N sc body g) (hs : ∀ (X : Cx) x, foldedSetIterable iter X.env x = pure x) :
    JS G k W N sc (.For tg iter body [] pos) (Cy fi h g) := by
  obtain ⟨wi, a1, a2⟩ := hi
  obtain ⟨t, b1, b2⟩ := ht
  obtain ⟨tb, c1, c2⟩ := hb
  exact ⟨_, fun X c => ps_for c.own c.ce.calm (a1 X c.ce) (b1 X c) (c1 X c) (hs X), spec_for a2 b2 c2⟩
def whileG (ga : En → M Bool) (g : SO) : Nat → SO
  | 0, _ => none
  | n + 1, ρ => match ga ρ with
    | some (.ok true) => (match g ρ with
      | some (.nx ρ2) => whileG ga g n ρ2
      | some (.ct ρ2) => whileG ga g n ρ2
      | some (.bk ρ2) => some (.nx ρ2)
      | o => o)
    | some (.ok false) => some (.nx ρ)
    | some (.error x) => some (.er x ρ)
    | none => none
theorem spec_while {tt : TT} {tb : TS} {n : Nat} (hc : SpecT G W tt ga) (hb : SpecS G W tb g) : SpecS G W (tWhile tt tb) (whileG ga g n) := by
  intro Z F B H σ ρ s o ho E q
  refine ⟨fun m σ' H' => ∃ F' B' ρ', SR G Z F' B' H' σ' ρ' ∧ Gro F B F' B' ∧ whileG ga g m ρ' = some o, ⟨n, F, B, ρ, s, Gro.refl, ho⟩, ?_⟩
  rintro m σ' H' ⟨F', B', ρ', s', gr, hl⟩
  cases m with
  | zero => cases hl
  | succ m =>
    unfold whileG at hl
    cases e1 : ga ρ' with
    | none => rw [e1] at hl; cases hl
    | some r =>
      rw [e1] at hl
      refine hc Z F' B' H' σ' ρ' s' r e1 _ ?_
      cases r with
      | error x =>
        have e := Option.some.inj (show some (Out.er x ρ') = some o from hl)
        subst e
        exact fun F2 B2 H2 cls dx u hx => q F2 B2 H2 σ' cls dx (s'.up u) (gr.trans u.gro) hx
      | ok t =>
        intro F1 B1 H1 u1
        have gr1 := gr.trans u1.gro
        cases t with
        | false =>
          have e := Option.some.inj (show some (Out.nx ρ') = some o from hl)
          subst e
          exact q F1 B1 H1 σ' (s'.up u1) gr1
        | true =>
          refine ⟨fun σ4 H4 => ∃ F4 B4 ρ4, SR G Z F4 B4 H4 σ4 ρ4 ∧ Gro F B F4 B4 ∧ whileG ga g m ρ4 = some o, fun σ4 H4 h4 => ⟨m, Nat.lt_succ_self _, h4⟩, ?_⟩
          have hl : (match g ρ' with
            | some (.nx ρ2) => whileG ga g m ρ2
            | some (.ct ρ2) => whileG ga g m ρ2
            | some (.bk ρ2) => some (.nx ρ2)
            | o => o) = some o := hl
          cases e2 : g ρ' with
          | none => rw [e2] at hl; cases hl
          | some o1 =>
            rw [e2] at hl
            refine hb Z F1 B1 H1 σ' ρ' (s'.up u1) o1 e2 _ ?_
            cases o1 with
            | nx ρ2 => exact fun F4 B4 H4 σ4 s4 gr4 => ⟨F4, B4, ρ2, s4, gr1.trans gr4, hl⟩
            | ct ρ2 => exact fun F4 B4 H4 σ4 s4 gr4 => ⟨F4, B4, ρ2, s4, gr1.trans gr4, hl⟩
            | bk ρ2 =>
              have e := Option.some.inj (show some (Out.nx ρ2) = some o from hl)
              subst e
              exact fun F4 B4 H4 σ4 s4 gr4 => q F4 B4 H4 σ4 s4 (gr1.trans gr4)
            | rt kd d ρ2 =>
              have e := Option.some.inj (show some (Out.rt kd d ρ2) = some o from hl)
              subst e
              exact fun F4 B4 H4 σ4 v4 s4 gr4 r4 => q F4 B4 H4 σ4 v4 s4 (gr1.trans gr4) r4
            | er x ρ2 =>
              have e := Option.some.inj (show some (Out.er x ρ2) = some o from hl)
              subst e
              exact fun F4 B4 H4 σ4 cls dx s4 gr4 r4 => q F4 B4 H4 σ4 cls dx s4 (gr1.trans gr4) r4
theorem js_while {body : List Stmt} (n : Nat) (hc : JT G k W N sc c ga) (hb : JB G k W N sc body g) : JS G k W N sc (.While c body [] pos) (whileG ga g n) := by
  obtain ⟨tt, a1, a2⟩ := hc
  obtain ⟨tb, c1, c2⟩ := hb
  exact ⟨_, fun X c => ps_while c.own (a1 X c.ce) (c1 X c), spec_while a2 c2⟩
end
end DL
namespace DL
open PySem PySem.Spec L2
abbrev W0 : WX := fun _ _ _ _ => False
def Cb (ρ : En) : List Nat → En
  | [] => ρ
  | v :: vs => (Cb ρ vs).set v .un
section
variable {G : Gm} {k : Nat} {W : WX} {N : List Str} {sc : Scope} {e a b c : Expr} {f fa fb fc : En → M D} {ga gb : En → M Bool} {pos : Pos} {F B H : Hp} {Z : Zn} {σ : L2.St} {ρ : En}
theorem SR.unset (s : SR G Z F B H σ ρ) (i : Nat) : SR G Z F B H (σ.set i none) (ρ.set i .un) := by
  refine ⟨s.fb, s.bh, s.zf, s.zb, s.zo, s.zh, s.zk, s.mm, s.md, by rw [List.length_set, List.length_set]; exact s.len, fun j t ht => ?_, fun j l p hj hl => ?_, s.lt, s.la⟩
  · by_cases hj : j = i
    · subst hj
      have hl : j < (ρ.set j .un).length := (List.getElem?_eq_some_iff.mp ht).1
      rw [List.length_set] at hl
      rw [List.getElem?_set_self hl] at ht
      cases ht
      trivial
    · rw [List.getElem?_set_ne (Ne.symm hj)] at ht ⊢
      exact s.sl j t ht
  · have back : ∀ j, OwnAt (σ.set i none) (ρ.set i .un) j p → OwnAt σ ρ j p := fun j hj => by
      obtain ⟨⟨d, h1⟩, h2⟩ := hj
      by_cases hji : j = i
      · subst hji
        have hl : j < (ρ.set j .un).length := (List.getElem?_eq_some_iff.mp h1).1
        rw [List.length_set] at hl
        rw [List.getElem?_set_self hl] at h1
        cases h1
      · rw [List.getElem?_set_ne (Ne.symm hji)] at h1 h2
        exact ⟨⟨d, h1⟩, h2⟩
    exact s.nd j l p (back j hj) (back l hl)
theorem SR.wiped (s : SR G Z F B H σ ρ) : ∀ vs : List Nat, SR G Z F B H (wipe σ vs) (Cb ρ vs)
  | [] => s
  | v :: vs => (s.wiped vs).unset v
theorem wipe_idem : ∀ vs : List Nat, wipe (wipe σ vs) vs = wipe σ vs := by
  intro vs
  have key : ∀ (ws : List Nat) (τ : L2.St), (∀ i, i ∈ ws → i ∈ vs) → wipe (wipe τ ws) vs = wipe τ vs := fun ws => by
    induction ws with
    | nil => exact fun τ _ => rfl
    | cons w ws ih =>
      intro τ h
      show wipe ((wipe τ ws).set w none) vs = _
      rw [wipe_set (h w List.mem_cons_self)]
      exact ih τ fun i hi => h i (List.mem_cons_of_mem _ hi)
  exact key vs σ fun i h => h
theorem own_back : ∀ {vs : List Nat} {j : Nat} {p : Addr}, OwnAt (wipe σ vs) (Cb ρ vs) j p → OwnAt σ ρ j p
  | [], _, _, h => h
  | v :: vs, j, p, h => by
    obtain ⟨⟨d, h1⟩, h2⟩ := h
    have h1 : ((Cb ρ vs).set v .un)[j]? = some (.ow d) := h1
    have h2 : ((wipe σ vs).set v none)[j]? = some (some (.ref p)) := h2
    by_cases hj : j = v
    · subst hj
      have hl : j < ((Cb ρ vs).set j .un).length := (List.getElem?_eq_some_iff.mp h1).1
      rw [List.length_set] at hl
      rw [List.getElem?_set_self hl] at h1
      cases h1
    · rw [List.getElem?_set_ne (Ne.symm hj)] at h1 h2
      exact own_back (vs := vs) ⟨⟨d, h1⟩, h2⟩
theorem SR.newUpd (s : SR G Z F B H σ ρ) {A : Addr} {x : HO} (hB : B A = none) (hZ : Z.H A = none) (ho : ∀ i p, OwnAt σ ρ i p → p ≠ A) : SR G Z F B (upd H A x) σ ρ where
  fb := s.fb
  bh := fun a o e => by
    rw [upd_ne (ne_of_none e hB)]
    exact s.bh a o e
  zf := s.zf
  zb := s.zb
  zo := s.zo
  zh := fun a o e hm => by
    rw [upd_ne (ne_of_none e hZ)]
    exact s.zh a o e hm
  zk := fun a ha => by
    rw [upd_ne (by rintro rfl; exact ha hZ)]
    exact s.zk a ha
  mm := s.mm
  md := s.md
  len := s.len
  sl := fun i t ht => by
    have h := s.sl i t ht
    cases t with
    | un => trivial
    | sh d => exact h
    | bo d => exact h
    | ow d =>
      obtain ⟨p, e1, e2, e3, e4⟩ := h
      have hne := ho i p ⟨⟨d, ht⟩, s.at ht e1⟩
      exact ⟨p, e1, e2, e3, e4.mono (Same.refl _) fun o e => by rw [upd_ne hne]; exact e⟩
    | mu d =>
      obtain ⟨p, e1, e2, e3, e4⟩ := h
      have hne : p ≠ A := by rintro rfl; exact (s.mm i p e2).1 hZ
      exact ⟨p, e1, e2, e3, e4.mono (Same.refl _) fun o e => by rw [upd_ne hne]; exact e⟩
    | ln d => exact h
  nd := s.nd
  lt := s.lt
  la := s.la
theorem CnE.blk {X : Cx} (c : CnE G k W N sc X) {scope : Scope} {s : Shared} {H : Hp} {C : Addr} {cl : List (Str × Addr)} {fp : List Addr} : CnE G k W0 N (relS scope sc) (X.blk s H scope (compEnvC scope cl C X.env) fp) where
  hP := c.hP
  hw := c.hw
  hK := c.hK
  hmg := c.hmg
  hb := c.hb
  hN := c.hN
  hsc := by rw [← c.hsc]; rfl
  calm := c.calm
  nd := c.nd
  room := c.room
  tk := fun _ _ x => by
    obtain ⟨_, _, _, _, _, _, _, _, _, _, _, _, _, _, _, _, z⟩ := x
    exact z.elim
def JTs (G : Gm) (k : Nat) (W : WX) (N : List Str) (sc : Scope) (es : List Expr) (f : En → M Bool) : Prop := ∃ tt, (∀ X, CnE G k W N sc X → PTs X es tt) ∧ SpecT G W tt f
def Cd : En → M Bool := fun _ => some (.ok true)
theorem jts_nil : JTs G k W N sc [] Cd := ⟨tYes, fun X c => pts_nil, fun Z F B H σ ρ s r hr Q q => by
  have e := Option.some.inj hr
  subst e
  exact q F B H (Up.refl s.fb s.bh)⟩
theorem jts_one (h : JT G k W N sc c ga) : JTs G k W N sc [c] ga := by
  obtain ⟨tt, h1, h2⟩ := h
  exact ⟨tt, fun X c => pts_one (h1 X c), h2⟩
def compG (h : D → En → Option En) (gc : En → M Bool) (fe : En → M D) (ρ : En) : List D → Option (List D)
  | [] => some []
  | d :: ds => (h d ρ).bind fun ρ1 => match gc ρ1 with
    | some (.ok true) => (match fe ρ1 with
      | some (.ok y) => (compG h gc fe ρ ds).map (y :: ·)
      | _ => none)
    | some (.ok false) => compG h gc fe ρ ds
    | _ => none
def limL (o : Option (List D)) : M D := match o with
  | some l => if l.length ≤ LIM then some (.ok (.lst l)) else none
  | none => none
theorem limL_some {o : Option (List D)} {r : Except Xc D} (h : limL o = some r) : ∃ l, o = some l ∧ l.length ≤ LIM ∧ r = .ok (.lst l) := by
  unfold limL at h
  split at h
  · rename_i l
    split at h
    · rename_i hl
      exact ⟨l, rfl, hl, (Option.some.inj h).symm⟩
    · cases h
  · cases h
def fLc (fi : En → M (List D)) (h : D → En → Option En) (gc : En → M Bool) (fe : En → M D) (vs : List Nat) : En → M D := fun ρ => (fi ρ).bnd fun items => limL (compG h gc fe (Cb ρ vs) items)
theorem comp_turn {t : TG} {tt : TT} {te : TE} {is vs : List Nat} {h : D → En → Option En} {gc : En → M Bool} {fe : En → M D}
    (ht : ∀ Z F B H σ ρ, SR G Z F B H σ ρ → ∀ d v, Rep G F d v → ∀ ρ', h d ρ = some ρ' → ∀ Q : L2.St → Hp → Prop, (∀ σ', SR G Z F B H σ' ρ' → (∀ vs, (∀ i ∈ is, i ∈ vs) → wipe σ' vs = wipe σ vs) → (∀ j p, OwnAt σ' ρ' j p → OwnAt σ ρ j p) → Q σ' H) → t v σ H Q)
    (hc : SpecT G W0 tt gc) (he : SpecE G W0 .shared te fe) (his : ∀ i ∈ is, i ∈ vs) {d : D} {ds l : List D} {x : V} {τ : L2.St} {A : Addr} {acc : List V} {Nx : Hp → Prop} {ρ : En}
    (s : SR G Z F B H τ ρ) (rd : Rep G F d x) (hl : compG h gc fe ρ (d :: ds) = some l) (hA : H A = some (.lst acc)) (hAB : B A = none) (hlen : acc.length + l.length ≤ LIM)
    (nx : ∀ F1 B1 H1, Up F B H F1 B1 H1 → ∀ l', compG h gc fe ρ ds = some l' → ((l = l' ∧ H1 A = some (.lst acc)) → Nx H1) ∧ ∀ y v, l = y :: l' → Rep G F1 y v → H1 A = some (.lst acc) → Nx (upd H1 A (.lst (acc ++ [v])))) :
    t x τ H fun σ2 H2 => wipe σ2 vs = wipe τ vs ∧ tt σ2 H2 fun b H3 => if b = true then te σ2 H3 fun y H4 => ∃ acc, H4 A = some (.lst acc) ∧ acc.length < sizeLine ∧ Nx (upd H4 A (.lst (acc ++ [y]))) else Nx H3 := by
  have hl : ((h d ρ).bind fun ρ1 => match gc ρ1 with
    | some (.ok true) => (match fe ρ1 with
      | some (.ok y) => (compG h gc fe ρ ds).map (y :: ·)
      | _ => none)
    | some (.ok false) => compG h gc fe ρ ds
    | _ => none) = some l := hl
  cases e1 : h d ρ with
  | none => rw [e1] at hl; cases hl
  | some ρ1 =>
    rw [e1] at hl
    have hl : (match gc ρ1 with
      | some (.ok true) => (match fe ρ1 with
        | some (.ok y) => (compG h gc fe ρ ds).map (y :: ·)
        | _ => none)
      | some (.ok false) => compG h gc fe ρ ds
      | _ => none) = some l := hl
    refine ht Z F B H τ ρ s d x rd ρ1 e1 _ fun σ2 s2 w2 _ => ⟨w2 vs his, ?_⟩
    cases e2 : gc ρ1 with
    | none => rw [e2] at hl; cases hl
    | some r =>
      rw [e2] at hl
      cases r with
      | error z => cases hl
      | ok bb =>
        refine hc Z F B H σ2 ρ1 s2 _ e2 _ fun F3 B3 H3 u3 => ?_
        cases bb with
        | false =>
          show Nx H3
          exact (nx F3 B3 H3 u3 l hl).1 ⟨rfl, u3.h _ _ hA⟩
        | true =>
          have hl : (match fe ρ1 with
            | some (.ok y) => (compG h gc fe ρ ds).map (y :: ·)
            | _ => none) = some l := hl
          cases e3 : fe ρ1 with
          | none => rw [e3] at hl; cases hl
          | some r3 =>
            rw [e3] at hl
            cases r3 with
            | error z => cases hl
            | ok y =>
              have hl : (compG h gc fe ρ ds).map (y :: ·) = some l := hl
              cases e4 : compG h gc fe ρ ds with
              | none => rw [e4] at hl; cases hl
              | some l' =>
                rw [e4] at hl
                have el : y :: l' = l := Option.some.inj hl
                show te σ2 H3 _
                refine he Z F3 B3 H3 σ2 ρ1 (s2.up u3) _ e3 _ fun F4 B4 H4 v u4 rv => ?_
                have hA4 : H4 A = some (.lst acc) := u4.h _ _ (u3.h _ _ hA)
                refine ⟨acc, hA4, lim_lt (by rw [← el, List.length_cons] at hlen; omega), ?_⟩
                exact (nx F4 B4 H4 (u3.trans u4) l' e4).2 y v el.symm rv hA4
theorem spec_lc {wi : TI} {t : TG} {tt : TT} {te : TE} {fi : En → M (List D)} {is vs : List Nat} {h : D → En → Option En} {gc : En → M Bool} {fe : En → M D}
    (hi : ∀ Z F B H σ ρ, SR G Z F B H σ ρ → ∀ r, fi ρ = some r → ∀ R, PostI G W F B H σ R r → wi σ H R)
    (ht : ∀ Z F B H σ ρ, SR G Z F B H σ ρ → ∀ d v, Rep G F d v → ∀ ρ', h d ρ = some ρ' → ∀ Q : L2.St → Hp → Prop, (∀ σ', SR G Z F B H σ' ρ' → (∀ vs, (∀ i ∈ is, i ∈ vs) → wipe σ' vs = wipe σ vs) → (∀ j p, OwnAt σ' ρ' j p → OwnAt σ ρ j p) → Q σ' H) → t v σ H Q)
    (hc : SpecT G W0 tt gc) (he : SpecE G W0 .shared te fe) (his : ∀ i ∈ is, i ∈ vs) : SpecE G W .fresh (tLc wi t tt te vs) (fLc fi h gc fe vs) := by
  intro Z F B H σ ρ s r hr Q q
  rcases bnd_some hr with ⟨items, ei, hr⟩ | ⟨x, ex, rfl⟩
  · obtain ⟨l, el, hlim, rfl⟩ := limL_some hr
    refine hi Z F B H σ ρ s _ ei _ fun F1 B1 H1 J u1 it A hA => ?_
    have u1' := u1
    refine lc_it it (fun i H' => ∃ F' B' acc l' done, Up F1 B1 H1 F' B' H' ∧ H' A = some (.lst acc) ∧ B' A = none ∧ RepL G F' done acc ∧ compG h gc fe (Cb ρ vs) (items.drop i) = some l' ∧ done ++ l' = l) ?_ ?_ ?_ ?_
    · exact ⟨F1, B1, [], l, [], Up.new u1.fb u1.bh hA, upd_same, u1.bh.free hA, rfl, el, rfl⟩
    · rintro i H' hi ⟨F', B', acc, l', done, u, _⟩
      exact u.b.trans u.bh
    · rintro i x H' H2 hi ⟨F', B', acc, l', done, u, hA', hB', rl, hl, hd⟩ y
      obtain ⟨F2, B2, d, ed, u2, rd⟩ := y F' B' u.gro u.fb u.bh
      have hdr : items.drop i = d :: items.drop (i + 1) := by
        obtain ⟨hi', e⟩ := List.getElem?_eq_some_iff.mp ed
        rw [List.drop_eq_getElem_cons hi', e]
      rw [hdr] at hl
      have s2 : SR G Z F2 B2 H2 (wipe σ vs) (Cb ρ vs) := (s.up (u1.trans (u.trans u2))).wiped vs
      have hne : H' A ≠ none := by rw [hA']; intro z; cases z
      have hA2 : H2 A = some (.lst acc) := u2.h _ _ hA'
      have hB2 : B2 A = none := by rw [(u2.old A hne).2]; exact hB'
      have hlen : acc.length + l'.length ≤ LIM := by
        rw [rl.length, ← List.length_append, hd]
        exact hlim
      have main := comp_turn (vs := vs) ht hc he his s2 rd hl hA2 hB2 hlen (Nx := fun H' => ∃ F' B' acc l' done, Up F1 B1 H1 F' B' H' ∧ H' A = some (.lst acc) ∧ B' A = none ∧ RepL G F' done acc ∧ compG h gc fe (Cb ρ vs) (items.drop (i + 1)) = some l' ∧ done ++ l' = l) fun F3 B3 H3 u3 l3 e3 => ?_
      · rw [wipe_idem] at main
        exact main
      · have hne2 : H2 A ≠ none := by rw [hA2]; intro z; cases z
        have hB3 : B3 A = none := by rw [(u3.old A hne2).2]; exact hB2
        have rl3 : RepL G F3 done acc := rl.mono (u2.trans u3).f
        refine ⟨fun ⟨e, e'⟩ => ⟨F3, B3, acc, l3, done, u.trans (u2.trans u3), e', hB3, rl3, e3, by rw [← e]; exact hd⟩, fun y v e rv hA3 => ?_⟩
        refine ⟨F3, B3, acc ++ [v], l3, done ++ [y], ?_, upd_same, hB3, rl3.app (RepL.one rv), e3, by rw [List.append_assoc, List.singleton_append, ← e]; exact hd⟩
        have ut := u.trans (u2.trans u3)
        refine ⟨ut.f, ut.b, fun b o e => ?_, ut.fb, fun b o e => ?_, ut.old⟩
        · rw [upd_ne (ne_of_none e hA)]
          exact ut.h b o e
        · rw [upd_ne (ne_of_none e hB3)]
          exact ut.bh b o e
    · rintro H' ⟨F', B', acc, l', done, u, hA', hB', rl, hl, hd⟩
      rw [List.drop_length] at hl
      have e := Option.some.inj (show some [] = some l' from hl)
      subst e
      rw [List.append_nil] at hd
      subst hd
      exact q F' B' H' _ (u1.trans u) ⟨A, rfl, u1.h.free hA, hB', acc, hA', rl⟩
  · exact hi Z F B H σ ρ s _ ex _ q
theorem je_lc {elt tg iter : Expr} {ifs : List Expr} {scope : Scope} (own : List (Str × Nat)) {fi : En → M (List D)} {is : List Nat} {h : D → En → Option En} {gc : En → M Bool} {fe : En → M D} (hb : blkC N sc scope own = true) (his : ∀ i ∈ is, i ∈ own.map (·.2))
    (hi : JI G k W N sc tg iter fi) (ht : JG G (CnE G k W0 N (relS scope sc)) tg is h) (hc : JTs G k W0 N (relS scope sc) ifs gc) (he : JE G k W0 N (relS scope sc) .shared elt fe) (hs : ∀ (env : Env) x, foldedSetIterable iter env x = pure x) :
    JE G k W N sc .fresh (.ListComp elt [⟨tg, iter, ifs, 0⟩] scope pos) (fLc fi h gc fe (own.map (·.2))) := by
  obtain ⟨wi, a1, a2⟩ := hi
  obtain ⟨t, b1, b2⟩ := ht
  obtain ⟨tt, c1, c2⟩ := hc
  obtain ⟨te, e1, e2⟩ := he
  exact ⟨_, fun X c => pe_lc (own := own) c.calm (by rw [c.hN]; exact c.nd) (a1 X c) (by rw [c.hN, c.hsc]; exact blkOk_by hb) (fun _ _ _ _ _ => b1 _ c.blk) (fun _ _ _ _ _ => c1 _ c.blk) (fun _ _ _ _ _ => e1 _ c.blk) (hs _), spec_lc a2 b2 c2 e2 his⟩
theorem js_setLc {i : Nat} {y : Str} {py spos : Pos} {elt tg iter : Expr} {ifs : List Expr} {scope : Scope} (own : List (Str × Nat)) {fi : En → M (List D)} {is : List Nat} {h : D → En → Option En} {gc : En → M Bool} {fe : En → M D} (hy : N[i]? = some y) (hyl : sc.names.lookup y = some .local)
    (hsw : (py.line == pos.line) = true) (hsy : (scope.names.any fun (n, k) => n == y && (k == .local || k == .cell)) = false) (hkind : sc.kind = .function) (hspos : spos.line = spos.line) (hb : blkC N sc scope own = true) (his : ∀ i ∈ is, i ∈ own.map (·.2))
    (hi : JI G k W N sc tg iter fi) (ht : JG G (CnE G k W0 N (relS scope sc)) tg is h) (hc : JTs G k W0 N (relS scope sc) ifs gc) (he : JE G k W0 N (relS scope sc) .shared elt fe) (hs : ∀ (env : Env) x, foldedSetIterable iter env x = pure x) :
    JS G k W N sc (.Assign [.Name y py] (.ListComp elt [⟨tg, iter, ifs, 0⟩] scope pos) spos) (Bd i (fLc fi h gc fe (own.map (·.2)))) := by
  obtain ⟨wi, a1, a2⟩ := hi
  obtain ⟨t, b1, b2⟩ := ht
  obtain ⟨tt, c1, c2⟩ := hc
  obtain ⟨te, e1, e2⟩ := he
  refine ⟨_, fun X c => ps_setLc (own := own) c.ce.calm (by rw [c.ce.hN]; exact c.ce.nd) (by rw [c.ce.hN]; exact hy) (by rw [c.ce.hsc]; exact hyl) (sw_true (by rw [c.ce.hsc]; exact hkind) (by rw [c.ce.hsc]; exact hyl) hsw hsy) (a1 X c.ce) (by rw [c.ce.hN, c.ce.hsc]; exact blkOk_by hb) (fun _ _ _ _ _ => b1 _ c.ce.blk) (fun _ _ _ _ _ => c1 _ c.ce.blk) (fun _ _ _ _ _ => e1 _ c.ce.blk) (hs _), fun Z F B H σ ρ s o ho E q => ?_⟩
  rcases gBnd_some ho with ⟨d, ed, ho⟩ | ⟨x, ex, rfl⟩
  · refine spec_lc (W := W) a2 b2 c2 e2 his Z F B H σ ρ s _ ed _ fun F1 B1 H1 v1 u1 k1 => ?_
    obtain ⟨hl, rfl⟩ := gPut_some ho
    exact q F1 B1 H1 _ (s.putF u1 k1 hl) u1.gro
  · exact spec_lc (W := W) a2 b2 c2 e2 his Z F B H σ ρ s _ ex _ (PostS.er s q)
end
end DL
namespace DL
open PySem PySem.Spec L2
section
variable {X : Cx} {Ct : CXT} {k : Nat} {f C : Addr} {fd : FuncData} {ps : List Str} {sp : Sp} {dvs : List V} {ds : List Value} {E : L2.St → XK} {x m : Str} {p pos apos : Pos} {e o : Expr} {es : List Expr} {ta : TE} {t : TA}
theorem run_mk {pp : List (Addr × Obj)} {σ : L2.St} {H : Hp} {s : Shared} {Q : VK} {us : List Value} {vs : List V} (mk : Mk X.K C f) (ok : FnOk X.prog X.w X.K X.mg X.base Ct k f fd ps sp) (rm : Room (k + 1) X.A) (bi : Binds X.K fd ps ds)
    (dv : Vals dvs ds) (pa : PassesAt Ct X σ (E σ)) (J : Inv X pp σ H s) (rv : Vals vs us)
    (h : ∀ x dx, H x = none → H dx = none → dx ≠ x → sp (.ref x :: (vs ++ dvs)) (upd (upd H dx (.own x)) x (.ins C dx [])) (fun v H2 => v = .non ∧ Q (.ref x) H2) (E σ)) :
    wpAny (model X.prog X.w) X.A (call (.ref C) us) (EP X pp σ Q) X.xe s := by
  have want := h (s.heap.objs.size + 1) s.heap.objs.size (J.hok.fresh (Nat.le_succ _)) (J.hok.fresh (Nat.le_refl _)) (Nat.ne_of_lt (Nat.lt_succ_self _))
  have J2 := Inv.made (C := C) J
  have all : Vals (V.ref (s.heap.objs.size + 1) :: (vs ++ dvs)) (Value.ref (s.heap.objs.size + 1) :: (us ++ ds)) := .cons rfl (rv.append dv)
  have len : (Value.ref (s.heap.objs.size + 1) :: us ++ ds).length = ps.length := by
    have q := all.length
    rw [ok.len _ _ _ _ want] at q
    exact q.symm
  have body := ok.run _ X.stack _ _ ⟨Value.ref (s.heap.objs.size + 1) :: us, []⟩ (Value.ref (s.heap.objs.size + 1) :: (us ++ ds)) _ _ (E σ) (rm.make C us []) (J2.env0.make C us []) (bi _ (Value.ref (s.heap.objs.size + 1) :: us) J2.kIn len) all want
  refine wpAny_call (make_map (f := f) J.kIn mk.makes mk.init (beq_iff_eq.mp mk.fn) (codeAny_mono body fun r s' hr => ?_))
  cases r with
  | error z => exact pa pp _ _ z s' J2 hr
  | ok fl =>
    cases fl with
    | ret u =>
      obtain ⟨v, H', J3, r1, ev, q3⟩ := J2.after hr
      subst ev
      exact ⟨r1, ⟨V.ref (s.heap.objs.size + 1), H', J3, rfl, q3⟩⟩
    | next => exact hr.elim
    | brk => exact hr.elim
    | cont => exact hr.elim
def tMk (C : Addr) (sp : Sp) (dvs : List V) (E : L2.St → XK) (t : TA) : TE := fun σ H Q => t σ H fun vs H1 => ∀ x dx, H1 x = none → H1 dx = none → dx ≠ x →
  sp (.ref x :: (vs ++ dvs)) (upd (upd H1 dx (.own x)) x (.ins C dx [])) (fun v H2 => v = .non ∧ Q (.ref x) H2) (E σ)
theorem pe_mk (mk : Mk X.K C f) (ok : FnOk X.prog X.w X.K X.mg X.base Ct k f fd ps sp) (rm : Room (k + 1) X.A) (hg : Gl X x) (hm : X.mg x = some (.ref C)) (bi : Binds X.K fd ps ds) (dv : Vals dvs ds) (pa : ∀ σ, PassesAt Ct X σ (E σ))
    (ha : PA X (e :: es) t) (hdb : (x == ("__debug__" : Str)) = false) (he : starEach (e :: es) X.env = (false, eval e X.env) :: starEach es X.env) (hpl : (backTo pos (starEach es X.env)).any (·.1) = false) :
    PE X (.Call (.Name x p) (e :: es) [] pos) (tMk C sp dvs E t) :=
  ⟨fun pp s σ H Q J h => wpAny_Call_Name_kw (ld_glob J hg hm (PySem.W.callWith_K (h₀ := X.base) J.ok.mod.kin mk.kp (thn (ha.run pos pp s σ H _ J h) fun us s1 ⟨vs, H1, J1, r, q⟩ => ⟨J1.kIn, run_mk mk ok rm bi dv (pa σ) J1 r q⟩) he hpl) hdb)⟩
def tMe (C : Addr) (m : Str) (sp : Sp) (dvs : List V) (E : L2.St → XK) (ta : TE) (t : TA) : TE := fun σ H Q => ta σ H fun x H1 => ∃ a dx fs, x = .ref a ∧ H1 a = some (.ins C dx fs) ∧ fs.lookup m = none ∧
  t σ H1 fun vs H2 => sp (x :: (vs ++ dvs)) H2 Q (E σ)
theorem pe_me {pl : Sem Bool} (he : PE X o ta) (cl : Cls X.K C) (hm : Meth X.K C m f) (ok : FnOk X.prog X.w X.K X.mg X.base Ct k f fd ps sp) (rm : Room k X.A) (bi : Binds X.K fd ps ds) (dv : Vals dvs ds) (pa : ∀ σ, PassesAt Ct X σ (E σ)) (ha : PA X (e :: es) t)
    (hst : starEach (e :: es) X.env = (false, eval e X.env) :: starEach es X.env) (hpl : (backTo pos (starEach es X.env)).any (·.1) = false)
    (ht : eval (.Call (.Attribute o m apos) (e :: es) [] pos) X.env = (do
      let z ← eval o X.env
      standAt apos.atName
      let (g, fst) ← holding [z] (getMethod z m pl)
      callWith pos g fst (backTo pos (starEach (e :: es) X.env)) (backToKw pos (keywordEach [] X.env)))) :
    PE X (.Call (.Attribute o m apos) (e :: es) [] pos) (tMe C m sp dvs E ta t) := by
  refine ⟨fun pp s σ H Q J h => PySem.W.methodCall_KW (pl := pl) (thn (he.run pp s σ H _ J h) fun u s1 ⟨x, H1, J1, rx, a, dx, fs, ex, ea, l, q⟩ => ?_) ht⟩
  subst ex
  obtain rfl : u = Value.ref a := rx
  exact getmeth_ok J1 ea cl hm l (PySem.W.callWith_K (first := [.ref a]) (h₀ := X.base) J.ok.mod.kin hm.kp (thn (ha.run pos pp s1 σ H1 _ J1 q) fun us s2 ⟨vs, H2, J2, r, q2⟩ => ⟨J2.kIn, run_fnSD (us := .ref a :: us) (vs := .ref a :: vs) ok rm bi dv (pa σ) J2 (.cons rfl r) q2⟩) hst hpl)
theorem pe_me0 {pl : Sem Bool} (he : PE X o ta) (cl : Cls X.K C) (hm : Meth X.K C m f) (ok : FnOk X.prog X.w X.K X.mg X.base Ct k f fd ps sp) (rm : Room k X.A) (bi : Binds X.K fd ps ds) (dv : Vals dvs ds) (pa : ∀ σ, PassesAt Ct X σ (E σ))
    (ht : eval (.Call (.Attribute o m apos) [] [] pos) X.env = (do
      let z ← eval o X.env
      standAt apos.atName
      let (g, fst) ← holding [z] (getMethod z m pl)
      callWith pos g fst (backTo pos (starEach [] X.env)) (backToKw pos (keywordEach [] X.env)))) :
    PE X (.Call (.Attribute o m apos) [] [] pos) (tMe C m sp dvs E ta tNil) := by
  refine ⟨fun pp s σ H Q J h => PySem.W.methodCall_KW (pl := pl) (thn (he.run pp s σ H _ J h) fun u s1 ⟨x, H1, J1, rx, a, dx, fs, ex, ea, l, q⟩ => ?_) ht⟩
  subst ex
  obtain rfl : u = Value.ref a := rx
  exact getmeth_ok J1 ea cl hm l (PySem.W.callWith_K0 (first := [.ref a]) J1.kIn hm.kp (run_fnSD (us := [.ref a]) (vs := [.ref a]) ok rm bi dv (pa σ) J1 (.cons rfl .nil) q))
end
inductive PK where
  | sh | bo | mu
inductive FOut where
  | ret (fr : Bool) (d : D) (ms : List D)
  | exc (x : Xc) (ms : List D)
def ParR (G : Gm) (F B H : Hp) : List PK → List D → List V → Prop
  | [], [], vs => vs = []
  | .sh :: ks, d :: ds, vs => ∃ v vs', vs = v :: vs' ∧ Rep G F d v ∧ ParR G F B H ks ds vs'
  | .bo :: ks, d :: ds, vs => ∃ v vs', vs = v :: vs' ∧ Top G F B d v ∧ ParR G F B H ks ds vs'
  | .mu :: ks, d :: ds, vs => ∃ p vs', vs = .ref p :: vs' ∧ B p = none ∧ OwnO G F H p d ∧ ParR G F B H ks ds vs'
  | _, _, _ => False
def PK.ad : PK → V → Option Addr
  | .mu, .ref p => some p
  | _, _ => none
def muA : List PK → List V → List Addr
  | k :: ks, v :: vs => (k.ad v).toList ++ muA ks vs
  | _, _ => []
def MusR (G : Gm) (F' H' : Hp) : List Addr → List D → Prop
  | [], [] => True
  | p :: ps, d :: ds => OwnO G F' H' p d ∧ MusR G F' H' ps ds
  | _, _ => False
def hid (H : Hp) (ms : List Addr) : Hp := fun a => if a ∈ ms then none else H a
structure Aft (F H : Hp) (ms : List Addr) (F' H' : Hp) : Prop where
  f : Same F F'
  fh : Same F' H'
  h : ∀ a o, H a = some o → a ∉ ms → H' a = some o
  k : ∀ a, H a ≠ none → H' a ≠ none
  old : ∀ a, H a ≠ none → F' a = F a
def RetV (G : Gm) (F' H H' : Hp) (fr : Bool) (d : D) (v : V) : Prop :=
  if fr = true ∧ d.isMut = true then ∃ p, v = .ref p ∧ H p = none ∧ F' p = none ∧ OwnO G F' H' p d else Rep G F' d v
def PostF (G : Gm) (F H : Hp) (ms : List Addr) (Q : VK) (E : XK) : FOut → Prop
  | .ret fr d mus => ∀ F' H' v, Aft F H ms F' H' → RetV G F' H H' fr d v → MusR G F' H' ms mus → Q v H'
  | .exc x mus => ∀ F' H' cls dx, Aft F H ms F' H' → XR G F' H' x cls dx → MusR G F' H' ms mus → E cls dx H'
def spD (G : Gm) (ks : List PK) (Fn : List D → Option FOut) : Sp := fun vs H Q E =>
  ∃ F ds, Same F (hid H (muA ks vs)) ∧ (muA ks vs).Nodup ∧ ParR G F (hid H (muA ks vs)) H ks ds vs ∧ ∃ o, Fn ds = some o ∧ PostF G F H (muA ks vs) Q E o
def PK.still : PK → Bool
  | .mu => false
  | _ => true
theorem muA_still : ∀ {ks : List PK} {vs : List V}, ks.all PK.still = true → muA ks vs = []
  | [], _, _ => by unfold muA; rfl
  | .sh :: ks, [], _ => rfl
  | .bo :: ks, [], _ => rfl
  | .sh :: ks, v :: vs, h => muA_still (ks := ks) (vs := vs) (by simpa [PK.still] using h)
  | .bo :: ks, v :: vs, h => muA_still (ks := ks) (vs := vs) (by simpa [PK.still] using h)
  | .mu :: ks, _, h => by simp [PK.still] at h
theorem hid_nil {H : Hp} : hid H [] = H := by
  funext a
  unfold hid
  simp
def argK : PK → Arg
  | .sh => .shared
  | _ => .peek
theorem par_of {G : Gm} {F H : Hp} : ∀ {ks : List PK} {ds : List D} {vs : List V}, ks.all PK.still = true → ArR G F H (ks.map argK) ds vs → ParR G F H H ks ds vs
  | [], [], vs, _, h => h
  | [], _ :: _, vs, _, h => h.elim
  | .sh :: ks, [], vs, _, h => h.elim
  | .bo :: ks, [], vs, _, h => h.elim
  | .mu :: ks, _, vs, h, _ => by simp [PK.still] at h
  | .sh :: ks, d :: ds, vs, a, h => by
    obtain ⟨v, vs', rfl, h1, h2⟩ := h
    exact ⟨v, vs', rfl, h1, par_of (by simpa [PK.still] using a) h2⟩
  | .bo :: ks, d :: ds, vs, a, h => by
    obtain ⟨v, vs', rfl, h1, h2⟩ := h
    exact ⟨v, vs', rfl, h1, par_of (by simpa [PK.still] using a) h2⟩
theorem ParR.length {G : Gm} {F B H : Hp} : ∀ {ks : List PK} {ds : List D} {vs : List V}, ParR G F B H ks ds vs → vs.length = ks.length
  | [], [], vs, h => by rw [show vs = [] from h]; rfl
  | [], _ :: _, vs, h => h.elim
  | .sh :: ks, [], vs, h => h.elim
  | .bo :: ks, [], vs, h => h.elim
  | .mu :: ks, [], vs, h => h.elim
  | .sh :: ks, d :: ds, vs, h => by
    obtain ⟨v, vs', rfl, h1, h2⟩ := h
    rw [List.length_cons, List.length_cons, ParR.length h2]
  | .bo :: ks, d :: ds, vs, h => by
    obtain ⟨v, vs', rfl, h1, h2⟩ := h
    rw [List.length_cons, List.length_cons, ParR.length h2]
  | .mu :: ks, d :: ds, vs, h => by
    obtain ⟨p, vs', rfl, h0, h1, h2⟩ := h
    rw [List.length_cons, List.length_cons, ParR.length h2]
def newB (B H F' : Hp) : Hp := fun a => match H a with
  | some _ => B a
  | none => F' a
theorem Aft.up {F B H F' H' : Hp} (a : Aft F H [] F' H') (fb : Same F B) (bh : Same B H) : Up F B H F' (newB B H F') H' where
  f := a.f
  b := fun x o e => by
    unfold newB
    rw [bh x o e]
    exact e
  h := fun x o e => a.h x o e (by simp)
  fb := fun x o e => by
    unfold newB
    cases q : H x with
    | none => exact e
    | some u =>
      have z := a.old x (by rw [q]; intro z; cases z)
      rw [z] at e
      exact fb x o e
  bh := fun x o e => by
    unfold newB at e
    cases q : H x with
    | none => rw [q] at e; exact a.fh x o e
    | some u => rw [q] at e; exact a.h x o (bh x o e) (by simp)
  old := fun x hx => by
    refine ⟨a.old x hx, ?_⟩
    unfold newB
    cases q : H x with
    | none => exact absurd q hx
    | some u => rfl
theorem RetV.fresh {G : Gm} {B F' H H' : Hp} {fr : Bool} {d : D} {v : V} (hf : fr = true ∨ d.isMut = false) (h : RetV G F' H H' fr d v) : KR G .fresh H F' (newB B H F') H' d v := by
  unfold RetV at h
  show (if d.isMut = true then ∃ p, v = .ref p ∧ H p = none ∧ newB B H F' p = none ∧ OwnO G F' H' p d else Rep G F' d v)
  by_cases hm : d.isMut = true
  · rcases hf with hf | hf
    · rw [if_pos ⟨hf, hm⟩] at h
      rw [if_pos hm]
      obtain ⟨p, e1, e2, e3, e4⟩ := h
      exact ⟨p, e1, e2, by unfold newB; rw [e2]; exact e3, e4⟩
    · rw [hf] at hm
      cases hm
  · rw [if_neg (fun z => hm z.2)] at h
    rw [if_neg hm]
    exact h
def Cr : Option FOut → M D
  | some (.ret fr d []) => if fr = true then some (.ok d) else if d.isMut = true then none else some (.ok d)
  | some (.exc x []) => some (.error x)
  | _ => none
def Ag (Fn : List D → Option FOut) (fs : En → M (List D)) : En → M D := fun ρ => (fs ρ).bnd fun xs => Cr (Fn xs)
theorem sp_callF {G : Gm} {W : WX} {ks : List PK} {Fn : List D → Option FOut} {F B H : Hp} {σ : L2.St} {ds : List D} {vs : List V} {Q : VK} {r : Except Xc D} (hk : ks.all PK.still = true) (fb : Same F B) (bh : Same B H) (ha : ParR G F H H ks ds vs)
    (hr : Cr (Fn ds) = some r) (q : PostE G W .fresh F B H σ Q r) : spD G ks Fn vs H Q (WE W σ) := by
  have em : muA ks vs = [] := muA_still hk
  unfold spD
  rw [em, hid_nil]
  refine ⟨F, ds, fb.trans bh, List.nodup_nil, ha, ?_⟩
  unfold Cr at hr
  split at hr
  · rename_i fr d e
    refine ⟨_, e, fun F' H' v a rv _ => ?_⟩
    split at hr
    · rename_i hfr
      have e2 := Option.some.inj hr
      subst e2
      exact q F' _ H' v (a.up fb bh) (rv.fresh (.inl hfr))
    · split at hr
      · cases hr
      · rename_i hm
        have e2 := Option.some.inj hr
        subst e2
        exact q F' _ H' v (a.up fb bh) (rv.fresh (.inr (by simpa using hm)))
  · rename_i x e
    have e2 := Option.some.inj hr
    subst e2
    exact ⟨_, e, fun F' H' cls dx a xr _ => q F' _ H' cls dx (a.up fb bh) xr⟩
  · cases hr
end DL
namespace DL
open PySem PySem.Spec L2
section
variable {G : Gm} {k j : Nat} {W : WX} {N : List Str} {sc : Scope} {e a o : Expr} {es : List Expr} {f fa fb fc : En → M D} {fs : En → M (List D)} {pos p apos : Pos} {F B H : Hp} {Z : Zn} {σ : L2.St} {ρ : En}
  {ad : Addr} {fd : FuncData} {ps : List Str} {ks : List PK} {Fn : List D → Option FOut} {x m : Str}
abbrev FnG (G : Gm) (k : Nat) (f : Addr) (fd : FuncData) (ps : List Str) (ks : List PK) (Fn : List D → Option FOut) : Prop := FnOk G.P G.w G.K G.mg G.base (L2N.CX G.P G.w) k f fd ps (spD G ks Fn)
theorem CnE.fn {X : Cx} (c : CnE G k W N sc X) (F : FnG G j ad fd ps ks Fn) : FnOk X.prog X.w X.K X.mg X.base (L2N.CX X.prog X.w) j ad fd ps (spD G ks Fn) := by
  rw [c.hP, c.hw, c.hK, c.hmg, c.hb]
  exact F
theorem CnE.pass {X : Cx} (c : CnE G k W N sc X) : ∀ σ, PassesAt (L2N.CX X.prog X.w) X σ (WE W σ) := fun σ => L2N.passAt c.tk σ
theorem je_callF (ok : FnG G j ad fd ps ks Fn) (hj : j ≤ k) (hks : ks.all PK.still = true) (hg : glB sc x = true) (hm : G.mg x = some (.ref ad)) (hk : PySem.W.keepIn G.K (.ref ad) = true) (hb : Binds G.K fd ps []) (hd : (x == ("__debug__" : Str)) = false) (hp : PlainArg e) (hpl : NoStar pos es)
    (ha : JA G k W N sc (ks.map argK) (e :: es) fs) : JE G k W N sc .fresh (.Call (.Name x p) (e :: es) [] pos) (Ag Fn fs) := by
  obtain ⟨ta, a1, a2⟩ := ha
  refine ⟨tCallSD (spD G ks Fn) [] (fun σ => WE W σ) ta, fun X c => pe_callSD (c.fn ok) (c.room.mono hj) (gl_of c.hsc hg) (by rw [c.hmg]; exact hm) (by rw [c.hK]; exact hk) (by rw [c.hK]; exact hb) .nil c.pass (a1 X c) hd (hp _ _) (hpl _), fun Z F B H σ ρ s r hr Q q => ?_⟩
  rcases bnd_some hr with ⟨ds, ed, hr⟩ | ⟨x, ex, rfl⟩
  · refine a2 Z F B H σ ρ s _ ed _ fun F1 B1 H1 vs u1 k1 => ?_
    show spD G ks Fn (vs ++ []) H1 Q (WE W σ)
    rw [List.append_nil]
    exact sp_callF hks u1.fb u1.bh (par_of hks k1) hr (q.weak u1)
  · exact a2 Z F B H σ ρ s _ ex _ q
def Ev : Option FOut → M D
  | some (.ret _ .non [d]) => some (.ok d)
  | some (.exc x [_]) => some (.error x)
  | _ => none
def fMk (c : Nat) (Fn : List D → Option FOut) (fs : En → M (List D)) : En → M D := fun ρ => (fs ρ).bnd fun xs => Ev (Fn (.obj c [] :: xs))
theorem ParR.mono {F B H B' H' : Hp} (b : Same B B') : ∀ {ks : List PK} {ds : List D} {vs : List V}, ks.all PK.still = true → ParR G F B H ks ds vs → ParR G F B' H' ks ds vs
  | [], [], vs, _, h => h
  | [], _ :: _, vs, _, h => h.elim
  | .sh :: ks, [], vs, _, h => h.elim
  | .bo :: ks, [], vs, _, h => h.elim
  | .mu :: ks, _, vs, h, _ => by simp [PK.still] at h
  | .sh :: ks, d :: ds, vs, a, h => by
    obtain ⟨v, vs', rfl, h1, h2⟩ := h
    exact ⟨v, vs', rfl, h1, h2.mono b (by simpa [PK.still] using a)⟩
  | .bo :: ks, d :: ds, vs, a, h => by
    obtain ⟨v, vs', rfl, h1, h2⟩ := h
    exact ⟨v, vs', rfl, h1.mono (Same.refl _) b, h2.mono b (by simpa [PK.still] using a)⟩
theorem zipF_nil (ns : List Str) : zipF ns [] = [] := by cases ns <;> rfl
theorem sp_mk {c : Nat} {C : Addr} {ns : List Str} {ds : List D} {vs : List V} {Q : VK} {r : Except Xc D} (hct : G.ct c = some (C, ns)) (hks : ks.all PK.still = true) (fb : Same F B) (bh : Same B H) (ha : ParR G F H H ks ds vs)
    (hr : Ev (Fn (.obj c [] :: ds)) = some r) (q : PostE G W .fresh F B H σ Q r) {x dx : Addr} (hx : H x = none) (hdx : H dx = none) (hne : dx ≠ x) :
    spD G (.mu :: ks) Fn (.ref x :: vs) (upd (upd H dx (.own x)) x (.ins C dx [])) (fun v H2 => v = .non ∧ Q (.ref x) H2) (WE W σ) := by
  have em : muA (.mu :: ks) (.ref x :: vs) = [x] := by
    show x :: muA ks vs = [x]
    rw [muA_still hks]
  have keep : Same H (hid (upd (upd H dx (.own x)) x (.ins C dx [])) [x]) := fun b u e => by
    have h1 : b ≠ x := ne_of_none e hx
    unfold hid
    rw [if_neg (by simpa using h1), upd_ne h1, upd_ne (ne_of_none e hdx)]
    exact e
  have keep2 : ∀ b, H b ≠ none → (upd (upd H dx (.own x)) x (.ins C dx [])) b = H b := fun b hb => by
    rw [upd_ne (by rintro rfl; exact hb hx), upd_ne (by rintro rfl; exact hb hdx)]
  unfold spD
  rw [em]
  refine ⟨F, .obj c [] :: ds, (fb.trans bh).trans keep, by simp, ⟨x, vs, rfl, by unfold hid; simp, ⟨C, ns, dx, [], hct, by rw [zipF_nil]; exact upd_same, rfl⟩, ha.mono keep hks⟩, ?_⟩
  have aft : ∀ {F' H' : Hp}, Aft F (upd (upd H dx (.own x)) x (.ins C dx [])) [x] F' H' → Aft F H [] F' H' ∧ F' x = none := fun {F' H'} z => by
    refine ⟨⟨z.f, z.fh, fun b u e _ => z.h b u (by rw [keep2 b (by rw [e]; intro z; cases z)]; exact e) (by simpa using ne_of_none e hx), fun b hb => z.k b (by rw [keep2 b hb]; exact hb), fun b hb => z.old b (by rw [keep2 b hb]; exact hb)⟩, ?_⟩
    rw [z.old x (by rw [upd_same]; intro z; cases z)]
    cases q : F x with
    | none => rfl
    | some u => rw [bh x u (fb x u q)] at hx; cases hx
  unfold Ev at hr
  split at hr
  · rename_i fr d e
    have e2 := Option.some.inj hr
    subst e2
    refine ⟨_, e, fun F' H' v z rv ms => ⟨?_, ?_⟩⟩
    · unfold RetV at rv
      rw [if_neg (fun z => nomatch z.2)] at rv
      exact rv
    · obtain ⟨z1, z2⟩ := aft z
      refine q F' _ H' _ (z1.up fb bh) ?_
      show (if d.isMut = true then ∃ p, V.ref x = .ref p ∧ H p = none ∧ newB B H F' p = none ∧ OwnO G F' H' p d else Rep G F' d (.ref x))
      have ho : OwnO G F' H' x d := ms.1
      by_cases hm : d.isMut = true
      · rw [if_pos hm]
        exact ⟨x, rfl, hx, by unfold newB; rw [hx]; exact z2, ho⟩
      · cases d <;> first | exact ho.elim | exact absurd rfl hm
  · rename_i z d e
    have e2 := Option.some.inj hr
    subst e2
    exact ⟨_, e, fun F' H' cls dx' z xr _ => q F' _ H' cls dx' ((aft z).1.up fb bh) xr⟩
  · cases hr
theorem je_mk {c : Nat} {C : Addr} {ns : List Str} (hct : G.ct c = some (C, ns)) (mk : Mk G.K C ad) (ok : FnG G j ad fd ps (.mu :: ks) Fn) (hj : j + 1 ≤ k) (hks : ks.all PK.still = true) (hg : glB sc x = true) (hm : G.mg x = some (.ref C)) (hb : Binds G.K fd ps [])
    (hd : (x == ("__debug__" : Str)) = false) (hp : PlainArg e) (hpl : NoStar pos es) (ha : JA G k W N sc (ks.map argK) (e :: es) fs) : JE G k W N sc .fresh (.Call (.Name x p) (e :: es) [] pos) (fMk c Fn fs) := by
  obtain ⟨ta, a1, a2⟩ := ha
  refine ⟨tMk C (spD G (.mu :: ks) Fn) [] (fun σ => WE W σ) ta, fun X c => pe_mk (by rw [c.hK]; exact mk) (c.fn ok) (c.room.mono hj) (gl_of c.hsc hg) (by rw [c.hmg]; exact hm) (by rw [c.hK]; exact hb) .nil c.pass (a1 X c) hd (hp _ _) (hpl _), fun Z F B H σ ρ s r hr Q q => ?_⟩
  rcases bnd_some hr with ⟨ds, ed, hr⟩ | ⟨x, ex, rfl⟩
  · refine a2 Z F B H σ ρ s _ ed _ fun F1 B1 H1 vs u1 k1 x dx hx hdx hne => ?_
    rw [List.append_nil]
    exact sp_mk hct hks u1.fb u1.bh (par_of hks k1) hr (q.weak u1) hx hdx hne
  · exact a2 Z F B H σ ρ s _ ex _ q
theorem zipF_lookup {m : Str} : ∀ {ns : List Str} {vs : List V}, m ∉ ns → (zipF ns vs).lookup m = none
  | [], _, _ => by
    unfold zipF
    rfl
  | n :: ns, [], _ => rfl
  | n :: ns, v :: vs, h => by
    show ((n, v) :: zipF ns vs).lookup m = none
    rw [List.lookup_cons, beq_eq_false_iff_ne.mpr (fun z => h (by rw [z]; exact List.mem_cons_self))]
    exact zipF_lookup fun z => h (List.mem_cons_of_mem _ z)
def isObj (c : Nat) : D → Bool
  | .obj c' _ => c' == c
  | _ => false
def fMe (c : Nat) (Fn : List D → Option FOut) (fa : En → M D) (fs : En → M (List D)) (out : Option FOut → M D) : En → M D := fun ρ => (fa ρ).bnd fun x => if isObj c x = true then (fs ρ).bnd fun xs => out (Fn (x :: xs)) else none
theorem isObj_eq {c : Nat} {d : D} (h : isObj c d = true) : ∃ fs, d = .obj c fs := by
  cases d <;> first
    | (rename_i c' fs
       have e : c' = c := by simpa [isObj] using h
       subst e
       exact ⟨fs, rfl⟩)
    | cases h
def MethEval (o : Expr) (m : Str) (apos : Pos) (args : List Expr) (pos : Pos) (pl : Env → Sem Bool) : Prop := ∀ env : Env, eval (.Call (.Attribute o m apos) args [] pos) env = (do
      let z ← eval o env
      standAt apos.atName
      let (g, fst) ← holding [z] (getMethod z m (pl env))
      callWith pos g fst (backTo pos (starEach args env)) (backToKw pos (keywordEach [] env)))
theorem spec_me {c : Nat} {C : Addr} {ns : List Str} {kd : Kd} {ta : TE} {tr : TA} {out : Option FOut → M D} (hct : G.ct c = some (C, ns)) (hks : ks.all PK.still = true) (hmn : m ∉ ns) (a2 : SpecE G W .peek ta fa) (r2 : SpecA G W (ks.map argK) tr fs)
    (fin : ∀ {F B H : Hp} {σ : L2.St} {ds : List D} {vs : List V} {Q : VK} {r : Except Xc D}, Same F B → Same B H → ParR G F H H (.bo :: ks) ds vs → out (Fn ds) = some r → PostE G W kd F B H σ Q r → spD G (.bo :: ks) Fn vs H Q (WE W σ)) :
    SpecE G W kd (tMe C m (spD G (.bo :: ks) Fn) [] (fun σ => WE W σ) ta tr) (fMe c Fn fa fs out) := by
  intro Z F B H σ ρ s r hr Q q
  rcases bnd_some hr with ⟨d, ed, hr⟩ | ⟨x, ex, rfl⟩
  · split at hr
    · rename_i hob
      obtain ⟨gs, rfl⟩ := isObj_eq hob
      refine a2 Z F B H σ ρ s _ ed _ fun F1 B1 H1 v1 u1 k1 => ?_
      obtain ⟨pa, rfl, C', ns', dx, vs, h1, h2, h3⟩ := k1
      rw [hct] at h1
      cases h1
      refine ⟨pa, dx, _, rfl, h2, zipF_lookup hmn, ?_⟩
      rcases bnd_some hr with ⟨ds, eds, hr⟩ | ⟨x, ex, rfl⟩
      · refine r2 Z F1 B1 H1 σ ρ (s.up u1) _ eds _ fun F2 B2 H2 ws u2 k2 => ?_
        rw [List.append_nil]
        exact fin (ds := .obj c gs :: ds) (vs := .ref pa :: ws) u2.fb u2.bh ⟨.ref pa, ws, rfl, ⟨pa, rfl, C, ns, dx, vs, hct, u2.h _ _ h2, h3.mono u2.f⟩, par_of hks k2⟩ hr (q.weak (u1.trans u2))
      · exact r2 Z F1 B1 H1 σ ρ (s.up u1) _ ex _ (fun F' B' H' cls dx u hx => q F' B' H' cls dx (u1.trans u) hx)
    · cases hr
  · exact a2 Z F B H σ ρ s _ ex _ q
theorem je_meF {c : Nat} {C : Addr} {ns : List Str} {pl : Env → Sem Bool} (hct : G.ct c = some (C, ns)) (cl : Cls G.K C) (me : Meth G.K C m ad) (ok : FnG G j ad fd ps (.bo :: ks) Fn) (hj : j ≤ k) (hks : ks.all PK.still = true) (hmn : m ∉ ns) (hb : Binds G.K fd ps [])
    (hp : PlainArg e) (hpl : NoStar pos es) (ht : MethEval o m apos (e :: es) pos pl) (ho : JE G k W N sc .peek o fa) (ha : JA G k W N sc (ks.map argK) (e :: es) fs) : JE G k W N sc .fresh (.Call (.Attribute o m apos) (e :: es) [] pos) (fMe c Fn fa fs Cr) := by
  obtain ⟨ta, a1, a2⟩ := ho
  obtain ⟨tr, r1, r2⟩ := ha
  exact ⟨_, fun X c => pe_me (pl := pl X.env) (a1 X c) (by rw [c.hK]; exact cl) (by rw [c.hK]; exact me) (c.fn ok) (c.room.mono hj) (by rw [c.hK]; exact hb) .nil c.pass (r1 X c) (hp _ _) (hpl _) (ht _),
    spec_me hct hks hmn a2 r2 fun fb bh pr hr q => sp_callF (by simpa [PK.still] using hks) fb bh pr hr q⟩
theorem je_me0F {c : Nat} {C : Addr} {ns : List Str} {pl : Env → Sem Bool} (hct : G.ct c = some (C, ns)) (cl : Cls G.K C) (me : Meth G.K C m ad) (ok : FnG G j ad fd ps [.bo] Fn) (hj : j ≤ k) (hmn : m ∉ ns) (hb : Binds G.K fd ps [])
    (ht : MethEval o m apos [] pos pl) (ho : JE G k W N sc .peek o fa) : JE G k W N sc .fresh (.Call (.Attribute o m apos) [] [] pos) (fMe c Fn fa Ba Cr) := by
  obtain ⟨ta, a1, a2⟩ := ho
  obtain ⟨tr, r1, r2⟩ := (ja_nil : JA G k W N sc [] [] Ba)
  refine ⟨_, fun X c => pe_me0 (pl := pl X.env) (a1 X c) (by rw [c.hK]; exact cl) (by rw [c.hK]; exact me) (c.fn ok) (c.room.mono hj) (by rw [c.hK]; exact hb) .nil c.pass (ht _),
    spec_me (ks := []) hct rfl hmn a2 (fun Z F B H σ ρ s r hr Q q => ?_) fun fb bh pr hr q => sp_callF rfl fb bh pr hr q⟩
  have e := Option.some.inj hr
  subst e
  exact q F B H [] (Up.refl s.fb s.bh) rfl
theorem zipF_at {ns : List Str} : ∀ {vs : List V} {i : Nat} {n : Str} {v : V}, ns.Nodup → ns[i]? = some n → vs[i]? = some v → (zipF ns vs).lookup n = some v := by
  induction ns with
  | nil => intro vs i n v _ h; cases h
  | cons a ns ih =>
    intro vs i n v nd h1 h2
    cases vs with
    | nil => cases h2
    | cons w vs =>
      cases i with
      | zero =>
        have e1 : a = n := Option.some.inj h1
        have e2 : w = v := Option.some.inj h2
        subst e1 e2
        show ((a, w) :: zipF ns vs).lookup a = some w
        rw [List.lookup_cons, beq_self_eq_true]
      | succ i =>
        have h1 : ns[i]? = some n := h1
        have h2 : vs[i]? = some v := h2
        show ((a, w) :: zipF ns vs).lookup n = some v
        have hne : n ≠ a := by
          rintro rfl
          exact (List.nodup_cons.mp nd).1 (List.mem_of_getElem? h1)
        rw [List.lookup_cons, beq_eq_false_iff_ne.mpr hne]
        exact ih (List.nodup_cons.mp nd).2 h1 h2
def fldD (c i : Nat) : D → Option D
  | .obj c' fs => if c' = c then fs[i]? else none
  | _ => none
theorem je_fld (gok : GOk G) {c i : Nat} {C : Addr} {ns : List Str} (hct : G.ct c = some (C, ns)) (hc : c < 100) (hi : ns[i]? = some m) (hb : ∀ env : Env, attributeBase o m env (eval o env) = eval o env) (ho : JE G k W N sc .peek o fa) : JE G k W N sc .shared (.Attribute o m pos) (Fb (fldD c i) fa) := by
  obtain ⟨ta, a1, a2⟩ := ho
  refine ⟨tFld G.K ta m, fun X c => by rw [← c.hK]; exact pe_fld (a1 X c) (hb _), fun Z F B H σ ρ s r hr Q q => ?_⟩
  rcases bnd_some hr with ⟨d, ed, hr⟩ | ⟨x, ex, rfl⟩
  · refine a2 Z F B H σ ρ s _ ed _ fun F1 B1 H1 v1 u1 k1 => ?_
    obtain ⟨d', e', rfl⟩ := up1_ok hr
    unfold fldD at e'
    split at e'
    · rename_i c' gs
      split at e'
      · rename_i hcc
        subst hcc
        obtain ⟨pa, rfl, C', ns', dx, vs, h1, h2, h3⟩ := k1
        rw [hct] at h1
        cases h1
        obtain ⟨v, e1, e2⟩ := h3.get e'
        obtain ⟨c1, c2, c3, c4⟩ := gok.cl c' C ns hct hc
        exact ⟨pa, C, dx, _, v, rfl, h2, c1, c2 m (List.mem_of_getElem? hi), zipF_at c3 hi e1, q F1 B1 H1 v u1 e2⟩
      · cases e'
    · cases e'
  · exact a2 Z F B H σ ρ s _ ex _ q
theorem zipF_put {ns : List Str} {y : V} : ∀ {vs : List V} {i : Nat} {n : Str}, ns.Nodup → ns[i]? = some n → i ≤ vs.length → putF n y (zipF ns vs) = zipF ns (if i < vs.length then vs.set i y else vs ++ [y]) := by
  induction ns with
  | nil => intro vs i n _ h; cases h
  | cons a ns ih =>
    intro vs i n nd h1 hl
    cases i with
    | zero =>
      have e1 : a = n := Option.some.inj h1
      subst e1
      cases vs with
      | nil =>
        show putF a y [] = zipF (a :: ns) [y]
        show [(a, y)] = (a, y) :: zipF ns []
        rw [zipF_nil]
      | cons w vs =>
        rw [if_pos (by rw [List.length_cons]; omega)]
        show putF a y ((a, w) :: zipF ns vs) = (a, y) :: zipF ns vs
        unfold putF
        rw [if_pos rfl]
    | succ i =>
      have h1 : ns[i]? = some n := h1
      have hne : a ≠ n := by
        rintro rfl
        exact (List.nodup_cons.mp nd).1 (List.mem_of_getElem? h1)
      cases vs with
      | nil => simp at hl
      | cons w vs =>
        have hl' : i ≤ vs.length := by simpa using hl
        have := ih (List.nodup_cons.mp nd).2 h1 hl'
        show putF n y ((a, w) :: zipF ns vs) = _
        have e0 : putF n y ((a, w) :: zipF ns vs) = (a, w) :: putF n y (zipF ns vs) := by
          conv => lhs; unfold putF
          rw [if_neg hne]
        rw [e0, this]
        by_cases hi : i < vs.length
        · rw [if_pos hi, if_pos (by rw [List.length_cons]; omega)]
          rfl
        · rw [if_neg hi, if_neg (by rw [List.length_cons]; omega)]
          rfl
theorem zipF_len : ∀ {ns : List Str} {vs : List V}, (zipF ns vs).length ≤ ns.length
  | [], _ => by unfold zipF; exact Nat.le_refl _
  | n :: ns, [] => Nat.zero_le _
  | n :: ns, v :: vs => by
    show (zipF ns vs).length + 1 ≤ ns.length + 1
    exact Nat.succ_le_succ zipF_len
def setFld (c i : Nat) (y : D) : D → Option D
  | .obj c' fs => if c' = c ∧ i ≤ fs.length then some (.obj c (if i < fs.length then fs.set i y else fs ++ [y])) else none
  | _ => none
def Ah (s : Nat) (u : D → Option D) (ρ : En) : Option En := match ρ[s]? with
  | some (.ow d) => (u d).map fun d' => ρ.set s (.ow d')
  | some (.mu d) => (u d).map fun d' => ρ.set s (.mu d')
  | _ => none
theorem SR.own_upd (s : SR G Z F B H σ ρ) {i : Nat} {p : Addr} {d d' : D} {o' : HO} (h : (ρ[i]? = some (.ow d) ∧ (σ[i]?).join = some (.ref p) ∧ Z.H p = none) ∨ (ρ[i]? = some (.mu d) ∧ (σ[i]?).join = some (.ref p) ∧ Z.M i = some p)) (hb : B p = none)
    (hd : OwnO G F (upd H p o') p d') (q : Sl) (hq : (ρ[i]? = some (.ow d) ∧ q = .ow d') ∨ (ρ[i]? = some (.mu d) ∧ q = .mu d')) : SR G Z F B (upd H p o') σ (ρ.set i q) := by
  have hi : i < ρ.length := by
    rcases hq with ⟨e, _⟩ | ⟨e, _⟩ <;> exact (List.getElem?_eq_some_iff.mp e).1
  have hsl : σ[i]? = some (some (.ref p)) := by
    rcases h with ⟨_, e, _⟩ | ⟨_, e, _⟩ <;> (cases z : σ[i]? with
      | none => rw [z] at e; cases e
      | some o => rw [z] at e; exact congrArg some e)
  have hf : F p = none := by
    cases z : F p with
    | none => rfl
    | some u => rw [s.fb p u z] at hb; cases hb
  have other : ∀ j p', j ≠ i → ((∃ d'', ρ[j]? = some (.ow d'')) ∨ (∃ d'', ρ[j]? = some (.mu d'') ∧ Z.M j = some p')) → σ[j]? = some (some (.ref p')) → p' ≠ p := by
    rintro j p' hj hjk hp rfl
    rcases h with ⟨e1, e2, e3⟩ | ⟨e1, e2, e3⟩
    · rcases hjk with ⟨d'', e⟩ | ⟨d'', e, em⟩
      · exact hj (s.nd j i _ ⟨⟨d'', e⟩, hp⟩ ⟨⟨d, e1⟩, hsl⟩)
      · exact (s.mm j _ em).1 e3
    · rcases hjk with ⟨d'', e⟩ | ⟨d'', e, em⟩
      · obtain ⟨p2, a1, a2, _⟩ := s.sl j _ e
        rw [hp] at a1
        have e4 : p' = p2 := by
          injection a1 with a1
          injection a1
        subst e4
        exact (s.mm i _ e3).1 a2
      · exact hj (s.md j i _ em e3)
  refine ⟨s.fb, fun a o e => ?_, s.zf, s.zb, s.zo, fun a o e hm => ?_, fun a ha => ?_, s.mm, s.md, by rw [List.length_set]; exact s.len, fun j t ht => ?_, fun j l p' hj hl => ?_, s.lt, s.la⟩
  · rw [upd_ne (ne_of_none e hb)]
    exact s.bh a o e
  · have : a ≠ p := by
      rintro rfl
      rcases h with ⟨_, _, e3⟩ | ⟨_, _, e3⟩
      · rw [e] at e3; cases e3
      · exact hm i e3
    rw [upd_ne this]
    exact s.zh a o e hm
  · by_cases hap : a = p
    · subst hap; rw [upd_same]; intro z; cases z
    · rw [upd_ne hap]; exact s.zk a ha
  · by_cases hj : j = i
    · subst hj
      rw [List.getElem?_set_self hi] at ht
      cases ht
      rcases hq with ⟨e, rfl⟩ | ⟨e, rfl⟩
      · rcases h with ⟨e1, e2, e3⟩ | ⟨e1, e2, e3⟩
        · exact ⟨p, e2, e3, hb, hd⟩
        · rw [e] at e1; cases e1
      · rcases h with ⟨e1, e2, e3⟩ | ⟨e1, e2, e3⟩
        · rw [e] at e1; cases e1
        · exact ⟨p, e2, e3, hb, hd⟩
    · rw [List.getElem?_set_ne (Ne.symm hj)] at ht
      have hs := s.sl j t ht
      cases t with
      | un => trivial
      | sh d2 => exact hs
      | bo d2 => exact hs
      | ow d2 =>
        obtain ⟨p', e1, e2, e3, e4⟩ := hs
        have hpp := other j p' hj (.inl ⟨d2, ht⟩) (s.at ht e1)
        exact ⟨p', e1, e2, e3, e4.mono (Same.refl _) fun o e => by rw [upd_ne hpp]; exact e⟩
      | mu d2 =>
        obtain ⟨p', e1, e2, e3, e4⟩ := hs
        have hpp := other j p' hj (.inr ⟨d2, ht, e2⟩) (s.at ht e1)
        exact ⟨p', e1, e2, e3, e4.mono (Same.refl _) fun o e => by rw [upd_ne hpp]; exact e⟩
      | ln d2 => exact hs
  · have back : ∀ l p', OwnAt σ (ρ.set i q) l p' → OwnAt σ ρ l p' := fun l p' hl => by
      obtain ⟨⟨d2, h1⟩, h2⟩ := hl
      by_cases hli : l = i
      · subst hli
        rw [List.getElem?_set_self hi] at h1
        rcases hq with ⟨e, rfl⟩ | ⟨e, rfl⟩
        · exact ⟨⟨d, e⟩, h2⟩
        · cases h1
      · rw [List.getElem?_set_ne (Ne.symm hli)] at h1
        exact ⟨⟨d2, h1⟩, h2⟩
    exact s.nd j l p' (back j p' hj) (back l p' hl)
theorem SR.own_at (s : SR G Z F B H σ ρ) {i : Nat} {d : D} (h : ρ[i]? = some (.ow d) ∨ ρ[i]? = some (.mu d)) : ∃ p, σ[i]? = some (some (.ref p)) ∧ B p = none ∧ OwnO G F H p d ∧
    ((ρ[i]? = some (.ow d) ∧ (σ[i]?).join = some (.ref p) ∧ Z.H p = none) ∨ (ρ[i]? = some (.mu d) ∧ (σ[i]?).join = some (.ref p) ∧ Z.M i = some p)) := by
  rcases h with h | h
  · obtain ⟨p, a1, a2, a3, a4⟩ := s.sl i _ h
    exact ⟨p, s.at h a1, a3, a4, .inl ⟨h, a1, a2⟩⟩
  · obtain ⟨p, a1, a2, a4, a3⟩ := s.sl i _ h
    exact ⟨p, s.at h a1, a4, a3, .inr ⟨h, a1, a2⟩⟩
theorem onSlot_some {i : Nat} {u : D → Option D} {ρ ρ' : En} (h : Ah i u ρ = some ρ') : ∃ d d', u d = some d' ∧ ((ρ[i]? = some (.ow d) ∧ ρ' = ρ.set i (.ow d')) ∨ (ρ[i]? = some (.mu d) ∧ ρ' = ρ.set i (.mu d'))) := by
  unfold Ah at h
  split at h
  · rename_i d e
    cases q : u d with
    | none => rw [q] at h; cases h
    | some d' =>
      rw [q] at h
      exact ⟨d, d', q, .inl ⟨e, (Option.some.inj h).symm⟩⟩
  · rename_i d e
    cases q : u d with
    | none => rw [q] at h; cases h
    | some d' =>
      rw [q] at h
      exact ⟨d, d', q, .inr ⟨e, (Option.some.inj h).symm⟩⟩
  · cases h
def Fg (i : Nat) (f : En → M D) (u : D → D → Option D) : SO := Cw f fun y ρ => (Ah i (u y) ρ).map .nx
theorem js_fld (gok : GOk G) {c i sl : Nat} {C : Addr} {ns : List Str} {y : Str} {p1 p2 : Pos} (hct : G.ct c = some (C, ns)) (hc : c < 100) (hi : ns[i]? = some m) (hy : N[sl]? = some y) (hv : visB sc y = true) (hd : (y == ("__debug__" : Str)) = false) (hcd : (y == ("__classdict__" : Str)) = false)
    (hs : ∀ X : Cx, X.env.scope = sc → swapsWith e (some (.Attribute (.Name y p1) m p2)) pos.line X.env = pure false) (ha : JE G k W N sc .shared e f) : JS G k W N sc (.Assign [.Attribute (.Name y p1) m p2] e pos) (Fg sl f (setFld c i)) := by
  obtain ⟨ta, a1, a2⟩ := ha
  refine ⟨sFld G.K (tVar sl) ta m, fun X c => by rw [← c.ce.hK]; exact ps_fld (pe_var (by rw [c.ce.hN]; exact hy) (by rw [c.ce.hsc]; exact vis_of hv) hd hcd) (a1 X c.ce) (hs X c.ce.hsc), fun Z F B H σ ρ s o ho E q => ?_⟩
  rcases gBnd_some ho with ⟨d, ed, ho⟩ | ⟨x, ex, rfl⟩
  · refine a2 Z F B H σ ρ s _ ed _ fun F1 B1 H1 v1 u1 k1 => ?_
    cases e1 : Ah sl (setFld c i d) ρ with
    | none => rw [e1] at ho; cases ho
    | some ρ' =>
      rw [e1] at ho
      have e2 := Option.some.inj (show some (Out.nx ρ') = some o from ho)
      subst e2
      obtain ⟨d0, d1, eu, hq⟩ := onSlot_some e1
      have s1 := s.up u1
      obtain ⟨pa, b1, b2, b3, b4⟩ := s1.own_at (i := sl) (d := d0) (by rcases hq with ⟨h, _⟩ | ⟨h, _⟩; exact .inl h; exact .inr h)
      unfold setFld at eu
      split at eu
      · rename_i c' gs
        split at eu
        · rename_i hcc
          obtain ⟨rfl, hle⟩ := hcc
          have e3 := Option.some.inj eu
          subst e3
          obtain ⟨C', ns', dx, vs, h1, h2, h3⟩ := b3
          rw [hct] at h1
          cases h1
          obtain ⟨c1, c2, c3, c4⟩ := gok.cl c' C ns hct hc
          have hlv := h3.length
          refine ⟨_, b1, pa, C, dx, _, rfl, h2, c1, c2 m (List.mem_of_getElem? hi), Nat.lt_of_le_of_lt zipF_len c4, ?_⟩
          rw [zipF_put c3 hi (by rw [hlv]; exact hle)]
          have ho' : OwnO G F1 (upd H1 pa (.ins C dx (zipF ns (if i < vs.length then vs.set i v1 else vs ++ [v1])))) pa (.obj c' (if i < gs.length then gs.set i d else gs ++ [d])) := by
            refine ⟨C, ns, dx, _, hct, upd_same, ?_⟩
            rw [hlv]
            split
            · exact h3.set i k1
            · exact h3.app (RepL.one k1)
          rcases hq with ⟨g1, rfl⟩ | ⟨g1, rfl⟩
          · exact q F1 B1 _ σ (s1.own_upd b4 b2 ho' _ (.inl ⟨g1, rfl⟩)) u1.gro
          · exact q F1 B1 _ σ (s1.own_upd b4 b2 ho' _ (.inr ⟨g1, rfl⟩)) u1.gro
        · cases eu
      · cases eu
  · exact a2 Z F B H σ ρ s _ ex _ (PostS.er s q)
end
end DL
namespace DL
open PySem PySem.Spec L2
def Ec : List PK → List D → En
  | .sh :: ks, d :: ds => .sh d :: Ec ks ds
  | .bo :: ks, d :: ds => .bo d :: Ec ks ds
  | .mu :: ks, d :: ds => .mu d :: Ec ks ds
  | _, _ => []
def Eb : List PK → En → Option (List D)
  | .mu :: ks, .mu d :: ρ => (Eb ks ρ).map (d :: ·)
  | .mu :: _, _ => none
  | _ :: ks, _ :: ρ => Eb ks ρ
  | [], _ => some []
  | _, _ => none
def Kd.fr : Kd → Bool
  | .fresh => true
  | _ => false
def Cq (ks : List PK) : Option Out → Option FOut
  | some (.nx ρ) => (Eb ks ρ).map (.ret true .non)
  | some (.rt kd d ρ) => (Eb ks ρ).map (.ret kd.fr d)
  | some (.er x ρ) => (Eb ks ρ).map (.exc x)
  | _ => none
def Ci (ks : List PK) (n : Nat) (g : SO) (ds : List D) : Option FOut :=
  if ds.length = ks.length then Cq ks (g (Ec ks ds ++ List.replicate (n - ks.length) .un)) else none
def mAt : List PK → List V → Nat → Option Addr
  | k :: _, v :: _, 0 => k.ad v
  | _ :: ks, _ :: vs, i + 1 => mAt ks vs i
  | _, _, _ => none
section
variable {G : Gm} {k : Nat} {W : WX} {N : List Str} {sc : Scope} {g : SO} {F B H : Hp}
theorem mAt_mem : ∀ {ks : List PK} {vs : List V} {i : Nat} {p : Addr}, mAt ks vs i = some p → p ∈ muA ks vs
  | [], vs, i, p, h => by cases i <;> cases vs <;> cases h
  | k :: ks, [], i, p, h => by cases i <;> cases h
  | k :: ks, v :: vs, 0, p, h => List.mem_append_left _ (by rw [show k.ad v = some p from h]; exact List.mem_singleton.mpr rfl)
  | k :: ks, v :: vs, i + 1, p, h => List.mem_append_right _ (mAt_mem (ks := ks) (vs := vs) (i := i) h)
theorem mAt_inj : ∀ {ks : List PK} {vs : List V} {i j : Nat} {p : Addr}, (muA ks vs).Nodup → mAt ks vs i = some p → mAt ks vs j = some p → i = j
  | [], vs, i, j, p, _, h, _ => by cases i <;> cases vs <;> cases h
  | k :: ks, [], i, j, p, _, h, _ => by cases i <;> cases h
  | k :: ks, v :: vs, 0, 0, p, _, _, _ => rfl
  | k :: ks, v :: vs, 0, j + 1, p, nd, h, h' => by
    have nd : ((k.ad v).toList ++ muA ks vs).Nodup := nd
    rw [show k.ad v = some p from h] at nd
    exact absurd (mAt_mem (ks := ks) (vs := vs) (i := j) h') (List.nodup_cons.mp nd).1
  | k :: ks, v :: vs, i + 1, 0, p, nd, h, h' => by
    have nd : ((k.ad v).toList ++ muA ks vs).Nodup := nd
    rw [show k.ad v = some p from h'] at nd
    exact absurd (mAt_mem (ks := ks) (vs := vs) (i := i) h) (List.nodup_cons.mp nd).1
  | k :: ks, v :: vs, i + 1, j + 1, p, nd, h, h' => congrArg Nat.succ (mAt_inj (ks := ks) (vs := vs) (List.nodup_append.mp nd).2.1 h h')
theorem mAt_there : ∀ {ks : List PK} {ds : List D} {vs : List V} {i : Nat} {p : Addr}, ParR G F B H ks ds vs → mAt ks vs i = some p → (∃ o, H p = some o) ∧ B p = none
  | [], ds, vs, i, p, _, h => by cases i <;> cases vs <;> cases h
  | .sh :: ks, [], vs, i, p, h, _ => h.elim
  | .bo :: ks, [], vs, i, p, h, _ => h.elim
  | .mu :: ks, [], vs, i, p, h, _ => h.elim
  | .sh :: ks, d :: ds, vs, i, p, h, e => by
    obtain ⟨v, vs', rfl, h1, h2⟩ := h
    cases i with
    | zero => cases e
    | succ i => exact mAt_there h2 e
  | .bo :: ks, d :: ds, vs, i, p, h, e => by
    obtain ⟨v, vs', rfl, h1, h2⟩ := h
    cases i with
    | zero => cases e
    | succ i => exact mAt_there h2 e
  | .mu :: ks, d :: ds, vs, i, p, h, e => by
    obtain ⟨q, vs', rfl, h0, h1, h2⟩ := h
    cases i with
    | zero =>
      have e := Option.some.inj (show some q = some p from e)
      subst e
      exact ⟨h1.there, h0⟩
    | succ i => exact mAt_there h2 e
theorem rho0_len : ∀ {ks : List PK} {ds : List D}, ds.length = ks.length → (Ec ks ds).length = ks.length
  | [], ds, _ => by unfold Ec; rfl
  | .sh :: ks, [], h => by cases h
  | .bo :: ks, [], h => by cases h
  | .mu :: ks, [], h => by cases h
  | .sh :: ks, d :: ds, h => congrArg Nat.succ (rho0_len (by simpa using h))
  | .bo :: ks, d :: ds, h => congrArg Nat.succ (rho0_len (by simpa using h))
  | .mu :: ks, d :: ds, h => congrArg Nat.succ (rho0_len (by simpa using h))
theorem rho0_sl {Z : Zn} (hF : Z.F = F) (hB : Z.B = B) : ∀ {ks : List PK} {ds : List D} {vs : List V} (n : Nat), ParR G F B H ks ds vs → (∀ i p, mAt ks vs i = some p → Z.M (n + i) = some p) → ∀ (i : Nat) (s : Sl), (Ec ks ds)[i]? = some s → SlR G Z F B H (n + i) ((vs.map some)[i]?).join s
  | [], ds, vs, n, _, _, i, s, e => by
    unfold Ec at e
    cases e
  | .sh :: ks, [], vs, n, h, _, i, s, e => h.elim
  | .bo :: ks, [], vs, n, h, _, i, s, e => h.elim
  | .mu :: ks, [], vs, n, h, _, i, s, e => h.elim
  | .sh :: ks, d :: ds, vs, n, h, hm, i, s, e => by
    obtain ⟨v, vs', rfl, h1, h2⟩ := h
    cases i with
    | zero =>
      have e := Option.some.inj (show some (Sl.sh d) = some s from e)
      subst e
      exact ⟨v, rfl, h1⟩
    | succ i =>
      have := rho0_sl hF hB (n + 1) h2 (fun i p h => by rw [show n + 1 + i = n + (i + 1) by omega]; exact hm (i + 1) p h) i s e
      rw [show n + (i + 1) = n + 1 + i by omega]
      exact this
  | .bo :: ks, d :: ds, vs, n, h, hm, i, s, e => by
    obtain ⟨v, vs', rfl, h1, h2⟩ := h
    cases i with
    | zero =>
      have e := Option.some.inj (show some (Sl.bo d) = some s from e)
      subst e
      exact ⟨v, rfl, by rw [hB]; exact h1⟩
    | succ i =>
      have := rho0_sl hF hB (n + 1) h2 (fun i p h => by rw [show n + 1 + i = n + (i + 1) by omega]; exact hm (i + 1) p h) i s e
      rw [show n + (i + 1) = n + 1 + i by omega]
      exact this
  | .mu :: ks, d :: ds, vs, n, h, hm, i, s, e => by
    obtain ⟨p, vs', rfl, h0, h1, h2⟩ := h
    cases i with
    | zero =>
      have e := Option.some.inj (show some (Sl.mu d) = some s from e)
      subst e
      exact ⟨p, rfl, hm 0 p rfl, h0, h1⟩
    | succ i =>
      have := rho0_sl hF hB (n + 1) h2 (fun i p h => by rw [show n + 1 + i = n + (i + 1) by omega]; exact hm (i + 1) p h) i s e
      rw [show n + (i + 1) = n + 1 + i by omega]
      exact this
theorem rho0_ow : ∀ {ks : List PK} {ds : List D} {i : Nat} {d : D}, (Ec ks ds)[i]? ≠ some (.ow d)
  | [], ds, i, d, e => by
    unfold Ec at e
    cases e
  | .sh :: ks, [], i, d, e => by cases e
  | .bo :: ks, [], i, d, e => by cases e
  | .mu :: ks, [], i, d, e => by cases e
  | .sh :: ks, d' :: ds, 0, d, e => by cases e
  | .bo :: ks, d' :: ds, 0, d, e => by cases e
  | .mu :: ks, d' :: ds, 0, d, e => by cases e
  | .sh :: ks, d' :: ds, i + 1, d, e => rho0_ow (ks := ks) (ds := ds) (i := i) (d := d) e
  | .bo :: ks, d' :: ds, i + 1, d, e => rho0_ow (ks := ks) (ds := ds) (i := i) (d := d) e
  | .mu :: ks, d' :: ds, i + 1, d, e => rho0_ow (ks := ks) (ds := ds) (i := i) (d := d) e
theorem mus_end {F' H' : Hp} : ∀ {ks : List PK} {vs : List V} {ρ : En} {ms : List D}, vs.length = ks.length → Eb ks ρ = some ms → (∀ i d, ρ[i]? = some (.mu d) → ∃ p, mAt ks vs i = some p ∧ OwnO G F' H' p d) → MusR G F' H' (muA ks vs) ms
  | [], vs, ρ, ms, hl, h, _ => by
    have e : ms = [] := by
      unfold Eb at h
      exact (Option.some.inj h).symm
    subst e
    cases vs with
    | nil => trivial
    | cons v vs => cases hl
  | k :: ks, [], ρ, ms, hl, h, _ => by cases hl
  | .sh :: ks, v :: vs, [], ms, hl, h, _ => by cases h
  | .bo :: ks, v :: vs, [], ms, hl, h, _ => by cases h
  | .mu :: ks, v :: vs, [], ms, hl, h, _ => by cases h
  | .sh :: ks, v :: vs, r :: ρ, ms, hl, h, q => mus_end (ks := ks) (vs := vs) (ρ := ρ) (by simpa using hl) h fun i d e => q (i + 1) d e
  | .bo :: ks, v :: vs, r :: ρ, ms, hl, h, q => mus_end (ks := ks) (vs := vs) (ρ := ρ) (by simpa using hl) h fun i d e => q (i + 1) d e
  | .mu :: ks, v :: vs, r :: ρ, ms, hl, h, q => by
    cases r <;> first
      | cases h
      | (rename_i d
         have h : (Eb ks ρ).map (d :: ·) = some ms := h
         cases e : Eb ks ρ with
         | none => rw [e] at h; cases h
         | some ms' =>
           rw [e] at h
           have e2 := Option.some.inj h
           subst e2
           have ih := mus_end (ks := ks) (vs := vs) (ρ := ρ) (by simpa using hl) e fun i d e => q (i + 1) d e
           obtain ⟨p, e3, e4⟩ := q 0 d rfl
           cases v <;> first
             | (have e5 := Option.some.inj e3
                subst e5
                exact ⟨e4, ih⟩)
             | cases e3)
theorem body_ok {ks : List PK} {ts : TS} {E : XK} (hb : SpecS G (fun cls d _ H => E cls d H) ts g) {vs : List V} {Q : VK} (hN : ks.length ≤ N.length) (h : spD G ks (Ci ks N.length g) vs H Q E) :
    ts { nx := fun _ H' => Q .non H', rt := Q } (L2.start N vs) H := by
  obtain ⟨F, ds, fb, nd, pr, o, ho, q⟩ := h
  unfold Ci at ho
  split at ho
  · rename_i hl
    have hlv := pr.length
    have hr0 := rho0_len (ks := ks) (ds := ds) hl
    obtain ⟨Z, hZ⟩ : ∃ Z : Zn, (⟨F, hid H (muA ks vs), H, fun i => mAt ks vs i, fun _ => none, []⟩ : Zn) = Z := ⟨_, rfl⟩
    have zF : Z.F = F := by rw [← hZ]
    have zB : Z.B = hid H (muA ks vs) := by rw [← hZ]
    have zH : Z.H = H := by rw [← hZ]
    have zM : Z.M = fun i => mAt ks vs i := by rw [← hZ]
    have zL : Z.L = fun _ => none := by rw [← hZ]
    have zLA : Z.LA = [] := by rw [← hZ]
    have s0 : SR G Z F (hid H (muA ks vs)) H (L2.start N vs) (Ec ks ds ++ List.replicate (N.length - ks.length) .un) := by
      refine ⟨fb, fun a o e => ?_, by rw [zF]; exact Same.refl _, by rw [zB]; exact Same.refl _, fun a _ => by rw [zF, zB]; exact ⟨rfl, fun _ => rfl⟩, fun a o e _ => by rw [← zH]; exact e, fun a ha => by rw [← zH]; exact ha, fun i p hm => ?_, fun i j p h1 h2 => ?_, ?_, fun i s e => ?_, fun i j p hi hj => ?_, fun q hq => (by rw [zLA] at hq; cases hq), fun i q hq => (by rw [zL] at hq; cases hq)⟩
      · unfold hid at e
        split at e
        · cases e
        · exact e
      · rw [zM] at hm
        obtain ⟨⟨o, ho⟩, hb⟩ := mAt_there pr hm
        rw [zH, zB]
        exact ⟨(by rw [ho]; intro z; cases z), hb⟩
      · rw [zM] at h1 h2
        exact mAt_inj nd h1 h2
      · unfold L2.start
        rw [List.length_append, List.length_append, List.length_map, List.length_replicate, List.length_replicate, hr0, hlv]
      · unfold L2.start
        by_cases hi : i < ks.length
        · rw [List.getElem?_append_left (by rw [hr0]; exact hi)] at e
          rw [List.getElem?_append_left (by rw [List.length_map, hlv]; exact hi)]
          have := rho0_sl (G := G) (Z := Z) zF zB 0 pr (fun i p h => by rw [zM, Nat.zero_add]; exact h) i s e
          rw [Nat.zero_add] at this
          exact this
        · rw [List.getElem?_append_right (by rw [hr0]; omega)] at e
          have e2 := List.getElem?_replicate (n := N.length - ks.length) (a := Sl.un) (i := i - (Ec ks ds).length)
          rw [e2] at e
          split at e
          · have e3 := Option.some.inj e
            subst e3
            trivial
          · cases e
      · obtain ⟨⟨d, h1⟩, _⟩ := hi
        by_cases hi : i < ks.length
        · rw [List.getElem?_append_left (by rw [hr0]; exact hi)] at h1
          exact absurd h1 rho0_ow
        · rw [List.getElem?_append_right (by rw [hr0]; omega)] at h1
          have e2 := List.getElem?_replicate (n := N.length - ks.length) (a := Sl.un) (i := i - (Ec ks ds).length)
          rw [e2] at h1
          split at h1 <;> cases h1
    have aft : ∀ {F' B' H' σ' ρ'}, SR G Z F' B' H' σ' ρ' → Aft F H (muA ks vs) F' H' := fun {F' B' H' σ' ρ'} s => by
      refine ⟨by rw [← zF]; exact s.zf, s.fb.trans s.bh, fun a o e hm => s.zh a o (by rw [zH]; exact e) fun i hi => ?_, fun a ha => s.zk a (by rw [zH]; exact ha), fun a ha => by rw [← zF]; exact (s.zo a (by rw [zH]; exact ha)).1⟩
      rw [zM] at hi
      exact hm (mAt_mem hi)
    have mus : ∀ {F' B' H' σ' ρ' ms}, SR G Z F' B' H' σ' ρ' → Eb ks ρ' = some ms → MusR G F' H' (muA ks vs) ms := fun {F' B' H' σ' ρ' ms} s e => mus_end hlv e fun i d ed => by
      obtain ⟨p, _, e2, _, e3⟩ := s.sl i _ ed
      rw [zM] at e2
      exact ⟨p, e2, e3⟩
    unfold Cq at ho
    split at ho
    · rename_i ρ' e
      cases em : Eb ks ρ' with
      | none => rw [em] at ho; cases ho
      | some ms =>
        rw [em] at ho
        have e2 := Option.some.inj ho
        subst e2
        refine hb Z F _ H _ _ s0 _ e _ fun F' B' H' σ' s' _ => q F' H' .non (aft s') ?_ (mus s' em)
        unfold RetV
        rw [if_neg (fun z => nomatch z.2)]
        rfl
    · rename_i kd d ρ' e
      cases em : Eb ks ρ' with
      | none => rw [em] at ho; cases ho
      | some ms =>
        rw [em] at ho
        have e2 := Option.some.inj ho
        subst e2
        refine hb Z F _ H _ _ s0 _ e _ fun F' B' H' σ' v s' _ rv => q F' H' v (aft s') ?_ (mus s' em)
        unfold RetV
        have noB : ∀ {p : Addr}, B' p = none → F' p = none := fun {p} hb => by
          cases z : F' p with
          | none => rfl
          | some u => rw [s'.fb p u z] at hb; cases hb
        cases kd with
        | fresh =>
          have rv : (if d.isMut = true then ∃ p, v = .ref p ∧ Z.H p = none ∧ B' p = none ∧ OwnO G F' H' p d else Rep G F' d v) := rv
          by_cases hm : d.isMut = true
          · rw [if_pos hm] at rv
            rw [if_pos ⟨rfl, hm⟩]
            obtain ⟨p, e1, e2, e3, e4⟩ := rv
            exact ⟨p, e1, by rw [← zH]; exact e2, noB e3, e4⟩
          · rw [if_neg hm] at rv
            rw [if_neg (fun z => hm z.2)]
            exact rv
        | shared =>
          rw [if_neg (fun z => nomatch z.1)]
          exact rv
        | peek =>
          rw [if_neg (fun z => nomatch z.1)]
          exact rv
        | borrow =>
          rw [if_neg (fun z => nomatch z.1)]
          exact rv
    · rename_i x ρ' e
      cases em : Eb ks ρ' with
      | none => rw [em] at ho; cases ho
      | some ms =>
        rw [em] at ho
        have e2 := Option.some.inj ho
        subst e2
        exact hb Z F _ H _ _ s0 _ e _ fun F' B' H' σ' cls dx s' _ xr => q F' H' cls dx (aft s') xr (mus s' em)
    · cases ho
  · cases ho
end
end DL
namespace DL
open PySem PySem.Spec L2
section
variable {G : Gm} {k : Nat} {W : WX} {N : List Str} {sc : Scope} {e a b c o : Expr} {es : List Expr} {f fa fb fc : En → M D} {fs : En → M (List D)} {ga gb : En → M Bool} {pos apos cpos : Pos} {kd : Kd} {F B H : Hp} {Z : Zn} {σ : L2.St} {ρ : En}
def LMut (G : Gm) (r : V → List V → Hp → VK → Prop) (u : List D → List D → Option (List D)) : Prop :=
  ∀ F H p xs l ys zs l', H p = some (.lst xs) → RepL G F l xs → RepL G F zs ys → u zs l = some l' → ∃ xs', RepL G F l' xs' ∧ ∀ Q : VK, Q .non (upd H p (.lst xs')) → r (.ref p) ys H Q
def Fh (u : List D → List D → Option (List D)) (zs : List D) : D → Option D
  | .lst l => (u zs l).map .lst
  | _ => none
def Bi : Option Sl → Bool
  | some (.ow (.lst _)) => true
  | some (.mu (.lst _)) => true
  | _ => false
theorem isOwL_some {o : Option Sl} (h : Bi o = true) : ∃ l, o = some (.ow (.lst l)) ∨ o = some (.mu (.lst l)) := by
  unfold Bi at h
  split at h
  · rename_i l
    exact ⟨l, .inl rfl⟩
  · rename_i l
    exact ⟨l, .inr rfl⟩
  · cases h
def Ee (i : Nat) (fs : En → M (List D)) (u : List D → List D → Option (List D)) : SO := fun ρ => if Bi ρ[i]? = true then Cw fs (fun zs ρ => (Ah i (Fh u zs) ρ).map .nx) ρ else none
theorem PostS.erA {ks : List Arg} {E : Ends} {x : Xc} (s : SR G Z F B H σ ρ) (q : PostS G W Z F B E (.er x ρ)) {R : List V → Hp → Prop} : PostA G W ks F B H σ R (.error x) := fun F' B' H' cls dx u hx => q F' B' H' σ cls dx (s.up u) u.gro hx
def MFew (o : Expr) (name : Str) (apos cpos : Pos) (args : List Expr) : Prop :=
  ∀ env : Env, attributeBase o name env (eval o env) = eval o env ∧ ((backTo cpos (starEach args env)).all (fun x => !x.1) && (backToKw cpos (keywordEach [] env)).all (fun x => x.1.isSome)
      && decide (args.length + ([] : List Keyword).length + (if ([] : List Keyword).isEmpty then 0 else 1) < 30)) = true ∧ (apos.endLine == cpos.line) = true
theorem js_mut {i n : Nat} {y name : Str} {id : String} {p1 : Pos} {r : V → List V → Hp → VK → Prop} {u : List D → List D → Option (List D)} (slot : Slot "list" name id) (hty : typeOf (.builtin id) = pure (.type "method_descriptor")) (hm : ∀ X : Cx, MtR X id r) (hu : LMut G r u)
    (hy : N[i]? = some y) (hv : visB sc y = true) (hd : (y == ("__debug__" : Str)) = false) (hcd : (y == ("__classdict__" : Str)) = false) (hs : ∀ X : Cx, swapsWith (.Call (.Attribute (.Name y p1) name apos) (e :: es) [] cpos) none pos.line X.env = pure false)
    (hp : PlainArg e) (hpl : NoStar cpos es) (hw : MFew (.Name y p1) name apos cpos (e :: es)) (ha : JA G k W N sc (shs n) (e :: es) fs) : JS G k W N sc (.Expr (.Call (.Attribute (.Name y p1) name apos) (e :: es) [] cpos) pos) (Ee i fs u) := by
  obtain ⟨ta, a1, a2⟩ := ha
  refine ⟨tDrop (tBM G.K "list" r (tVar i) ta), fun X c => ps_expr (by
    rw [← c.ce.hK]
    exact pe_bm PySem.F.plainAttrs_list slot hty (hm X) (pe_var (by rw [c.ce.hN]; exact hy) (by rw [c.ce.hsc]; exact vis_of hv) hd hcd) (a1 X c.ce) (hw X.env).1 (hw X.env).2.1 (hw X.env).2.2 (hp _ _) (hpl _)) (hs X), fun Z F B H σ ρ s o ho E q => ?_⟩
  unfold Ee at ho
  split at ho
  · rename_i hown
    obtain ⟨l, hor⟩ := isOwL_some hown
    obtain ⟨pa, b1, b2, b3, b4⟩ := s.own_at hor
    obtain ⟨xs, h1, h2⟩ := b3
    refine ⟨.ref pa, b1, .inl ⟨rfl, xs, SqL.of h1⟩, ?_⟩
    rcases gBnd_some ho with ⟨zs, ed, ho⟩ | ⟨x, ex, rfl⟩
    · cases e1 : Ah i (Fh u zs) ρ with
      | none => rw [e1] at ho; cases ho
      | some ρ' =>
        rw [e1] at ho
        have e2 := Option.some.inj (show some (Out.nx ρ') = some o from ho)
        subst e2
        obtain ⟨d0, d1, eu, hq⟩ := onSlot_some e1
        have ed0 : d0 = .lst l := by
          rcases hq with ⟨h, _⟩ | ⟨h, _⟩ <;> rcases hor with h' | h' <;> rw [h] at h' <;> injection h' with h' <;> injection h'
        subst ed0
        have eu : (u zs l).map D.lst = some d1 := eu
        cases e3 : u zs l with
        | none => rw [e3] at eu; cases eu
        | some l' =>
          rw [e3] at eu
          have e4 := Option.some.inj eu
          subst e4
          refine a2 Z F B H σ ρ s _ ed _ fun F1 B1 H1 vs u1 k1 => ?_
          have h1' := u1.h _ _ h1
          obtain ⟨xs', g1, g2⟩ := hu F1 H1 pa xs l vs zs l' h1' (h2.mono u1.f) k1.shs e3
          have s1 := s.up u1
          obtain ⟨pa2, c1, c2, c3, c4⟩ := s1.own_at hor
          have ep : pa2 = pa := by
            rw [b1] at c1
            injection c1 with c1
            injection c1 with c1
            injection c1 with c1
            exact c1.symm
          subst ep
          have ho' : OwnO G F1 (upd H1 pa2 (.lst xs')) pa2 (.lst l') := ⟨xs', upd_same, g1⟩
          refine g2 _ ?_
          rcases hq with ⟨h, rfl⟩ | ⟨h, rfl⟩
          · exact q F1 B1 _ σ (s1.own_upd c4 c2 ho' _ (.inl ⟨h, rfl⟩)) u1.gro
          · exact q F1 B1 _ σ (s1.own_upd c4 c2 ho' _ (.inr ⟨h, rfl⟩)) u1.gro
    · exact a2 Z F B H σ ρ s _ ex _ (PostS.erA s q)
  · cases ho
def Ef : List D → List D → Option (List D)
  | [y], l => if l.length < LIM then some (l ++ [y]) else none
  | _, _ => none
theorem lm_app : LMut G rAppend Ef := by
  intro F H p xs l ys zs l' hp hl hz hu
  unfold Ef at hu
  split at hu
  · rename_i y
    split at hu
    · rename_i hlim
      have e := Option.some.inj hu
      subst e
      obtain ⟨v, vs', rfl, r1, r2⟩ := hz
      rw [show vs' = [] from r2]
      exact ⟨xs ++ [v], hl.app (RepL.one r1), fun Q q => ⟨p, xs, v, rfl, rfl, hp, by rw [hl.length]; exact lim_lt (Nat.le_of_lt hlim), q⟩⟩
    · cases hu
  · cases hu
theorem mt_app (X : Cx) : MtR X "list.append" rAppend := fun pins s σ H x xs v us Q I rx rxs h => mt_append pins s σ H x xs v us Q I rx rxs h
def rIns : V → List V → Hp → VK → Prop := fun x vs H Q => ∃ (l : Addr) (xs : List V) (i : Int) (y : V), x = .ref l ∧ vs = [.int i, y] ∧ H l = some (.lst xs) ∧ xs.length < sizeLine ∧ 0 ≤ i ∧ i < 2 ^ 63 ∧
    Q .non (upd H l (.lst (xs.take i.toNat ++ [y] ++ xs.drop i.toNat)))
theorem mt_ins (X : Cx) : MtR X "list.insert" rIns := L2.mt_insert
def uIns : List D → List D → Option (List D)
  | [.int i, y], l => if l.length < LIM ∧ 0 ≤ i ∧ i ≤ 16000000 then some (l.take i.toNat ++ [y] ++ l.drop i.toNat) else none
  | _, _ => none
theorem lm_ins : LMut G rIns uIns := by
  intro F H p xs l ys zs l' hp hl hz hu
  unfold uIns at hu
  split at hu
  · rename_i i y
    split at hu
    · rename_i hlim
      have e := Option.some.inj hu
      subst e
      obtain ⟨v, vs', rfl, r1, v2, vs2, rfl, r2, r3⟩ := hz
      rw [show vs2 = [] from r3, show v = .int i from r1]
      exact ⟨xs.take i.toNat ++ [v2] ++ xs.drop i.toNat, ((hl.take _).app (RepL.one r2)).app (hl.drop _), fun Q q => ⟨p, xs, i, v2, rfl, rfl, hp, by rw [hl.length]; exact lim_lt (Nat.le_of_lt hlim.1), hlim.2.1, by omega, q⟩⟩
    · cases hu
  · cases hu
def uSet : D → D → D → Option D
  | y, .int i, .lst l => (ixN l.length i).map fun j => .lst (l.set j y)
  | _, _, _ => none
def Aj (s : Nat) (fi f : En → M D) : SO := Cw f fun y ρ => if Bi ρ[s]? = true then Cw fi (fun i ρ => (Ah s (uSet y i) ρ).map .nx) ρ else none
def SetPlain (y : Str) (p1 : Pos) (i : Expr) (tpos : Pos) (e : Expr) (spos : Pos) (sc : Scope) : Prop := ∀ X : Cx, X.env.scope = sc →
  (∀ v, assign (.Subscript (.Name y p1) i tpos) X.env v = (do
      let ov ← holding [v] (eval (.Name y p1) X.env)
      let iv ← holding [v, ov] (eval i X.env)
      standAt tpos
      holding [v, ov, iv] (setItem ov iv v)
      release [v, ov, iv] [])) ∧ swapsWithSole [.Subscript (.Name y p1) i tpos] e spos.line X.env = pure false ∧ swappedStores [.Subscript (.Name y p1) i tpos] e X.env = pure none ∧
    (assignEach [.Subscript (.Name y p1) i tpos] X.env).map (·.2) = [assign (.Subscript (.Name y p1) i tpos) X.env]
end
end DL
namespace DL
open PySem PySem.Spec L2
section
variable {G : Gm} {k : Nat} {W : WX} {N : List Str} {sc : Scope} {e a b c o : Expr} {es : List Expr} {f fa fb fc : En → M D} {fs : En → M (List D)} {ga gb : En → M Bool} {pos apos cpos : Pos} {kd : Kd} {F B H : Hp} {Z : Zn} {σ : L2.St} {ρ : En}
theorem walk_in {J : It} {n : Nat} {Gd : Hp → Prop} {Y : Nat → Hp → V → Hp → Prop} (w : Walk J n Gd Y) {g : TG} {tt : TT} {te : TE} {vs : List Nat} {τ : L2.St} {H1 : Hp} {A : Addr} {Qd : Hp → Prop} (Pv : Nat → Hp → Prop) (h0 : Pv 0 H1) (hG : ∀ i H, i ≤ n → Pv i H → Gd H)
    (hs : ∀ i x H H', i < n → Pv i H → Y i H x H' → g x (wipe τ vs) H' fun σ2 H2 => wipe σ2 vs = wipe τ vs ∧ tt σ2 H2 fun b H3 =>
      if b = true then te σ2 H3 fun y H4 => ∃ acc, H4 A = some (.lst acc) ∧ acc.length < sizeLine ∧ Pv (i + 1) (upd H4 A (.lst (acc ++ [y]))) else Pv (i + 1) H3) (hd : ∀ H, Pv n H → Qd H) :
    ∃ W : Nat → Nat → Hp → Prop, (∃ m, W 0 m H1) ∧ ∀ i m H, W i m H →
      (J.stop i H ∧ Qd H) ∨ (J.go i H ∧ ∃ Nx : Hp → Prop, (∀ H', Nx H' → ∃ m', m' < m ∧ W (i + 1) m' H') ∧ ∀ x H', J.yld i H x H' → g x (wipe τ vs) H' fun σ2 H2 => wipe σ2 vs = wipe τ vs ∧ tt σ2 H2 fun b H3 =>
        if b = true then te σ2 H3 fun y H4 => ∃ acc, H4 A = some (.lst acc) ∧ acc.length < sizeLine ∧ Nx (upd H4 A (.lst (acc ++ [y]))) else Nx H3) := by
  refine ⟨fun i m H => m + i = n ∧ Pv i H, ⟨n, by omega, h0⟩, ?_⟩
  rintro i m H ⟨hm, p⟩
  have hi : i ≤ n := by omega
  have gd := hG i H hi p
  by_cases hlt : i < n
  · exact .inr ⟨w.goes i H hlt gd, Pv (i + 1), fun H' p' => ⟨n - (i + 1), by omega, by omega, p'⟩, fun x H' y => hs i x H H' hlt p (w.yields i H x H' hlt gd y)⟩
  · have e : i = n := by omega
    subst e
    exact .inl ⟨w.stops H gd, hd H p⟩
def comp2G (h : D → En → Option En) (gc : En → M Bool) (fi1 : En → M (List D)) (h1 : D → En → Option En) (gc1 : En → M Bool) (fe : En → M D) (vs1 : List Nat) (ρ : En) : List D → Option (List D)
  | [] => some []
  | d :: ds => (h d ρ).bind fun ρ1 => match gc ρ1 with
    | some (.ok true) => (match fi1 ρ1 with
      | some (.ok items1) => (compG h1 gc1 fe (Cb ρ1 vs1) items1).bind fun l1 => (comp2G h gc fi1 h1 gc1 fe vs1 ρ ds).map (l1 ++ ·)
      | _ => none)
    | some (.ok false) => comp2G h gc fi1 h1 gc1 fe vs1 ρ ds
    | _ => none
def fLc2 (fi : En → M (List D)) (h : D → En → Option En) (gc : En → M Bool) (fi1 : En → M (List D)) (h1 : D → En → Option En) (gc1 : En → M Bool) (fe : En → M D) (vs vs1 : List Nat) : En → M D :=
  fun ρ => (fi ρ).bnd fun items => limL (comp2G h gc fi1 h1 gc1 fe vs1 (Cb ρ vs) items)
def Mid (G : Gm) (F1 B1 H1 : Hp) (A : Addr) (l : List D) (left : List D → Prop) (H' : Hp) : Prop :=
  ∃ F' B' acc l' done, Up F1 B1 H1 F' B' H' ∧ H' A = some (.lst acc) ∧ B' A = none ∧ RepL G F' done acc ∧ left l' ∧ done ++ l' = l
theorem up_app {F1 B1 H1 F' B' H' : Hp} {A : Addr} {x : HO} (u : Up F1 B1 H1 F' B' H') (hA : H1 A = none) (hB : B' A = none) : Up F1 B1 H1 F' B' (upd H' A x) :=
  ⟨u.f, u.b, fun b o e => by rw [upd_ne (ne_of_none e hA)]; exact u.h b o e, u.fb, fun b o e => by rw [upd_ne (ne_of_none e hB)]; exact u.bh b o e, u.old⟩
theorem spec_lc2 {wi wi1 : TI} {t t1 : TG} {tt tt1 : TT} {te : TE} {fi fi1 : En → M (List D)} {is is1 vs vs1 : List Nat} {h h1 : D → En → Option En} {gc gc1 : En → M Bool} {fe : En → M D}
    (hi : ∀ Z F B H σ ρ, SR G Z F B H σ ρ → ∀ r, fi ρ = some r → ∀ R, PostI G W F B H σ R r → wi σ H R)
    (ht : ∀ Z F B H σ ρ, SR G Z F B H σ ρ → ∀ d v, Rep G F d v → ∀ ρ', h d ρ = some ρ' → ∀ Q : L2.St → Hp → Prop, (∀ σ', SR G Z F B H σ' ρ' → (∀ vs, (∀ i ∈ is, i ∈ vs) → wipe σ' vs = wipe σ vs) → (∀ j p, OwnAt σ' ρ' j p → OwnAt σ ρ j p) → Q σ' H) → t v σ H Q)
    (hc : SpecT G W0 tt gc)
    (hi1 : ∀ Z F B H σ ρ, SR G Z F B H σ ρ → ∀ r, fi1 ρ = some r → ∀ R, PostI G W0 F B H σ R r → wi1 σ H R)
    (ht1 : ∀ Z F B H σ ρ, SR G Z F B H σ ρ → ∀ d v, Rep G F d v → ∀ ρ', h1 d ρ = some ρ' → ∀ Q : L2.St → Hp → Prop, (∀ σ', SR G Z F B H σ' ρ' → (∀ vs, (∀ i ∈ is1, i ∈ vs) → wipe σ' vs = wipe σ vs) → (∀ j p, OwnAt σ' ρ' j p → OwnAt σ ρ j p) → Q σ' H) → t1 v σ H Q)
    (hc1 : SpecT G W0 tt1 gc1) (he : SpecE G W0 .shared te fe) (his : ∀ i ∈ is, i ∈ vs) (his1 : ∀ i ∈ is1, i ∈ vs1) : SpecE G W .fresh (tLc2 wi t tt wi1 t1 tt1 te vs vs1) (fLc2 fi h gc fi1 h1 gc1 fe vs vs1) := by
  intro Z F B H σ ρ s r hr Q q
  rcases bnd_some hr with ⟨items, ei, hr⟩ | ⟨x, ex, rfl⟩
  · obtain ⟨l, el, hlim, rfl⟩ := limL_some hr
    refine hi Z F B H σ ρ s _ ei _ fun F1 B1 H1 J u1 it A hA => ?_
    generalize hρ : Cb ρ vs = ρw at el
    refine ⟨fun i m H' => m + i = items.length ∧ Mid G F1 B1 H1 A l (fun l' => comp2G h gc fi1 h1 gc1 fe vs1 ρw (items.drop i) = some l') H', ⟨items.length, by omega, F1, B1, [], l, [], Up.new u1.fb u1.bh hA, upd_same, u1.bh.free hA, rfl, el, rfl⟩, ?_⟩
    rintro i m H' ⟨hm, F', B', acc, l', done, u, hA', hB', rl, hl, hd⟩
    by_cases hlt : i < items.length
    · refine .inr ⟨it.goes i H' hlt (u.b.trans u.bh), Mid G F1 B1 H1 A l (fun l' => comp2G h gc fi1 h1 gc1 fe vs1 ρw (items.drop (i + 1)) = some l'), fun H2 p => ⟨items.length - (i + 1), by omega, by omega, p⟩, fun x H2 y => ?_⟩
      obtain ⟨F2, B2, d, ed, u2, rd⟩ := it.yields i H' x H2 hlt (u.b.trans u.bh) y F' B' u.gro u.fb u.bh
      have hdr : items.drop i = d :: items.drop (i + 1) := by
        obtain ⟨hi', e⟩ := List.getElem?_eq_some_iff.mp ed
        rw [List.drop_eq_getElem_cons hi', e]
      rw [hdr] at hl
      have hl : ((h d ρw).bind fun ρ1 => match gc ρ1 with
        | some (.ok true) => (match fi1 ρ1 with
          | some (.ok items1) => (compG h1 gc1 fe (Cb ρ1 vs1) items1).bind fun l1 => (comp2G h gc fi1 h1 gc1 fe vs1 ρw (items.drop (i + 1))).map (l1 ++ ·)
          | _ => none)
        | some (.ok false) => comp2G h gc fi1 h1 gc1 fe vs1 ρw (items.drop (i + 1))
        | _ => none) = some l' := hl
      have s2 : SR G Z F2 B2 H2 (wipe σ vs) ρw := by
        rw [← hρ]
        exact (s.up (u1.trans (u.trans u2))).wiped vs
      cases e1 : h d ρw with
      | none => rw [e1] at hl; cases hl
      | some ρ1 =>
        rw [e1] at hl
        have hl : (match gc ρ1 with
          | some (.ok true) => (match fi1 ρ1 with
            | some (.ok items1) => (compG h1 gc1 fe (Cb ρ1 vs1) items1).bind fun l1 => (comp2G h gc fi1 h1 gc1 fe vs1 ρw (items.drop (i + 1))).map (l1 ++ ·)
            | _ => none)
          | some (.ok false) => comp2G h gc fi1 h1 gc1 fe vs1 ρw (items.drop (i + 1))
          | _ => none) = some l' := hl
        refine ht Z F2 B2 H2 _ ρw s2 d x rd ρ1 e1 _ fun σ2 s3 w2 ob => ⟨by rw [w2 vs his, wipe_idem], ?_⟩
        cases e2 : gc ρ1 with
        | none => rw [e2] at hl; cases hl
        | some r =>
          rw [e2] at hl
          cases r with
          | error z => cases hl
          | ok bb =>
            refine hc Z F2 B2 H2 σ2 ρ1 s3 _ e2 _ fun F3 B3 H3 u3 => ?_
            have hne : H' A ≠ none := by rw [hA']; intro z; cases z
            have u23 := u2.trans u3
            have hA3 : H3 A = some (.lst acc) := u23.h _ _ hA'
            have hB3 : B3 A = none := by rw [(u23.old A hne).2]; exact hB'
            have rl3 : RepL G F3 done acc := rl.mono u23.f
            cases bb with
            | false => exact ⟨F3, B3, acc, l', done, u.trans u23, hA3, hB3, rl3, hl, hd⟩
            | true =>
              have hl : (match fi1 ρ1 with
                | some (.ok items1) => (compG h1 gc1 fe (Cb ρ1 vs1) items1).bind fun l1 => (comp2G h gc fi1 h1 gc1 fe vs1 ρw (items.drop (i + 1))).map (l1 ++ ·)
                | _ => none) = some l' := hl
              cases e3 : fi1 ρ1 with
              | none => rw [e3] at hl; cases hl
              | some r3 =>
                rw [e3] at hl
                cases r3 with
                | error z => cases hl
                | ok items1 =>
                  have hl : ((compG h1 gc1 fe (Cb ρ1 vs1) items1).bind fun l1 => (comp2G h gc fi1 h1 gc1 fe vs1 ρw (items.drop (i + 1))).map (l1 ++ ·)) = some l' := hl
                  cases e4 : compG h1 gc1 fe (Cb ρ1 vs1) items1 with
                  | none => rw [e4] at hl; cases hl
                  | some l1 =>
                    rw [e4] at hl
                    have hl : (comp2G h gc fi1 h1 gc1 fe vs1 ρw (items.drop (i + 1))).map (l1 ++ ·) = some l' := hl
                    cases e5 : comp2G h gc fi1 h1 gc1 fe vs1 ρw (items.drop (i + 1)) with
                    | none => rw [e5] at hl; cases hl
                    | some l2 =>
                      rw [e5] at hl
                      have el' : l1 ++ l2 = l' := Option.some.inj hl
                      show wi1 σ2 H3 _
                      refine hi1 Z F3 B3 H3 σ2 ρ1 (s3.up u3) _ e3 _ fun F4 B4 H4 J1 u4 it1 => ?_
                      have uu4 := u.trans (u23.trans u4)
                      have hne3 : H3 A ≠ none := by rw [hA3]; intro z; cases z
                      have hA4 : H4 A = some (.lst acc) := u4.h _ _ hA3
                      have hB4 : B4 A = none := by rw [(u4.old A hne3).2]; exact hB3
                      refine walk_in (vs := vs1) it1 (fun j H5 => ∃ F5 B5 acc5 l5 done5, Up F1 B1 H1 F5 B5 H5 ∧ Gro F4 B4 F5 B5 ∧ SR G Z F5 B5 H5 σ2 ρ1 ∧ H5 A = some (.lst acc5) ∧ B5 A = none ∧ RepL G F5 done5 acc5 ∧ compG h1 gc1 fe (Cb ρ1 vs1) (items1.drop j) = some l5 ∧ done5 ++ l5 = done ++ l1) ?_ ?_ ?_ ?_
                      · exact ⟨F4, B4, acc, l1, done, uu4, Gro.refl, s3.up (u3.trans u4), hA4, hB4, rl3.mono u4.f, e4, rfl⟩
                      · rintro j H5 hj ⟨F5, B5, acc5, l5, done5, u5, g5, _⟩
                        exact g5.b.trans u5.bh
                      · rintro j x5 H5 H6 hj ⟨F5, B5, acc5, l5, done5, u5, g5, s5, hA5, hB5, rl5, hl5, hd5⟩ y5
                        obtain ⟨F6, B6, d6, ed6, u6, rd6⟩ := y5 F5 B5 g5 u5.fb u5.bh
                        have hdr5 : items1.drop j = d6 :: items1.drop (j + 1) := by
                          obtain ⟨hi', e⟩ := List.getElem?_eq_some_iff.mp ed6
                          rw [List.drop_eq_getElem_cons hi', e]
                        rw [hdr5] at hl5
                        have s6 : SR G Z F6 B6 H6 (wipe σ2 vs1) (Cb ρ1 vs1) := (s5.up u6).wiped vs1
                        have hne5 : H5 A ≠ none := by rw [hA5]; intro z; cases z
                        have hA6 : H6 A = some (.lst acc5) := u6.h _ _ hA5
                        have hB6 : B6 A = none := by rw [(u6.old A hne5).2]; exact hB5
                        have hlen : acc5.length + l5.length ≤ LIM := by
                          rw [rl5.length, ← List.length_append, hd5]
                          have : (done ++ l1).length ≤ l.length := by
                            rw [← hd, ← el', List.length_append, List.length_append, List.length_append]
                            omega
                          exact Nat.le_trans this hlim
                        have main := comp_turn (vs := vs1) ht1 hc1 he his1 s6 rd6 hl5 hA6 hB6 hlen (Nx := fun H5 => ∃ F5 B5 acc5 l5 done5, Up F1 B1 H1 F5 B5 H5 ∧ Gro F4 B4 F5 B5 ∧ SR G Z F5 B5 H5 σ2 ρ1 ∧ H5 A = some (.lst acc5) ∧ B5 A = none ∧ RepL G F5 done5 acc5 ∧ compG h1 gc1 fe (Cb ρ1 vs1) (items1.drop (j + 1)) = some l5 ∧ done5 ++ l5 = done ++ l1) fun F7 B7 H7 u7 l7 e7 => ?_
                        · rw [wipe_idem] at main
                          exact main
                        · have hne6 : H6 A ≠ none := by rw [hA6]; intro z; cases z
                          have hB7 : B7 A = none := by rw [(u7.old A hne6).2]; exact hB6
                          have u67 := u6.trans u7
                          have rl7 : RepL G F7 done5 acc5 := rl5.mono u67.f
                          have s7 := s5.up u67
                          refine ⟨fun ⟨e, e'⟩ => ⟨F7, B7, acc5, l7, done5, u5.trans u67, g5.trans u67.gro, s7, e', hB7, rl7, e7, by rw [← e]; exact hd5⟩, fun y v e rv hA7 => ?_⟩
                          refine ⟨F7, B7, acc5 ++ [v], l7, done5 ++ [y], up_app (u5.trans u67) hA hB7, g5.trans u67.gro, ?_, upd_same, hB7, rl7.app (RepL.one rv), e7, by rw [List.append_assoc, List.singleton_append, ← e]; exact hd5⟩
                          refine s7.newUpd hB7 ?_ fun i p ho => ?_
                          · cases zz : Z.H A with
                            | none => rfl
                            | some oo => exact absurd (u1.h.free hA) (s.zk A (by rw [zz]; intro z; cases z))
                          · have ho2 := ob i p ho
                            rw [← hρ] at ho2
                            obtain ⟨⟨o1, ho1⟩, _⟩ := s.own_there (own_back ho2)
                            exact ne_of_none ho1 (u1.h.free hA)
                      · rintro H5 ⟨F5, B5, acc5, l5, done5, u5, g5, s5, hA5, hB5, rl5, hl5, hd5⟩
                        rw [List.drop_length] at hl5
                        have e := Option.some.inj (show some [] = some l5 from hl5)
                        subst e
                        rw [List.append_nil] at hd5
                        subst hd5
                        exact ⟨F5, B5, acc5, l2, done ++ l1, u5, hA5, hB5, rl5, rfl, by rw [List.append_assoc, el']; exact hd⟩
    · have e : i = items.length := by omega
      subst e
      refine .inl ⟨it.stops H' (u.b.trans u.bh), ?_⟩
      rw [List.drop_length] at hl
      have e := Option.some.inj (show some [] = some l' from hl)
      subst e
      rw [List.append_nil] at hd
      subst hd
      exact q F' B' H' _ (u1.trans u) ⟨A, rfl, u1.h.free hA, hB', acc, hA', rl⟩
  · exact hi Z F B H σ ρ s _ ex _ q
theorem js_setLc2 {i : Nat} {y : Str} {py spos : Pos} {elt tg iter tg1 iter1 : Expr} {ifs ifs1 : List Expr} {scope : Scope} (own : List (Str × Nat)) (vs1 : List Nat) {fi fi1 : En → M (List D)} {is is1 : List Nat} {h h1 : D → En → Option En} {gc gc1 : En → M Bool} {fe : En → M D} (hy : N[i]? = some y) (hyl : sc.names.lookup y = some .local)
    (hsw : (py.line == pos.line) = true) (hsy : (scope.names.any fun (n, k) => n == y && (k == .local || k == .cell)) = false) (hkind : sc.kind = .function) (hb : blkC N sc scope own = true) (his : ∀ i ∈ is, i ∈ own.map (·.2)) (his1 : ∀ i ∈ is1, i ∈ vs1) (hv : ∀ i ∈ vs1, i ∈ own.map (·.2))
    (hi : JI G k W N sc tg iter fi) (ht : JG G (CnE G k W0 N (relS scope sc)) tg is h) (hc : JTs G k W0 N (relS scope sc) ifs gc)
    (hi1 : JI G k W0 N (relS scope sc) tg1 iter1 fi1) (ht1 : JG G (CnE G k W0 N (relS scope sc)) tg1 is1 h1) (hc1 : JTs G k W0 N (relS scope sc) ifs1 gc1) (he : JE G k W0 N (relS scope sc) .shared elt fe) (hs : ∀ (env : Env) x, foldedSetIterable iter env x = pure x) (hs1 : ∀ (env : Env) x, foldedSetIterable iter1 env x = pure x) :
    JS G k W N sc (.Assign [.Name y py] (.ListComp elt [⟨tg, iter, ifs, 0⟩, ⟨tg1, iter1, ifs1, 0⟩] scope pos) spos) (Bd i (fLc2 fi h gc fi1 h1 gc1 fe (own.map (·.2)) vs1)) := by
  obtain ⟨wi, a1, a2⟩ := hi
  obtain ⟨t, b1, b2⟩ := ht
  obtain ⟨tt, c1, c2⟩ := hc
  obtain ⟨wi1, a3, a4⟩ := hi1
  obtain ⟨t1, b3, b4⟩ := ht1
  obtain ⟨tt1, c3, c4⟩ := hc1
  obtain ⟨te, e1, e2⟩ := he
  refine ⟨_, fun X c => ps_setLc2 (own := own) (vs1 := vs1) c.ce.calm (by rw [c.ce.hN]; exact c.ce.nd) (by rw [c.ce.hN]; exact hy) (by rw [c.ce.hsc]; exact hyl) (sw_true (by rw [c.ce.hsc]; exact hkind) (by rw [c.ce.hsc]; exact hyl) hsw hsy) (a1 X c.ce) (by rw [c.ce.hN, c.ce.hsc]; exact blkOk_by hb) hv (fun _ _ _ _ _ => b1 _ c.ce.blk) (fun _ _ _ _ _ => c1 _ c.ce.blk) (fun _ _ _ _ _ => a3 _ c.ce.blk) (fun _ _ _ _ _ => b3 _ c.ce.blk) (fun _ _ _ _ _ => c3 _ c.ce.blk) (fun _ _ _ _ _ => e1 _ c.ce.blk) (hs _) hs1, fun Z F B H σ ρ s o ho E q => ?_⟩
  rcases gBnd_some ho with ⟨d, ed, ho⟩ | ⟨x, ex, rfl⟩
  · refine spec_lc2 (W := W) a2 b2 c2 a4 b4 c4 e2 his his1 Z F B H σ ρ s _ ed _ fun F1 B1 H1 v1 u1 k1 => ?_
    obtain ⟨hl, rfl⟩ := gPut_some ho
    exact q F1 B1 H1 _ (s.putF u1 k1 hl) u1.gro
  · exact spec_lc2 (W := W) a2 b2 c2 a4 b4 c4 e2 his his1 Z F B H σ ρ s _ ex _ (PostS.er s q)
end
end DL
namespace DL
open PySem PySem.Spec L2
section
variable {X : Cx} {pp : List (Addr × Obj)} {σ : L2.St} {H : Hp} {s : Shared} {A : Around} {E : Value → Shared → Prop} {C p g a : Addr} {m : Str} {pl : Sem Bool}
end
section
variable {X : Cx} {Ct : CXT} {k : Nat} {f C p : Addr} {fd : FuncData} {ps : List Str} {sp : Sp} {E : L2.St → XK} {m : Str} {pos apos : Pos} {e o : Expr} {es : List Expr} {ta : TE} {t : TA}
end
section
variable {G : Gm} {k j : Nat} {W : WX} {N : List Str} {sc : Scope} {e o : Expr} {es : List Expr} {fa : En → M D} {fs : En → M (List D)} {pos apos : Pos} {ad p : Addr} {fd : FuncData} {ps : List Str} {ks : List PK} {Fn : List D → Option FOut} {m : Str}
def Cg (c : Nat) : D → Bool
  | .cls c' => c' == c
  | _ => false
end
end DL
namespace DL
open PySem PySem.Spec L2
theorem fn_okD {G : Gm} {k : Nat} {N : List Str} {g : SO} {x qual : Str} {params : Arguments} {body : List Stmt} {scope : Scope} {dvs : List V} {kws : List (Str × V)} {f : Addr} {fd : FuncData} {ps : List Str} {ks : List PK}
    (Fn : FunD G.K x qual params body scope dvs kws f fd) (S : FnScope N ps scope) (hps : ps.length = ks.length) (hN : ks.length ≤ N.length) (hb : ∀ W, JB G k W N scope body g) :
    FnG G (k + 1) f fd ps ks (Ci ks N.length g) := by
  refine Fn.ok S (fun vs H Q E h => ?_) fun cdv A outer s H vs Q E hr hsp => ?_
  · obtain ⟨F, ds, _, _, pr, _⟩ := h
    rw [pr.length, hps]
  · obtain ⟨ts, t1, t2⟩ := hb (fun cls d _ H => E cls d H)
    refine ⟨ts, t1 _ ⟨⟨rfl, rfl, rfl, rfl, rfl, rfl, rfl, rfl, S.nd, hr, ?_⟩, fun _ => rfl, PassesOwn.leaving, rfl, rfl, rfl⟩, body_ok t2 hN hsp⟩
    exact L2N.takes_of rfl rfl rfl rfl
abbrev CL : Type := List (Nat × Addr × List Str)
def ctOf (l : CL) : CT := fun n => l.lookup n
def tyNs : List String := ["NoneType", "bool", "int", "str", "list", "tuple", "dict"]
def clNs : List String := ["bool", "int", "str", "list", "tuple", "dict"]
def tys (l : CL) : List (Ty × Value) := tyNs.map (fun n => (Ty.b n, Value.type n)) ++ l.map fun q => (Ty.o q.1, Value.ref q.2.1)
def clB (K : PySem.W.Frag) (C : Addr) (ns : List Str) : Bool :=
  (PySem.W.plainGet K C Str.empty && (PySem.W.hasDictIn K C && (PySem.W.plainOver K C && He.eqO (PySem.W.findIn K (.ref C) "__setattr__") (some (some (.builtin "object.__setattr__")))))) &&
    ((ns.all fun f => He.eqO (PySem.W.findIn K (.ref C) f) (some none)) && (decide ns.Nodup && decide (ns.length < 1000)) &&
      (He.eqO (PySem.W.findIn K (.ref C) "__class__") (some (some (.builtin "object.__class__"))) && decide (PySem.W.mroIn K C (.type "object") = some true)))
def gB (K : PySem.W.Frag) (l : CL) : Bool :=
  (l.all fun q => if q.1 < 100 then clB K q.2.1 q.2.2 else true) && (He.eqO (PySem.W.specialIn K (.builtin "object.__class__") "__get__") (some (some (.builtin "getset_descriptor.__get__"))) &&
    decide (PySem.W.takesIn K (.builtin "object.__class__") = some true) &&
    (tys l).all fun t => (tys l).all fun c => match isiT t.1 c.1 with
      | some b => decide (PySem.W.kitOne K t.2 c.2 = some b)
      | none => true)
theorem look_mem {c : Nat} {q : Addr × List Str} : ∀ {l : CL}, l.lookup c = some q → (c, q) ∈ l
  | [], h => nomatch h
  | (d, r) :: l, h => by
    rw [List.lookup_cons] at h
    cases e : (c == d) with
    | true =>
      rw [e] at h
      have e2 : c = d := eq_of_beq e
      have e3 : r = q := Option.some.inj h
      subst e2 e3
      exact List.mem_cons_self
    | false =>
      rw [e] at h
      exact List.mem_cons_of_mem _ (look_mem h)
theorem tys_mem {G : Gm} {l : CL} (hl : G.ct = ctOf l) : ∀ {t : Ty} {v : Value}, (∀ n, t = .b n → n ∈ tyNs) → t.val G v → (t, v) ∈ tys l
  | .b n, v, hn, h => by
    rw [show v = .type n from h]
    exact List.mem_append_left _ (List.mem_map.mpr ⟨n, hn n rfl, rfl⟩)
  | .o c, v, _, h => by
    obtain ⟨C, ns, e, rfl⟩ := h
    rw [hl] at e
    exact List.mem_append_right _ (List.mem_map.mpr ⟨(c, C, ns), look_mem e, rfl⟩)
theorem cont_ty {n : String} (h : clNs.contains n = true) : n ∈ tyNs := by
  have h3 := List.contains_iff_mem.mp h
  exact List.mem_cons_of_mem _ h3
theorem isiT_l {t c : Ty} {b : Bool} (h : isiT t c = some b) : (∀ n, t = .b n → n ∈ tyNs) ∧ ∀ n, c = .b n → n ∈ tyNs := by
  cases t with
  | b a =>
    cases c with
    | b d =>
      have h : (if (tyNs.contains a && clNs.contains d) = true then some (a == d || (a == "bool" && d == "int")) else none) = some b := h
      by_cases hc : (tyNs.contains a && clNs.contains d) = true
      · obtain ⟨h1, h2⟩ := Bool.and_eq_true_iff.mp hc
        exact ⟨fun n e => by cases e; exact List.contains_iff_mem.mp h1, fun n e => by cases e; exact cont_ty h2⟩
      · rw [if_neg hc] at h
        cases h
    | o d =>
      have h : (if tyNs.contains a = true then some false else none) = some b := h
      by_cases hc : tyNs.contains a = true
      · exact ⟨fun n e => by cases e; exact List.contains_iff_mem.mp hc, fun n e => by cases e⟩
      · rw [if_neg hc] at h
        cases h
  | o a =>
    cases c with
    | b d =>
      have h : (if clNs.contains d = true then some false else none) = some b := h
      by_cases hc : clNs.contains d = true
      · exact ⟨fun n e => (by cases e), fun n e => by cases e; exact cont_ty hc⟩
      · rw [if_neg hc] at h
        cases h
    | o d => exact ⟨fun n e => (by cases e), fun n e => (by cases e)⟩
theorem gok_of {G : Gm} {l : CL} (hl : G.ct = ctOf l) (h : gB G.K l = true) : GOk G := by
  obtain ⟨h1, h2⟩ := Bool.and_eq_true_iff.mp h
  obtain ⟨h2, h4⟩ := Bool.and_eq_true_iff.mp h2
  obtain ⟨h2, h3⟩ := Bool.and_eq_true_iff.mp h2
  have key : ∀ c C ns, G.ct c = some (C, ns) → c < 100 → clB G.K C ns = true := fun c C ns e hc => by
    rw [hl] at e
    have z := List.all_eq_true.mp h1 _ (look_mem e)
    rw [if_pos hc] at z
    exact z
  refine ⟨fun c C ns e hc => ?_, fun c C ns e hc => ?_, He.eqO_ok h2, of_decide_eq_true h3, fun t c b tv cv e ht hc => ?_⟩
  · obtain ⟨a, b⟩ := Bool.and_eq_true_iff.mp (key c C ns e hc)
    obtain ⟨b, _⟩ := Bool.and_eq_true_iff.mp b
    obtain ⟨b1, b2⟩ := Bool.and_eq_true_iff.mp b
    obtain ⟨b2, b3⟩ := Bool.and_eq_true_iff.mp b2
    obtain ⟨a1, a2⟩ := Bool.and_eq_true_iff.mp a
    obtain ⟨a2, a3⟩ := Bool.and_eq_true_iff.mp a2
    obtain ⟨a3, a4⟩ := Bool.and_eq_true_iff.mp a3
    exact ⟨⟨a1, a2, a3, He.eqO_ok a4⟩, fun f hf => He.eqO_ok (List.all_eq_true.mp b1 f hf), of_decide_eq_true b2, of_decide_eq_true b3⟩
  · obtain ⟨a, b⟩ := Bool.and_eq_true_iff.mp (key c C ns e hc)
    obtain ⟨_, b⟩ := Bool.and_eq_true_iff.mp b
    obtain ⟨b1, b2⟩ := Bool.and_eq_true_iff.mp b
    exact ⟨He.eqO_ok b1, of_decide_eq_true b2⟩
  · obtain ⟨n1, n2⟩ := isiT_l e
    have z := List.all_eq_true.mp (List.all_eq_true.mp h4 _ (tys_mem hl n1 ht)) _ (tys_mem hl n2 hc)
    rw [show isiT (t, tv).1 (c, cv).1 = some b from e] at z
    exact of_decide_eq_true z
def obsH (fa : List He.Fa) (ex : List (PySem.W.Frag → Bool)) (fn : List He5.DefA) (K : PySem.W.Frag) : He.AlD :=
  (((fa.all fun q => q.ok K) && ex.all fun t => t K) && fn.all fun q => q.ok K, fn.map fun q => He5.fnA K (q.at_ K))
def valH (fn : List He5.DefA) : He.AlD := (true, fn.map He5.DefA.val)
def SaysH (fa : List He.Fa) (ex : List (PySem.W.Frag → Bool)) (fn : List He5.DefA) (K : PySem.W.Frag) : Prop := obsH fa ex fn K = valH fn
def obsHG (n : Nat) (fa : List He.Fa) (ex : List (PySem.W.Frag → Bool)) (fn : List He5.DefA) (g : Addr → Option Obj) : He.AlD := obsH fa ex fn (He.frG g (He5.asA g n))
def hookH (n : Nat) (fa : List He.Fa) (ex : List (PySem.W.Frag → Bool)) (fn : List He5.DefA) : PySem.W.Hook where
  α := He.AlD
  obs := fun st => obsHG n fa ex fn st.heap.get?
  val := fun _ => valH fn
  says := fun _ hp => ∃ K : PySem.W.Frag, K.In hp ∧ SaysH fa ex fn K
  of := fun _ _ q => ⟨_, He.frG_in, q⟩
  keeps := fun _ _ _ ⟨K, hK, q⟩ kk => ⟨K, PySem.W.Frag.In.keeps hK kk, q⟩
theorem obsHG_eq {n : Nat} {fa : List He.Fa} {ex : List (PySem.W.Frag → Bool)} {fn : List He5.DefA} {g : Addr → Option Obj} {st : Shared} (h : ∀ a, g a = st.heap.get? a) : obsHG n fa ex fn g = (hookH n fa ex fn).obs st := by
  rw [show g = st.heap.get? from funext h] <;> rfl
section
variable {fa : List He.Fa} {ex : List (PySem.W.Frag → Bool)} {fn : List He5.DefA} {K : PySem.W.Frag}
theorem SaysH.bits (c : SaysH fa ex fn K) : ((fa.all fun q => q.ok K) = true ∧ (ex.all fun t => t K) = true) ∧ (fn.all fun q => q.ok K) = true := by
  have z : (((fa.all fun q => q.ok K) && ex.all fun t => t K) && fn.all fun q => q.ok K) = true := congrArg (fun z : He.AlD => z.1) c
  obtain ⟨z1, z2⟩ := Bool.and_eq_true_iff.mp z
  exact ⟨Bool.and_eq_true_iff.mp z1, z2⟩
theorem SaysH.fact (c : SaysH fa ex fn K) (i : Nat) {q : He.Fa} (h : fa[i]? = some q := by rfl) : q.ok K = true := List.all_eq_true.mp c.bits.1.1 q (List.mem_of_getElem? h)
theorem SaysH.test (c : SaysH fa ex fn K) (i : Nat) {q : PySem.W.Frag → Bool} (h : ex[i]? = some q := by rfl) : q K = true := List.all_eq_true.mp c.bits.1.2 q (List.mem_of_getElem? h)
theorem SaysH.def_ (c : SaysH fa ex fn K) (i : Nat) {q : He5.DefA} (h : fn[i]? = some q := by rfl) : ∃ fd, L2.FunD K q.name q.qual q.params q.body q.scope (q.dvs K) (q.kws K) (q.at_ K) fd := by
  have e : fn.map (fun q => He5.fnA K (q.at_ K)) = fn.map He5.DefA.val := congrArg (fun z : He.AlD => z.2) c
  have e2 : (fn.map fun q => He5.fnA K (q.at_ K))[i]? = (fn.map He5.DefA.val)[i]? := by rw [e]
  rw [List.getElem?_map, List.getElem?_map, h] at e2
  exact He5.DefA.funD (Option.some.inj e2) (List.all_eq_true.mp c.bits.2 q (List.mem_of_getElem? h))
end
theorem cx_end {P : Program} {w : World} {H : Hp} {st : Shared} {e : Value} {st' : Shared} (h : L2N.CX P w [] H st (fun _ _ _ => False) e st') : False := by
  obtain ⟨_, _, _, _, _, _, _, _, _, _, _, _, z⟩ := h
  exact z
theorem walkD {l : PySem.W.OpenLaw} {n k : Nat} {q : Program} {loose : List Str} {XP : (Str → Option Value) → Heap → Prop} {YP : World → Heap → Prop} {d : DefRec} {x : Str}
    (hn : l.most = some n) (hn2 : n ≤ sizeLine) (hdf : d.params.defaults = []) (hr : Room k callerA)
    (F : ∀ (w : World) (mg : Str → Option Value) (fa : Addr) (h : Heap), YP w h → h.Ns mainGlobals mg → mg d.name = some (.ref fa) →
      ∃ (K : PySem.W.Frag) (fd : FuncData) (sp : Sp), K.In h ∧ (∀ (s : Shared) (u : Value), BindsTo s fd ⟨[u], []⟩ [(x, u)]) ∧
        (∀ (H : Hp) (a : Addr) (ns : List Int), ns.length ≤ n → Only H → SqL K H a (ns.map V.int) → sp [.ref a] H (fun v _ => v = .bl true) fun _ _ _ => False) ∧
        ∀ base : Heap, K.In base → base.Ns mainGlobals mg → FnOk l.prog w K mg base (L2N.CX l.prog w) k fa fd [x] sp) :
    PySem.W.WalkO q loose XP YP l.row.toRowW d [] (fun f vs => PySem.call f vs) := by
  refine Att.attach_call hn hdf fun w s0 s1 mg mb fa o pm cd doc a vs ns GG Y ho hd hcd hmg hobj hints hlen hg => ?_
  obtain ⟨K, fd, sp, KX, hb, hsp, hF⟩ := F w mg fa _ Y GG.T.g hmg
  exact law_call KX GG.T.g GG.T.b GG.T.builtins GG.T.nolimit hg hobj hints (Nat.le_trans hlen hn2) hr hF hb (fun H hO hS => hsp H a ns hlen hO hS) fun H e s' => cx_end
theorem law_sp {G : Gm} {Fn : List D → Option FOut} {H : Hp} {a : Addr} {ns : List Int} {E : XK} (hS : SqL G.K H a (ns.map V.int)) (h : ∃ fr, Fn [.scr ns] = some (.ret fr (.bl true) [])) :
    spD G [.bo] Fn [.ref a] H (fun v _ => v = .bl true) E := by
  obtain ⟨fr, h⟩ := h
  have e : muA [PK.bo] [V.ref a] = [] := rfl
  refine ⟨H, [.scr ns], ?_, ?_, ?_, _, h, ?_⟩
  · rw [e, hid_nil]; exact Same.refl _
  · rw [e]; exact List.nodup_nil
  · rw [e, hid_nil]
    refine ⟨_, _, rfl, ?_, rfl⟩
    show Top G H H (.scr ns) (.ref a)
    unfold Top
    rw [if_neg (by simp [D.isMut])]
    exact ⟨a, rfl, hS⟩
  · intro F' H' v _ hv _
    have hv : (if fr = true ∧ (D.bl true).isMut = true then ∃ p, v = .ref p ∧ H p = none ∧ F' p = none ∧ OwnO G F' H' p (.bl true) else Rep G F' (.bl true) v) := hv
    rw [if_neg (by simp [D.isMut])] at hv
    exact hv
end DL
namespace DL
open PySem PySem.Spec L2
def Ej (i : Nat) (c : D → Sl) (ρ : En) : Option En := match ρ[i]? with
  | some (.ln d) => some (ρ.set i (c d))
  | _ => none
def Out.upE (f : En → Option En) : Out → Option Out
  | .nx ρ => (f ρ).map .nx
  | .rt k d ρ => (f ρ).map (.rt k d)
  | .bk ρ => (f ρ).map .bk
  | .ct ρ => (f ρ).map .ct
  | .er x ρ => (f ρ).map (.er x)
def Be (i : Nat) (g : SO) : SO := fun ρ => match ρ[i]? with
  | some (.ow d) => (g (ρ.set i (.ln d))).bind (Out.upE (Ej i .ow))
  | some (.mu d) => (g (ρ.set i (.ln d))).bind (Out.upE (Ej i .mu))
  | _ => g ρ
section
variable {G : Gm} {k : Nat} {W : WX} {N : List Str} {sc : Scope} {st : Stmt} {g : SO} {F B H : Hp} {Z : Zn} {σ : L2.St} {ρ : En}
def lendZ (Z : Zn) (i : Nat) (p : Addr) : Zn := { Z with L := fun j => if j = i then some p else Z.L j, LA := p :: Z.LA }
def hide (B : Hp) (p : Addr) : Hp := fun a => if a = p then none else B a
theorem hide_self {B : Hp} {p : Addr} : hide B p p = none := if_pos rfl
theorem hide_ne {B : Hp} {p a : Addr} (h : a ≠ p) : hide B p a = B a := if_neg h
theorem SR.lend (s : SR G Z F B H σ ρ) {i : Nat} {p : Addr} {d : D} {o : HO} (hi : i < ρ.length) (hv : (σ[i]?).join = some (.ref p)) (hb : B p = none) (ho : H p = some o) (hd : OwnO G F H p d)
    (other : ∀ j d' p', j ≠ i → ρ[j]? = some (.ow d') ∨ ρ[j]? = some (.mu d') → (σ[j]?).join = some (.ref p') → (ρ[j]? = some (.ow d') → OwnAt σ ρ j p') → (ρ[j]? = some (.mu d') → Z.M j = some p') → p' ≠ p) :
    SR G (lendZ Z i p) F (upd B p o) H σ (ρ.set i (.ln d)) where
  fb := fun a u e => by
    have : a ≠ p := by rintro rfl; rw [s.fb a u e] at hb; cases hb
    rw [upd_ne this]; exact s.fb a u e
  bh := fun a u e => by
    by_cases h : a = p
    · subst h; rw [upd_same] at e; cases e; exact ho
    · rw [upd_ne h] at e; exact s.bh a u e
  zf := s.zf
  zb := fun a u e => by
    have z := s.zb a u e
    have : a ≠ p := by rintro rfl; rw [z] at hb; cases hb
    rw [upd_ne this]; exact z
  zo := fun a ha => ⟨(s.zo a ha).1, fun hq => by
    have h1 : a ≠ p := fun z => hq (by rw [z]; exact List.mem_cons_self)
    rw [upd_ne h1]
    exact (s.zo a ha).2 fun z => hq (List.mem_cons_of_mem _ z)⟩
  zh := s.zh
  zk := s.zk
  mm := s.mm
  md := s.md
  len := by rw [List.length_set]; exact s.len
  sl := fun j t ht => by
    by_cases hj : j = i
    · subst hj
      rw [List.getElem?_set_self hi] at ht
      cases ht
      exact ⟨p, hv, if_pos rfl, hd.mono (Same.refl _) fun o' e => by rw [ho] at e; rw [upd_same]; exact e⟩
    · rw [List.getElem?_set_ne (Ne.symm hj)] at ht
      have h := s.sl j t ht
      cases t with
      | un => trivial
      | sh d' => exact h
      | bo d' => exact h
      | ow d' =>
        obtain ⟨p', e1, e2, e3, e4⟩ := h
        have := other j d' p' hj (.inl ht) e1 (fun _ => ⟨⟨d', ht⟩, s.at ht e1⟩) (fun z => by rw [ht] at z; cases z)
        exact ⟨p', e1, e2, by rw [upd_ne this]; exact e3, e4⟩
      | mu d' =>
        obtain ⟨p', e1, e2, e3, e4⟩ := h
        have := other j d' p' hj (.inr ht) e1 (fun z => by rw [ht] at z; cases z) (fun _ => e2)
        exact ⟨p', e1, e2, by rw [upd_ne this]; exact e3, e4⟩
      | ln d' =>
        obtain ⟨p', e1, e2, e4⟩ := h
        refine ⟨p', e1, (if_neg hj).trans e2, e4.mono (Same.refl _) fun o' e => ?_⟩
        have : p' ≠ p := by rintro rfl; rw [e] at hb; cases hb
        rw [upd_ne this]; exact e
  nd := fun j l p' hj hl => by
    have back : ∀ l, OwnAt σ (ρ.set i (.ln d)) l p' → OwnAt σ ρ l p' := fun l hl => by
      obtain ⟨⟨d', h1⟩, h2⟩ := hl
      by_cases hli : l = i
      · subst hli
        rw [List.getElem?_set_self hi] at h1
        cases h1
      · rw [List.getElem?_set_ne (Ne.symm hli)] at h1
        exact ⟨⟨d', h1⟩, h2⟩
    exact s.nd j l p' (back j hj) (back l hl)
  lt := fun q hq => by
    rcases List.mem_cons.mp hq with rfl | hq
    · refine ⟨?_, o, upd_same⟩
      cases z : F q with
      | none => rfl
      | some u => rw [s.fb q u z] at hb; cases hb
    · obtain ⟨h1, o1, h2⟩ := s.lt q hq
      have : q ≠ p := by rintro rfl; rw [h2] at hb; cases hb
      exact ⟨h1, o1, by rw [upd_ne this]; exact h2⟩
  la := fun j q e => by
    by_cases hj : j = i
    · have e : (if j = i then some p else Z.L j) = some q := e
      rw [if_pos hj] at e
      cases e
      exact List.mem_cons_self
    · have e : (if j = i then some p else Z.L j) = some q := e
      rw [if_neg hj] at e
      exact List.mem_cons_of_mem _ (s.la j q e)
theorem hide_none {B : Hp} {p a : Addr} (h : B a = none) : hide B p a = none := by
  by_cases e : a = p
  · exact if_pos e
  · rw [hide_ne e]; exact h
theorem SR.back {i : Nat} {p : Addr} {d : D} {c : Sl} (s : SR G (lendZ Z i p) F B H σ ρ) (hi : ρ[i]? = some (.ln d)) (hzb : Z.B p = none) (hla : ∀ q ∈ Z.LA, q ≠ p) (hL : ∀ j q, Z.L j = some q → q ∈ Z.LA)
    (hc : (c = .ow d ∧ Z.H p = none) ∨ (c = .mu d ∧ Z.M i = some p)) : SR G Z F (hide B p) H σ (ρ.set i c) := by
  have hp : F p = none ∧ ∃ o, B p = some o := s.lt p List.mem_cons_self
  obtain ⟨hf, o, hb⟩ := hp
  have hlt : i < ρ.length := (List.getElem?_eq_some_iff.mp hi).1
  obtain ⟨p1, v1, v2, v3⟩ := s.sl i _ hi
  have v2 : (if i = i then some p else Z.L i) = some p1 := v2
  rw [if_pos rfl] at v2
  cases v2
  refine ⟨fun a u e => ?_, fun a u e => ?_, s.zf, fun a u e => ?_, fun a ha => ⟨(s.zo a ha).1, fun hq => ?_⟩, s.zh, s.zk, s.mm, s.md, by rw [List.length_set]; exact s.len, fun j t ht => ?_, fun j l p' hj hl => ?_, fun q hq => ?_, hL⟩
  · have : a ≠ p := by rintro rfl; rw [e] at hf; cases hf
    rw [hide_ne this]; exact s.fb a u e
  · by_cases h : a = p
    · subst h; rw [hide_self] at e; cases e
    · rw [hide_ne h] at e; exact s.bh a u e
  · have : a ≠ p := by rintro rfl; rw [e] at hzb; cases hzb
    rw [hide_ne this]; exact s.zb a u e
  · by_cases h : a = p
    · rw [h, hide_self, hzb]
    · rw [hide_ne h]
      refine (s.zo a ha).2 fun z => ?_
      rcases List.mem_cons.mp z with z | z
      · exact h z
      · exact hq z
  · by_cases hj : j = i
    · subst hj
      rw [List.getElem?_set_self hlt] at ht
      cases ht
      rcases hc with ⟨rfl, hz⟩ | ⟨rfl, hz⟩
      · exact ⟨p, v1, hz, hide_self, v3.mono (Same.refl _) (s.bh p)⟩
      · exact ⟨p, v1, hz, hide_self, v3.mono (Same.refl _) (s.bh p)⟩
    · rw [List.getElem?_set_ne (Ne.symm hj)] at ht
      have h := s.sl j t ht
      cases t with
      | un => trivial
      | sh d' => exact h
      | bo d' => exact h
      | ow d' =>
        obtain ⟨p', e1, e2, e3, e4⟩ := h
        exact ⟨p', e1, e2, hide_none e3, e4⟩
      | mu d' =>
        obtain ⟨p', e1, e2, e3, e4⟩ := h
        exact ⟨p', e1, e2, hide_none e3, e4⟩
      | ln d' =>
        obtain ⟨p', e1, e2, e4⟩ := h
        have e2 : (if j = i then some p else Z.L j) = some p' := e2
        rw [if_neg hj] at e2
        refine ⟨p', e1, e2, e4.mono (Same.refl _) fun o' e => ?_⟩
        rw [hide_ne (hla p' (hL j p' e2))]; exact e
  · have key : ∀ l, OwnAt σ (ρ.set i c) l p' → (l = i ∧ p' = p) ∨ (l ≠ i ∧ OwnAt σ ρ l p') := fun l hl => by
      obtain ⟨⟨d', h1⟩, h2⟩ := hl
      by_cases hli : l = i
      · refine .inl ⟨hli, ?_⟩
        subst hli
        rw [h2] at v1
        injection v1 with v1
        injection v1
      · rw [List.getElem?_set_ne (Ne.symm hli)] at h1
        exact .inr ⟨hli, ⟨d', h1⟩, h2⟩
    have no : ∀ l, OwnAt σ ρ l p' → p' ≠ p := fun l hl z => by
      have := (s.own_there hl).2
      rw [z, hb] at this
      cases this
    rcases key j hj with ⟨a1, a2⟩ | ⟨a1, a2⟩
    · rcases key l hl with ⟨b1, b2⟩ | ⟨b1, b2⟩
      · rw [a1, b1]
      · exact absurd a2 (no l b2)
    · rcases key l hl with ⟨b1, b2⟩ | ⟨b1, b2⟩
      · exact absurd b2 (no j a2)
      · exact s.nd j l p' a2 b2
  · obtain ⟨h1, o1, h2⟩ := s.lt q (List.mem_cons_of_mem _ hq)
    exact ⟨h1, o1, by rw [hide_ne (hla q hq)]; exact h2⟩
theorem unLn_some {i : Nat} {c : D → Sl} {ρ ρ' : En} (h : Ej i c ρ = some ρ') : ∃ d, ρ[i]? = some (.ln d) ∧ ρ' = ρ.set i (c d) := by
  unfold Ej at h
  split at h
  · rename_i d e
    exact ⟨d, e, (Option.some.inj h).symm⟩
  · cases h
theorem lend_post {i : Nat} {p : Addr} {o : HO} {E : Ends} {c : D → Sl} (hb : B p = none) (hzb : Z.B p = none) (hla : ∀ q ∈ Z.LA, q ≠ p) (hL : ∀ j q, Z.L j = some q → q ∈ Z.LA)
    (hc : ∀ d, (c d = .ow d ∧ Z.H p = none) ∨ (c d = .mu d ∧ Z.M i = some p)) : ∀ {r r' : Out}, Out.upE (Ej i c) r = some r' → PostS G W Z F B E r' → PostS G W (lendZ Z i p) F (upd B p o) E r := by
  have gr : ∀ {F1 B1 : Hp}, Gro F (upd B p o) F1 B1 → Gro F B F1 (hide B1 p) := fun {F1 B1} y => ⟨y.f, fun a u e => by
    have h : a ≠ p := by rintro rfl; rw [e] at hb; cases hb
    rw [hide_ne h]
    exact y.b a u (by rw [upd_ne h]; exact e)⟩
  intro r r' hr q
  cases r with
  | nx ρ1 =>
    obtain ⟨ρ2, e1, rfl⟩ := Option.map_eq_some_iff.mp hr
    obtain ⟨d, e2, rfl⟩ := unLn_some e1
    exact fun F1 B1 H1 σ1 s1 y => q F1 _ H1 σ1 (s1.back e2 hzb hla hL (hc d)) (gr y)
  | bk ρ1 =>
    obtain ⟨ρ2, e1, rfl⟩ := Option.map_eq_some_iff.mp hr
    obtain ⟨d, e2, rfl⟩ := unLn_some e1
    exact fun F1 B1 H1 σ1 s1 y => q F1 _ H1 σ1 (s1.back e2 hzb hla hL (hc d)) (gr y)
  | ct ρ1 =>
    obtain ⟨ρ2, e1, rfl⟩ := Option.map_eq_some_iff.mp hr
    obtain ⟨d, e2, rfl⟩ := unLn_some e1
    exact fun F1 B1 H1 σ1 s1 y => q F1 _ H1 σ1 (s1.back e2 hzb hla hL (hc d)) (gr y)
  | er x ρ1 =>
    obtain ⟨ρ2, e1, rfl⟩ := Option.map_eq_some_iff.mp hr
    obtain ⟨d, e2, rfl⟩ := unLn_some e1
    exact fun F1 B1 H1 σ1 cls dx s1 y xr => q F1 _ H1 σ1 cls dx (s1.back e2 hzb hla hL (hc d)) (gr y) xr
  | rt kd dd ρ1 =>
    obtain ⟨ρ2, e1, rfl⟩ := Option.map_eq_some_iff.mp hr
    obtain ⟨d, e2, rfl⟩ := unLn_some e1
    refine fun F1 B1 H1 σ1 v s1 y rv => q F1 _ H1 σ1 v (s1.back e2 hzb hla hL (hc d)) (gr y) ?_
    cases kd with
    | fresh =>
      have rv : (if dd.isMut = true then ∃ p', v = .ref p' ∧ Z.H p' = none ∧ B1 p' = none ∧ OwnO G F1 H1 p' dd else Rep G F1 dd v) := rv
      show (if dd.isMut = true then ∃ p', v = .ref p' ∧ Z.H p' = none ∧ hide B1 p p' = none ∧ OwnO G F1 H1 p' dd else Rep G F1 dd v)
      by_cases hm : dd.isMut = true
      · rw [if_pos hm] at rv ⊢
        obtain ⟨p', e1, e2, e3, e4⟩ := rv
        exact ⟨p', e1, e2, hide_none e3, e4⟩
      · rw [if_neg hm] at rv ⊢
        exact rv
    | shared => exact rv
    | peek => exact rv
    | borrow => exact rv
theorem js_lend (i : Nat) (h : JS G k W N sc st g) : JS G k W N sc st (Be i g) := by
  obtain ⟨t, a1, a2⟩ := h
  refine ⟨t, a1, fun Z F B H σ ρ s o ho E q => ?_⟩
  unfold Be at ho
  split at ho
  · rename_i d e
    obtain ⟨r, er, eo⟩ := Option.bind_eq_some_iff.mp ho
    obtain ⟨p, e1, e2, e3, e4⟩ := s.sl i _ e
    obtain ⟨ob, hob⟩ := e4.there
    have hat : OwnAt σ ρ i p := ⟨⟨d, e⟩, s.at e e1⟩
    have hzb : Z.B p = none := by
      cases z : Z.B p with
      | none => rfl
      | some u => rw [s.zb p u z] at e3; cases e3
    have hla : ∀ q ∈ Z.LA, q ≠ p := fun q hq z => by
      obtain ⟨_, o1, h2⟩ := s.lt q hq
      rw [z, e3] at h2
      cases h2
    refine a2 (lendZ Z i p) F (upd B p ob) H σ _ (s.lend (List.getElem?_eq_some_iff.mp e).1 e1 e3 hob e4 fun j d' p' hj hk hv h1 h2 => ?_) r er E (lend_post e3 hzb hla s.la (fun _ => .inl ⟨rfl, e2⟩) eo q)
    rintro rfl
    rcases hk with hk | hk
    · exact hj (s.nd j i p' (h1 hk) hat)
    · exact (s.mm j p' (h2 hk)).1 e2
  · rename_i d e
    obtain ⟨r, er, eo⟩ := Option.bind_eq_some_iff.mp ho
    obtain ⟨p, e1, e2, e3, e4⟩ := s.sl i _ e
    obtain ⟨ob, hob⟩ := e4.there
    have hzb : Z.B p = none := (s.mm i p e2).2
    have hla : ∀ q ∈ Z.LA, q ≠ p := fun q hq z => by
      obtain ⟨_, o1, h2⟩ := s.lt q hq
      rw [z, e3] at h2
      cases h2
    refine a2 (lendZ Z i p) F (upd B p ob) H σ _ (s.lend (List.getElem?_eq_some_iff.mp e).1 e1 e3 hob e4 fun j d' p' hj hk hv h1 h2 => ?_) r er E (lend_post e3 hzb hla s.la (fun _ => .inr ⟨rfl, e2⟩) eo q)
    rintro rfl
    rcases hk with hk | hk
    · obtain ⟨p3, f1, f2, _⟩ := s.sl j _ hk
      rw [hv] at f1
      cases f1
      exact (s.mm i p' e2).1 f2
    · exact hj (s.md j i p' (h2 hk) e2)
  · exact a2 Z F B H σ ρ s o ho E q
end
end DL
namespace DL
open PySem PySem.Spec L2
theorem slot_app : Slot "list" "append" "list.append" :=
  .of (owner := "list") (n := "append") (by rw [typeLookup_type, builtinLookup_eq_fast]; kernel_rfl) (by decide +kernel) (by decide +kernel) (by decide +kernel) (by first | exact .inl (by decide +kernel) | exact .inr (by decide +kernel)) (by rw [isSubtype_type]; kernel_rfl)
theorem ty_app : typeOf (.builtin "list.append") = pure (.type "method_descriptor") := by
  show builtinType _ = _
  rw [builtinType_eq_fast]
  kernel_rfl
theorem slot_ins : Slot "list" "insert" "list.insert" :=
  .of (owner := "list") (n := "insert") (by rw [typeLookup_type, builtinLookup_eq_fast]; kernel_rfl) (by decide +kernel) (by decide +kernel) (by decide +kernel) (by first | exact .inl (by decide +kernel) | exact .inr (by decide +kernel)) (by rw [isSubtype_type]; kernel_rfl)
theorem ty_ins : typeOf (.builtin "list.insert") = pure (.type "method_descriptor") := by
  show builtinType _ = _
  rw [builtinType_eq_fast]
  kernel_rfl
theorem boot_int : bootBuiltins "int" = some (.type "int") := by decide +kernel
theorem boot_bool : bootBuiltins "bool" = some (.type "bool") := by decide +kernel
theorem boot_str : bootBuiltins "str" = some (.type "str") := by decide +kernel
theorem boot_list : bootBuiltins "list" = some (.type "list") := by decide +kernel
theorem boot_tuple : bootBuiltins "tuple" = some (.type "tuple") := by decide +kernel
theorem bindsAll {K : PySem.W.Frag} {x qual : Str} {params : Arguments} {body : List Stmt} {scope : Scope} {dvs : List V} {kws : List (Str × V)} {f : Addr} {fd : FuncData} {ps : List Str} (F : FunD K x qual params body scope dvs kws f fd) (hd : dvs ≠ [])
    (h : ∀ (T : Addr) (kV doc pm : Value) (an : Option Addr) (cdv ct : Value) (us its : List Value), us.length = ps.length → its.length = dvs.length →
      ∃ k, bindArgs (PySem.W.fnOf x qual params body scope (.ref T) kV doc pm an cdv ct) ⟨us, []⟩ = seqItems? (.ref T) >>= k ∧ k (some its.toArray) = pure (ps.zip us)) : Binds K fd ps [] := by
  obtain ⟨ds, hv, hb⟩ := F.binds1 (ps := ps) ps.length dvs.length hd (by omega) fun T kV doc pm an cdv ct us its hu hi => by
    obtain ⟨k, e1, e2⟩ := h T kV doc pm an cdv ct us its hu hi
    refine ⟨k, e1, ?_⟩
    rw [e2, show its.drop dvs.length = [] by rw [← hi]; exact List.drop_length, List.append_nil]
  rw [List.drop_length] at hv
  cases hv
  exact hb
def spLw (K : PySem.W.Frag) : Sp := fun vs H Q _ => ∃ (a : Addr) (ns : List Int), vs = [.ref a] ∧ SqL K H a (ns.map V.int) ∧ ns.length ≤ 63 ∧ ∀ H', Q (.bl true) H'
theorem law_imp {G : Gm} {Fn : List D → Option FOut} (h : ∀ ns : List Int, ns.length ≤ 63 → ∃ fr, Fn [.scr ns] = some (.ret fr (.bl true) [])) (vs : List V) (H : Hp) (Q : VK) (E : XK) (q : spLw G.K vs H Q E) : spD G [.bo] Fn vs H Q E := by
  obtain ⟨a, ns, rfl, hS, hl, hQ⟩ := q
  obtain ⟨F, ds, h1, h2, h3, o, h4, h5⟩ := law_sp (E := E) hS (h ns hl)
  refine ⟨F, ds, h1, h2, h3, o, h4, ?_⟩
  cases o with
  | ret fr d ms =>
    intro F' H' v ha hv hm
    have e : v = .bl true := h5 F' H' v ha hv hm
    rw [e]
    exact hQ H'
  | exc x ms =>
    intro F' H' cls dx ha hv hm
    have := h5 F' H' cls dx ha hv hm
    obtain ⟨fr, e⟩ := h ns hl
    obtain ⟨F2, ds2, _, _, p2, _⟩ := law_sp (G := G) (E := E) hS ⟨fr, e⟩
    exact this
end DL
namespace DL
open PySem PySem.Spec L2
theorem loop_inv {h : D → En → Option En} {g : SO} (P : Nat → En → Prop) : ∀ (items : List D) (n : Nat) (ρ : En), P n ρ →
    (∀ i d ρ, items[i]? = some d → P (n + i) ρ → ∃ ρ1 ρ2, h d ρ = some ρ1 ∧ (g ρ1 = some (.nx ρ2) ∨ g ρ1 = some (.ct ρ2)) ∧ P (n + i + 1) ρ2) →
    ∃ ρ', loopG h g items ρ = some (.nx ρ') ∧ P (n + items.length) ρ'
  | [], n, ρ, h0, _ => ⟨ρ, rfl, h0⟩
  | d :: ds, n, ρ, h0, st => by
    obtain ⟨ρ1, ρ2, e1, e2, p⟩ := st 0 d ρ rfl h0
    obtain ⟨ρ', e, q⟩ := loop_inv (h := h) (g := g) P ds (n + 1) ρ2 p fun i d' ρ hi hp => by
      have := st (i + 1) d' ρ hi (by rw [show n + (i + 1) = n + 1 + i by omega]; exact hp)
      rw [show n + (i + 1) + 1 = n + 1 + i + 1 by omega] at this
      exact this
    refine ⟨ρ', ?_, ?_⟩
    · unfold loopG
      rw [e1]
      rcases e2 with e2 | e2 <;> (simp only [e2]; exact e)
    · rw [List.length_cons, show n + (ds.length + 1) = n + 1 + ds.length by omega]
      exact q
theorem loop_inv0 {h : D → En → Option En} {g : SO} (P : Nat → En → Prop) (items : List D) (ρ : En) (h0 : P 0 ρ)
    (st : ∀ i d ρ, items[i]? = some d → P i ρ → ∃ ρ1 ρ2, h d ρ = some ρ1 ∧ (g ρ1 = some (.nx ρ2) ∨ g ρ1 = some (.ct ρ2)) ∧ P (i + 1) ρ2) :
    ∃ ρ', loopG h g items ρ = some (.nx ρ') ∧ P items.length ρ' := by
  have := loop_inv (h := h) (g := g) P items 0 ρ h0 (by simpa using st)
  simpa using this
theorem rngD_len (lo hi : Int) : (rngD lo hi).length = (hi - lo).toNat := by simp [rngD]
theorem rngD_at {lo hi : Int} {i : Nat} {d : D} (h : (rngD lo hi)[i]? = some d) : d = .int (lo + i) ∧ i < (hi - lo).toNat := by
  unfold rngD at h
  rw [List.getElem?_map] at h
  cases e : (List.range (hi - lo).toNat)[i]? with
  | none => rw [e] at h; cases h
  | some j =>
    rw [e] at h
    obtain ⟨hj, e2⟩ := List.getElem?_eq_some_iff.mp e
    rw [List.length_range] at hj
    rw [List.getElem_range] at e2
    subst e2
    exact ⟨(Option.some.inj h).symm, hj⟩
theorem two64 : (2 : Int) ^ 64 = 18446744073709551616 := by decide +kernel
theorem cMul_a {i j : Int} (h1 : -18446744073709551616 < i) (h2 : i < 18446744073709551616) : cMul i j = true := by
  unfold cMul
  rw [two64]
  simp [h1, h2]
theorem cMul_b {i j : Int} (h1 : -18446744073709551616 < j) (h2 : j < 18446744073709551616) : cMul i j = true := by
  unfold cMul
  rw [two64]
  simp [h1, h2]
theorem Ae : D.pow (.int 10) (.int 18) = some (.int 1000000000000000000) := by kernel_rfl
theorem gSeq_nx {g h : SO} {ρ ρ' : En} (e : g ρ = some (.nx ρ')) : Ca g h ρ = h ρ' := by
  unfold Ca
  rw [e]
theorem if_or (a b : En → M Bool) (g h : SO) : Fd (Ff a b) g h = Fd a g (Fd b g h) := by
  funext ρ
  unfold Fd Cw Ff M.bnd
  cases e : a ρ with
  | none => rfl
  | some r =>
    cases r with
    | error x => rfl
    | ok t => cases t <;> rfl
theorem if_not (a : En → M Bool) (g h : SO) : Fd (Cz a) g h = Fd a h g := by
  funext ρ
  unfold Fd Cw Cz M.bnd
  cases e : a ρ with
  | none => rfl
  | some r =>
    cases r with
    | error x => rfl
    | ok t => cases t <;> rfl
theorem atI_nat {α : Type} {l : List α} {k : Nat} (h : k < l.length) : atI l (k : Int) = some l[k] := by
  unfold atI
  have h1 : ixN l.length (k : Int) = some k := by
    unfold ixN
    rw [if_pos (by omega)]
    simp [h]
  rw [h1]
  exact List.getElem?_eq_getElem h
theorem Ak (i j : Int) : D.add (.int i) (.int j) = some (.int (i + j)) := by exact id rfl
theorem add_ll {x y : List D} (h : x.length + y.length ≤ 16000000) : D.add (.lst x) (.lst y) = some (.lst (x ++ y)) := by
  show ((none : Option D).or ((none : Option D).or ((if x.length + y.length ≤ LIM then some (D.lst (x ++ y)) else none).or none))) = _
  rw [if_pos h]
  rfl
theorem add_tt {x y : List D} (h : x.length + y.length ≤ 16000000) : D.add (.tup x) (.tup y) = some (.tup (x ++ y)) := by
  show ((none : Option D).or ((if x.length + y.length ≤ LIM then some (D.tup (x ++ y)) else none).or _)) = _
  rw [if_pos h]
  rfl
theorem Al (i j : Int) : D.sub (.int i) (.int j) = some (.int (i - j)) := by exact id rfl
theorem Am {i j : Int} (h : 0 < j) : D.mod (.int i) (.int j) = some (.int (i % j)) := by
  show (if cMod i j = true then some (D.int (i % j)) else none) = _
  rw [if_pos (by unfold cMod; exact decide_eq_true h)]
theorem An {i j : Int} (h : 0 < j) (h2 : j < 1073741824) : D.div (.int i) (.int j) = some (.int (i / j)) := by
  show (if cDiv i j = true then some (D.int (i / j)) else none) = _
  rw [if_pos (by unfold cDiv; rw [decide_eq_true h, decide_eq_true h2]; rfl)]
theorem mul_ii {i j : Int} (h : cMul i j = true) : D.mul (.int i) (.int j) = some (.int (i * j)) := by
  show (if cMul i j = true then some (D.int (i * j)) else none).or _ = _
  rw [if_pos h]
  rfl
theorem Ai {i j : Int} (h1 : -18446744073709551616 < i) (h2 : i < 18446744073709551616) : D.mul (.int i) (.int j) = some (.int (i * j)) := mul_ii (cMul_a h1 h2)
theorem Ao {i j : Int} (h1 : -18446744073709551616 < j) (h2 : j < 18446744073709551616) : D.mul (.int i) (.int j) = some (.int (i * j)) := mul_ii (cMul_b h1 h2)
theorem Bo (i j : Int) : D.lt (.int i) (.int j) = some (.bl (decide (i < j))) := by exact id rfl
theorem Bp (i j : Int) : D.le (.int i) (.int j) = some (.bl (decide (i ≤ j))) := by exact id rfl
theorem Bq (i j : Int) : D.gt (.int i) (.int j) = some (.bl (decide (j < i))) := by exact id rfl
theorem Br (i j : Int) : D.ge (.int i) (.int j) = some (.bl (decide (j ≤ i))) := by exact id rfl
theorem Bs (i : Int) : D.neg (.int i) = some (.int (-i)) := by exact id rfl
theorem Bm (i : Int) : D.abs [.int i] = some (.int (if i < 0 then -i else i)) := by exact id rfl
theorem Bn (i : Int) : D.int1 [.int i] = some (.int i) := by exact id rfl
theorem Ad (l : List D) : itemsD (.lst l) = some l := by exact id rfl
theorem Af (l : List D) : itemsD (.tup l) = some l := by exact id rfl
theorem compG_map {α : Type} {h : D → En → Option En} {gc : En → M Bool} {fe : En → M D} {ρ : En} (enc : α → D) (p : α → Bool) (f : α → D) : ∀ (items : List α),
    (∀ a ∈ items, ∃ ρ1, h (enc a) ρ = some ρ1 ∧ gc ρ1 = some (.ok (p a)) ∧ (p a = true → fe ρ1 = some (.ok (f a)))) → compG h gc fe ρ (items.map enc) = some ((items.filter p).map f)
  | [], _ => rfl
  | a :: as, H => by
    obtain ⟨ρ1, e1, e2, e3⟩ := H a List.mem_cons_self
    have ih := compG_map enc p f as fun b hb => H b (List.mem_cons_of_mem _ hb)
    rw [List.map_cons]
    unfold compG
    rw [e1, Option.bind_some]
    simp only [e2]
    cases hp : p a with
    | true => simp only [e3 hp, ih, List.filter_cons_of_pos hp, List.map_cons, Option.map_some]
    | false =>
      have hn : ¬ p a = true := by rw [hp]; decide
      simp only [ih, List.filter_cons_of_neg hn]
theorem compG_all {α : Type} {h : D → En → Option En} {fe : En → M D} {ρ : En} (enc : α → D) (f : α → D) (items : List α) (H : ∀ a ∈ items, ∃ ρ1, h (enc a) ρ = some ρ1 ∧ fe ρ1 = some (.ok (f a))) : compG h Cd fe ρ (items.map enc) = some (items.map f) := by
  have := compG_map (h := h) (gc := Cd) (fe := fe) (ρ := ρ) enc (fun _ => true) f items fun a ha => by
    obtain ⟨ρ1, e1, e2⟩ := H a ha
    exact ⟨ρ1, e1, rfl, fun _ => e2⟩
  rw [this, List.filter_eq_self.mpr (fun _ _ => rfl)]
theorem comp2G_map {α β : Type} {h h1 : D → En → Option En} {gc gc1 : En → M Bool} {fi1 : En → M (List D)} {fe : En → M D} {vs1 : List Nat} {ρ : En} (enc : α → D) (enc1 : β → D) (p : α → Bool) (sub : α → List β) (q : α → β → Bool) (f : α → β → D) : ∀ (items : List α),
    (∀ a ∈ items, ∃ ρ1, h (enc a) ρ = some ρ1 ∧ gc ρ1 = some (.ok (p a)) ∧ (p a = true → fi1 ρ1 = some (.ok ((sub a).map enc1)) ∧
      ∀ b ∈ sub a, ∃ ρ2, h1 (enc1 b) (Cb ρ1 vs1) = some ρ2 ∧ gc1 ρ2 = some (.ok (q a b)) ∧ (q a b = true → fe ρ2 = some (.ok (f a b))))) →
    comp2G h gc fi1 h1 gc1 fe vs1 ρ (items.map enc) = some ((items.filter p).flatMap fun a => ((sub a).filter (q a)).map (f a))
  | [], _ => rfl
  | a :: as, H => by
    obtain ⟨ρ1, e1, e2, e3⟩ := H a List.mem_cons_self
    have ih := comp2G_map enc enc1 p sub q f as fun b hb => H b (List.mem_cons_of_mem _ hb)
    rw [List.map_cons]
    unfold comp2G
    rw [e1, Option.bind_some]
    simp only [e2]
    cases hp : p a with
    | true =>
      obtain ⟨e4, e5⟩ := e3 hp
      simp only [e4, compG_map enc1 (q a) (f a) (sub a) e5, ih, List.filter_cons_of_pos hp, List.flatMap_cons, Option.bind_some, Option.map_some]
    | false =>
      have hn : ¬ p a = true := by rw [hp]; decide
      simp only [ih, List.filter_cons_of_neg hn]
theorem limL_ok {l : List D} (h : l.length ≤ 16000000) : limL (some l) = some (.ok (.lst l)) := by
  unfold limL
  exact if_pos h
theorem rngD_map (n : Nat) : rngD 0 (n : Int) = (List.range n).map fun (i : Nat) => D.int (i : Int) := by
  unfold rngD
  rw [show ((n : Int) - 0).toNat = n by omega]
  refine List.map_congr_left fun i _ => ?_
  rw [Int.zero_add]
end DL
namespace DL
open PySem PySem.Spec L2
structure EqEnc {α : Type} [DecidableEq α] (enc : α → D) (n : Nat) : Prop where
  ex : ∀ a, ∃ p, toP (enc a) = some p ∧ PyData.canLay0 p = true ∧ PyData.depth p ≤ n
  eq : ∀ a b p q, toP (enc a) = some p → toP (enc b) = some q → PyData.eqv p q = decide (a = b)
section
variable {α β : Type} [DecidableEq α] [DecidableEq β] {enc : α → D} {enc2 : β → D} {n n2 : Nat}
theorem EqEnc.int : EqEnc D.int 1 where
  ex := fun a => ⟨.int a, by unfold toP; rfl, by unfold PyData.canLay0; rfl, by unfold PyData.depth; omega⟩
  eq := fun a b p q hp hq => by
    unfold toP at hp hq
    cases hp
    cases hq
    unfold PyData.eqv
    rfl
theorem EqEnc.alls (h : EqEnc enc n) : ∀ l : List α, ∃ ps, toPs (l.map enc) = some ps ∧ PyData.canLayAll0 ps = true ∧ PyData.depthAll ps ≤ n
  | [] => ⟨[], by unfold toPs; rfl, by unfold PyData.canLayAll0; rfl, by unfold PyData.depthAll; omega⟩
  | a :: l => by
    obtain ⟨p, e1, e2, e3⟩ := h.ex a
    obtain ⟨ps, f1, f2, f3⟩ := h.alls l
    refine ⟨p :: ps, ?_, ?_, ?_⟩
    · rw [List.map_cons]
      unfold toPs
      rw [e1, f1]
    · unfold PyData.canLayAll0
      rw [e2, f2]
      rfl
    · unfold PyData.depthAll
      omega
theorem toPs_cons {d : D} {ds : List D} {qs : List PyData} (h : toPs (d :: ds) = some qs) : ∃ p ps, toP d = some p ∧ toPs ds = some ps ∧ qs = p :: ps := by
  unfold toPs at h
  cases e : toP d with
  | none => rw [e] at h; cases h
  | some p =>
    rw [e] at h
    cases e2 : toPs ds with
    | none => rw [e2] at h; cases h
    | some ps => rw [e2] at h; exact ⟨p, ps, rfl, rfl, (Option.some.inj h).symm⟩
theorem EqEnc.allEq (h : EqEnc enc n) : ∀ (l m : List α) (ps qs : List PyData), toPs (l.map enc) = some ps → toPs (m.map enc) = some qs → PyData.eqvAll ps qs = decide (l = m)
  | [], [], ps, qs, hp, hq => by
    unfold List.map toPs at hp hq
    cases hp
    cases hq
    unfold PyData.eqvAll
    rfl
  | [], b :: m, ps, qs, hp, hq => by
    obtain ⟨q, qs', _, _, rfl⟩ := toPs_cons hq
    unfold List.map toPs at hp
    cases hp
    unfold PyData.eqvAll
    simp
  | a :: l, [], ps, qs, hp, hq => by
    obtain ⟨q, qs', _, _, rfl⟩ := toPs_cons hp
    unfold List.map toPs at hq
    cases hq
    unfold PyData.eqvAll
    simp
  | a :: l, b :: m, ps, qs, hp, hq => by
    obtain ⟨p, ps', e1, e2, rfl⟩ := toPs_cons hp
    obtain ⟨q, qs', f1, f2, rfl⟩ := toPs_cons hq
    unfold PyData.eqvAll
    rw [h.eq a b p q e1 f1, h.allEq l m ps' qs' e2 f2]
    by_cases h1 : a = b <;> by_cases h2 : l = m <;> simp [h1, h2]
theorem EqEnc.tup (h : EqEnc enc n) : EqEnc (fun l : List α => D.tup (l.map enc)) (n + 1) where
  ex := fun l => by
    obtain ⟨ps, e1, e2, e3⟩ := h.alls l
    refine ⟨.tuple ps, ?_, ?_, ?_⟩
    · unfold toP
      rw [e1]
      rfl
    · unfold PyData.canLay0
      exact e2
    · unfold PyData.depth
      omega
  eq := fun a b p q hp hq => by
    unfold toP at hp hq
    obtain ⟨ps, e1, rfl⟩ := Option.map_eq_some_iff.mp hp
    obtain ⟨qs, e2, rfl⟩ := Option.map_eq_some_iff.mp hq
    unfold PyData.eqv
    exact h.allEq a b ps qs e1 e2
theorem EqEnc.lst (h : EqEnc enc n) : EqEnc (fun l : List α => D.lst (l.map enc)) (n + 1) where
  ex := fun l => by
    obtain ⟨ps, e1, e2, e3⟩ := h.alls l
    refine ⟨.list ps, ?_, ?_, ?_⟩
    · unfold toP
      rw [e1]
      rfl
    · unfold PyData.canLay0
      exact e2
    · unfold PyData.depth
      omega
  eq := fun a b p q hp hq => by
    unfold toP at hp hq
    obtain ⟨ps, e1, rfl⟩ := Option.map_eq_some_iff.mp hp
    obtain ⟨qs, e2, rfl⟩ := Option.map_eq_some_iff.mp hq
    unfold PyData.eqv
    exact h.allEq a b ps qs e1 e2
theorem EqEnc.pair (h : EqEnc enc n) (h2 : EqEnc enc2 n2) : EqEnc (fun q : α × β => D.tup [enc q.1, enc2 q.2]) (max n n2 + 1) where
  ex := fun q => by
    obtain ⟨p, e1, e2, e3⟩ := h.ex q.1
    obtain ⟨p2, f1, f2, f3⟩ := h2.ex q.2
    refine ⟨.tuple [p, p2], ?_, ?_, ?_⟩
    · simp only [toP, toPs, e1, f1, Option.map_some]
    · simp only [PyData.canLay0, PyData.canLayAll0, e2, f2, Bool.and_self]
    · simp only [PyData.depth, PyData.depthAll]
      omega
  eq := fun a b p q hp hq => by
    unfold toP at hp hq
    obtain ⟨ps, e1, rfl⟩ := Option.map_eq_some_iff.mp hp
    obtain ⟨qs, e2, rfl⟩ := Option.map_eq_some_iff.mp hq
    obtain ⟨p1, ps1, a1, a2, rfl⟩ := toPs_cons e1
    obtain ⟨p2, ps2, a3, a4, rfl⟩ := toPs_cons a2
    obtain ⟨q1, qs1, b1, b2, rfl⟩ := toPs_cons e2
    obtain ⟨q2, qs2, b3, b4, rfl⟩ := toPs_cons b2
    unfold toPs at a4 b4
    cases a4
    cases b4
    simp only [PyData.eqv, PyData.eqvAll, h.eq a.1 b.1 p1 q1 a1 b1, h2.eq a.2 b.2 p2 q2 a3 b3, Bool.and_true]
    obtain ⟨x, y⟩ := a
    obtain ⟨z, w⟩ := b
    by_cases h1 : x = z <;> by_cases h2 : y = w <;> simp [h1, h2]
theorem EqEnc.shaped (h : EqEnc enc n) (hn : n ≤ 64) (a : α) : ∃ p, toP (enc a) = some p ∧ SeqAt.shaped p = true := by
  obtain ⟨p, e1, e2, e3⟩ := h.ex a
  refine ⟨p, e1, ?_⟩
  unfold SeqAt.shaped
  rw [e2, decide_eq_true (Nat.le_trans e3 hn)]
  rfl
theorem EqEnc.eqd (h : EqEnc enc n) (hn : n ≤ 64) (a b : α) : D.eqd (enc a) (enc b) = some (decide (a = b)) := by
  obtain ⟨p, e1, e2⟩ := h.shaped hn a
  obtain ⟨q, f1, f2⟩ := h.shaped hn b
  unfold D.eqd
  rw [e1, f1]
  show (if SeqAt.shaped p = true ∧ SeqAt.shaped q = true then some (PyData.eqv p q) else none) = _
  rw [if_pos ⟨e2, f2⟩, h.eq a b p q e1 f1]
theorem EqEnc.deq (h : EqEnc enc n) (hn : n ≤ 64) (a b : α) : D.eq (enc a) (enc b) = some (.bl (decide (a = b))) := by
  unfold D.eq
  rw [h.eqd hn a b]
  rfl
theorem EqEnc.dne (h : EqEnc enc n) (hn : n ≤ 64) (a b : α) : D.ne (enc a) (enc b) = some (.bl (!decide (a = b))) := by
  unfold D.ne
  rw [h.eqd hn a b]
  rfl
theorem EqEnc.any (h : EqEnc enc n) (a : α) {p : PyData} (hp : toP (enc a) = some p) : ∀ (l : List α) (qs : List PyData), toPs (l.map enc) = some qs → (qs.any fun z => PyData.eqv z p) = decide (a ∈ l)
  | [], qs, hq => by
    unfold List.map toPs at hq
    cases hq
    simp
  | b :: l, qs, hq => by
    obtain ⟨q, qs', e1, e2, rfl⟩ := toPs_cons hq
    rw [List.any_cons, h.eq b a q p e1 hp, h.any a hp l qs' e2]
    by_cases h1 : b = a
    · subst h1; simp
    · have h2 : ¬ a = b := fun e => h1 e.symm
      by_cases h3 : a ∈ l <;> simp [h1, h2, h3]
theorem EqEnc.inn (h : EqEnc enc n) (hn : n < 64) (a : α) (l : List α) : D.inn (enc a) (.lst (l.map enc)) = some (.bl (decide (a ∈ l))) := by
  obtain ⟨p, e1, e2⟩ := h.shaped (Nat.le_of_lt hn) a
  obtain ⟨ps, f1, f2, f3⟩ := h.alls l
  have hs : SeqAt.shaped (.list ps) = true := by
    unfold SeqAt.shaped PyData.canLay0 PyData.depth
    rw [f2, decide_eq_true (show _ ≤ 64 by omega)]
    rfl
  show (((inD (enc a) (l.map enc)).or _).map D.bl) = _
  unfold inD
  rw [e1, f1]
  show (((if SeqAt.shaped p = true ∧ SeqAt.shaped (.list ps) = true then some (ps.any fun z => PyData.eqv z p) else none).or _).map D.bl) = _
  rw [if_pos ⟨e2, hs⟩, h.any a e1 l ps f1]
  rfl
end
theorem Co (i j : Int) : D.eq (.int i) (.int j) = some (.bl (decide (i = j))) := EqEnc.int.deq (by decide) i j
theorem Cp (i j : Int) : D.ne (.int i) (.int j) = some (.bl (!decide (i = j))) := EqEnc.int.dne (by decide) i j
theorem eq_tI (x y : List Int) : D.eq (.tup (x.map D.int)) (.tup (y.map D.int)) = some (.bl (decide (x = y))) := EqEnc.int.tup.deq (by decide) x y
theorem ix_l {l : List D} {i : Int} : ixL (.lst l) (.int i) = atI l i := by exact id rfl
theorem ix_t {l : List D} {i : Int} : ixL (.tup l) (.int i) = atI l i := by exact id rfl
theorem atI_at {α : Type} {l : List α} {k : Int} {x : α} (h0 : 0 ≤ k) (h : l[k.toNat]? = some x) : atI l k = some x := by
  have hk := (List.getElem?_eq_some_iff.mp h).1
  have e : k = (k.toNat : Int) := by omega
  rw [e, atI_nat hk]
  exact (List.getElem?_eq_getElem hk).symm.trans h
end DL
namespace DL
open PySem PySem.Spec L2
def OpRS (X : Cx) (f : Value → Value → Sem Value) (r : L2.St → R2) : Prop :=
  ∀ (pins : List (Addr × Obj)) (s : Shared) (σ : L2.St) (H : Hp) (x y : V) (v u : Value) (Q : VK), Inv X pins σ H s → RelV x v → RelV y u → r σ x y H Q → wpAny (model X.prog X.w) X.A (f v u) (EP X pins σ Q) X.xe s
def tOpS (r : L2.St → R2) (ta tb : TE) : TE := fun σ H Q => ta σ H fun x H1 => tb σ H1 fun y H2 => r σ x y H2 Q
section
variable {X : Cx} {a b : Expr} {ta tb : TE} {pos : Pos}
theorem pe_cmpS {op : CmpOp} {r : L2.St → R2} (ho : OpRS X (compareOp op) r) (ha : PE X a ta) (hb : PE X b tb) (hm : behindInMarks op b = false) : PE X (.Compare a [op] [b] pos) (tOpS r ta tb) :=
  ⟨fun pins s σ H Q I h => wpAny_Compare1 (thn (ha.run pins s σ H _ I h) fun v s1 ⟨x, H1, I1, r1, q1⟩ => thn (hb.run pins s1 σ H1 _ I1 q1) fun u s2 ⟨y, H2, I2, r2, q2⟩ => ho pins s2 σ H2 x y v u Q I2 r1 r2 q2) hm⟩
end
def rOwn2 (G : Gm) (C : Addr) (Fn : List D → Option FOut) (W : WX) (ok : V → Prop) : L2.St → R2 := fun σ x y H Q => ∃ a b dx fs dy gs, x = .ref a ∧ y = .ref b ∧ H a = some (.ins C dx fs) ∧ H b = some (.ins C dy gs) ∧
  spD G [.bo, .bo] Fn [x, y] H (fun v H' => ok v ∧ Q v H') (WE W σ)
def isBlV : V → Prop := fun v => ∃ t, v = .bl t
section
variable {G : Gm} {k j : Nat} {W : WX} {N : List Str} {sc : Scope} {X : Cx} {C ad : Addr} {fd : FuncData} {ps : List Str} {Fn : List D → Option FOut} {m : Str}
theorem own_cmp {op : CmpOp} (c : CnE G k W N sc X) (me : Meth G.K C m ad) (hm : m = (cmpInfo op).2.1) (hcm : ∀ v u, compareOp op v u = richCompare op v u) (ok : FnG G j ad fd ps [.bo, .bo] Fn) (hj : j ≤ k) (hb : Binds G.K fd ps []) :
    OpRS X (compareOp op) (rOwn2 G C Fn W isBlV) := by
  intro pins s σ H x y v u Q I rx ry h
  obtain ⟨a, b, dx, fs, dy, gs, rfl, rfl, ha, hb2, hsp⟩ := h
  cases rx
  cases ry
  obtain ⟨mA, J, _⟩ := ins_get I.hok ha
  obtain ⟨od, J, _⟩ := J.look
  obtain ⟨mB, J2, _⟩ := ins_get I.hok hb2
  obtain ⟨od2, J2, _⟩ := J2.look
  obtain ⟨m0, hF⟩ := I.fr
  subst hm
  rw [hcm]
  refine PySem.W.cmp_K (hu0 c) hF I.ok.mod.kin J J2.type (by unfold PySem.W.notFirst; simp) (by rw [c.hK]; exact me.at_) (by rw [c.hK]; exact me.fn) ?_
  refine wpAny_mono (run_fnSD (us := [.ref a, .ref b]) (vs := [.ref a, .ref b]) (Q := fun v H' => isBlV v ∧ Q v H') (E := fun σ => WE W σ) (c.fn ok) (c.room.mono hj) (by rw [c.hK]; exact hb) .nil (c.pass σ) I (.cons rfl (.cons rfl .nil)) hsp) (fun r s' hr => ?_) fun _ _ z => z
  obtain ⟨z, H', I', rz, ⟨t, rfl⟩, q⟩ := hr
  cases rz
  exact ⟨.bl t, H', I', rfl, q⟩
end
def Eu : D → Bool
  | .bl _ => true
  | _ => false
def outO (okD : D → Bool) : M D → M D
  | some (.ok d) => if okD d = true then some (.ok d) else none
  | o => o
def fOwn2 (c : Nat) (okD : D → Bool) (Fn : List D → Option FOut) (fa fb : En → M D) : En → M D := fun ρ => (fa ρ).bnd fun x => (fb ρ).bnd fun y => if (isObj c x && isObj c y) = true then outO okD (Cr (Fn [x, y])) else none
theorem outO_some {okD : D → Bool} {m : M D} {r : Except Xc D} (h : outO okD m = some r) : m = some r ∧ ∀ d, r = .ok d → okD d = true := by
  unfold outO at h
  split at h
  · rename_i d
    split at h
    · rename_i hk
      have e := Option.some.inj h
      subst e
      exact ⟨rfl, fun d' e => by cases e; exact hk⟩
    · cases h
  · rename_i hne
    refine ⟨h, fun d e => ?_⟩
    subst e
    exact absurd h (hne d)
section
variable {G : Gm} {k j : Nat} {W : WX} {N : List Str} {sc : Scope} {C ad : Addr} {fd : FuncData} {ps : List Str} {Fn : List D → Option FOut} {m : Str} {a b : Expr} {fa fb : En → M D} {pos : Pos}
theorem spec_own2 {c : Nat} {ns : List Str} {ta tb : TE} {okD : D → Bool} {ok : V → Prop} (hct : G.ct c = some (C, ns)) (hok : ∀ (d : D) (B H F' H' : Hp) (v : V), okD d = true → KR G .fresh H F' B H' d v → ok v) (a2 : SpecE G W .peek ta fa) (b2 : SpecE G W .peek tb fb) :
    SpecE G W .fresh (tOpS (rOwn2 G C Fn W ok) ta tb) (fOwn2 c okD Fn fa fb) := by
  intro Z F B H σ ρ s r hr Q q
  rcases bnd_some hr with ⟨x, ex, hr⟩ | ⟨x, ex, rfl⟩
  · refine a2 Z F B H σ ρ s _ ex _ fun F1 B1 H1 v1 u1 k1 => ?_
    rcases bnd_some hr with ⟨y, ey, hr⟩ | ⟨y, ey, rfl⟩
    · refine b2 Z F1 B1 H1 σ ρ (s.up u1) _ ey _ fun F2 B2 H2 v2 u2 k2 => ?_
      split at hr
      · rename_i hob
        obtain ⟨h1, h2⟩ := Bool.and_eq_true_iff.mp hob
        obtain ⟨gs, rfl⟩ := isObj_eq h1
        obtain ⟨hs, rfl⟩ := isObj_eq h2
        obtain ⟨hr, hk⟩ := outO_some hr
        have k1' : Top G F2 H2 (.obj c gs) v1 := Top.mono u2.f u2.h k1
        obtain ⟨pa, rfl, C', ns', dx, vs, e1, e2, e3⟩ := k1'
        obtain ⟨pb, rfl, C2, ns2, dy, ws, f1, f2, f3⟩ := k2
        have e1' := e1
        rw [hct] at e1 f1
        cases e1
        cases f1
        refine ⟨pa, pb, dx, _, dy, _, rfl, rfl, e2, f2, ?_⟩
        refine sp_callF (ks := [.bo, .bo]) (ds := [.obj c gs, .obj c hs]) rfl u2.fb u2.bh ⟨.ref pa, [.ref pb], rfl, ⟨pa, rfl, C, ns, dx, vs, hct, e2, e3⟩, .ref pb, [], rfl, ⟨pb, rfl, C, ns, dy, ws, hct, f2, f3⟩, rfl⟩ hr ?_
        cases r with
        | ok d => exact fun F' B' H' v u' kr => ⟨hok d B' H2 F' H' v (hk d rfl) kr, q F' B' H' v ((u1.trans u2).trans u') (kr.weak (u1.trans u2).h)⟩
        | error x => exact fun F' B' H' cls dx u' hx => q F' B' H' cls dx ((u1.trans u2).trans u') hx
      · cases hr
    · exact b2 Z F1 B1 H1 σ ρ (s.up u1) _ ey _ (fun F' B' H' cls dx u hx => q F' B' H' cls dx (u1.trans u) hx)
  · exact a2 Z F B H σ ρ s _ ex _ q
theorem kr_mut {d : D} {B H F' H' : Hp} {v : V} (hm : d.isMut = true) (kr : KR G .fresh H F' B H' d v) : ∃ p, v = .ref p ∧ H p = none ∧ B p = none ∧ OwnO G F' H' p d := by
  have kr : (if d.isMut = true then ∃ p, v = .ref p ∧ H p = none ∧ B p = none ∧ OwnO G F' H' p d else Rep G F' d v) := kr
  rw [if_pos hm] at kr
  exact kr
theorem kr_imm {d : D} {B H F' H' : Hp} {v : V} (hm : d.isMut = false) (kr : KR G .fresh H F' B H' d v) : Rep G F' d v := by
  have kr : (if d.isMut = true then ∃ p, v = .ref p ∧ H p = none ∧ B p = none ∧ OwnO G F' H' p d else Rep G F' d v) := kr
  rw [if_neg (by rw [hm]; decide)] at kr
  exact kr
theorem okBl_eq {d : D} (h : Eu d = true) : ∃ t, d = .bl t := by
  cases d <;> first | exact ⟨_, rfl⟩ | cases h
theorem kr_bl {d : D} {B H F' H' : Hp} {v : V} (h : Eu d = true) (kr : KR G .fresh H F' B H' d v) : isBlV v := by
  obtain ⟨t, rfl⟩ := okBl_eq h
  exact ⟨t, kr_imm rfl kr⟩
theorem je_ownC {c : Nat} {ns : List Str} {op : CmpOp} (hct : G.ct c = some (C, ns)) (me : Meth G.K C m ad) (hm : m = (cmpInfo op).2.1) (hcm : ∀ v u, compareOp op v u = richCompare op v u) (ok : FnG G j ad fd ps [.bo, .bo] Fn) (hj : j ≤ k) (hb : Binds G.K fd ps [])
    (ha : JE G k W N sc .peek a fa) (hbb : JE G k W N sc .peek b fb) (hmk : behindInMarks op b = false) : JE G k W N sc .fresh (.Compare a [op] [b] pos) (fOwn2 c Eu Fn fa fb) := by
  obtain ⟨ta, a1, a2⟩ := ha
  obtain ⟨tb, b1, b2⟩ := hbb
  exact ⟨_, fun X cn => pe_cmpS (own_cmp cn me hm hcm ok hj hb) (a1 X cn) (b1 X cn) hmk, spec_own2 hct (fun d B H F' H' v => kr_bl) a2 b2⟩
end
end DL
namespace DL
open PySem PySem.Spec L2
def sqN (b : Bool) : String := if b = true then "tuple" else "list"
def sqD (b : Bool) (ds : List PyData) : PyData := if b = true then .tuple ds else .list ds
def tyB (K : PySem.W.Frag) (b : Bool) (x : V) (H : Hp) : Prop := if b = true then ∃ a vs, x = .ref a ∧ GT K H a vs else tyV K "list" x H
def MtB (X : Cx) (name : Str) (r : Bool → V → List V → Hp → VK → Prop) : Prop := ∀ b, ∃ id, Slot (sqN b) name id ∧ typeOf (.builtin id) = pure (.type "method_descriptor") ∧ MtR X id (r b)
def tBMB (K : PySem.W.Frag) (r : Bool → V → List V → Hp → VK → Prop) (to : TE) (t : TA) : TE := fun σ H Q => to σ H fun x H1 => ∃ b, tyB K b x H1 ∧ t σ H1 fun xs H2 => r b x xs H2 Q
section
variable {X : Cx} {o e : Expr} {es : List Expr} {to : TE} {t : TA} {name : Str} {apos cpos : Pos} {r : Bool → V → List V → Hp → VK → Prop}
theorem tyB_is {pp : List (Addr × Obj)} {σ : L2.St} {H : Hp} {s : Shared} {b : Bool} {x : V} {v : Value} (I : Inv X pp σ H s) (rx : RelV x v) (ty : tyB X.K b x H) : s.TypeIs v (sqN b) ∧ ∀ a, v = .ref a → ∃ ob, s.heap.get? a = some ob ∧ ob.dict = none := by
  cases b with
  | false => exact tyV_is I rx ty
  | true =>
    obtain ⟨a, vs, rfl, h⟩ := ty
    obtain rfl : v = Value.ref a := rx
    rcases h with ⟨ob, h, hd⟩ | ⟨ob, its, n, h1, h2, h3, _⟩
    · obtain ⟨hg, z⟩ := (show ObjOk X.prog X.w H s.heap a (.frz ob (.tup vs)) from I.hok a _ h)
      obtain ⟨_, _, _, ob2, e2, c2⟩ := z
      have : ob2 = ob := Option.some.inj (e2.symm.trans hg)
      subst this
      exact ⟨⟨ob2, hg, c2.1⟩, fun a' e => by cases e; exact ⟨ob2, hg, hd⟩⟩
    · have hg := I.kIn a ob h1
      exact ⟨⟨ob, hg, h2⟩, fun a' e => by cases e; exact ⟨ob, hg, h3⟩⟩
theorem plain_sq (b : Bool) : PlainAttrs (sqN b) := by
  cases b
  · exact PySem.F.plainAttrs_list
  · exact PySem.F.plainAttrs_tuple
theorem pe_bmB (hm : MtB X name r) (ho : PE X o to) (ha : PA X (e :: es) t) (hbase : attributeBase o name X.env (eval o X.env) = eval o X.env)
    (hfew : ((backTo cpos (starEach (e :: es) X.env)).all (fun x => !x.1) && (backToKw cpos (keywordEach [] X.env)).all (fun x => x.1.isSome)
      && decide ((e :: es).length + ([] : List Keyword).length + (if ([] : List Keyword).isEmpty then 0 else 1) < 30)) = true)
    (hline : (apos.endLine == cpos.line) = true) (hs : starEach (e :: es) X.env = (false, eval e X.env) :: starEach es X.env) (hplain : (backTo cpos (starEach es X.env)).any (·.1) = false) :
    PE X (.Call (.Attribute o name apos) (e :: es) [] cpos) (tBMB X.K r to t) := by
  refine ⟨fun pp s σ H Q I h => ?_⟩
  refine wpAny_Call_method_late hbase hfew hline rfl (thn (ho.run pp s σ H _ I h) fun v s1 ⟨x, H1, I1, r1, b, ty, q1⟩ => ?_)
  obtain ⟨h1, h2⟩ := tyB_is I1 r1 ty
  obtain ⟨id, slot, hty, hmt⟩ := hm b
  refine ⟨sqN b, id, plain_sq b, slot, hty, h1, h2, ?_⟩
  have hA := ha.run cpos pp s1 σ H1 _ I1 q1
  rw [hs] at hA ⊢
  refine Calls.callWith_builtin (by show (false || (backTo cpos (starEach es X.env)).any (·.1)) = false; rw [hplain] <;> rfl) (Calls.evalArgs_plain ?_)
  exact thn hA fun us s2 ⟨xs, H2, I2, rxs, q2⟩ => hmt pp s2 σ H2 x xs v us Q I2 r1 rxs q2
end
def rCnt (K : PySem.W.Frag) (b : Bool) : V → List V → Hp → VK → Prop := fun x xs H Q => ∃ (y : V) (d : PyData) (ds : List PyData), xs = [y] ∧ Dp K H x (sqD b ds) ∧ Dp K H y d ∧ SeqAt.shaped (.list ds) = true ∧ SeqAt.shaped d = true ∧ Q (.int (ds.countP fun z => PyData.eqv z d : Nat)) H
theorem shaped_plain {d : PyData} (h : SeqAt.shaped d = true) : d.plain = true := PyData.plain_of_canLay0 d (SeqAt.canLay_of_shaped h)
theorem mt_cnt {X : Cx} (hu : X.A.units + 65 < cLine) : MtB X "count" (rCnt X.K) := by
  intro b
  cases b with
  | false =>
    refine ⟨"list.count", PySem.F.slot_list_count, PySem.F.type_list_count, ?_⟩
    intro pins s σ H x xs v us Q I rx rxs h
    obtain ⟨y, d, ds, rfl, hx, hy, sl, sd, q⟩ := h
    obtain ⟨u, rfl, ry⟩ := vals1 rxs
    obtain ⟨bs, r1⟩ := Dp.reads I d y u hy ry
    obtain ⟨as, r2⟩ := Dp.reads I (.list ds) x v hx rx
    cases r2 with
    | list ho hc hd ha =>
      have hs := PyData.plainAll_of_canLay0 ds (SeqAt.canLay_of_shaped sl)
      exact SeqAt.count_list_data ⟨_, ho, hc, _, hd⟩ ha r1 hs (shaped_plain sd) (PyProof.Rows.room_in_shaped sd hu) ⟨.int _, H, I.tok _, ⟨_, rfl⟩, q⟩
  | true =>
    refine ⟨"tuple.count", PySem.F.slot_tuple_count, PySem.F.type_tuple_count, ?_⟩
    intro pins s σ H x xs v us Q I rx rxs h
    obtain ⟨y, d, ds, rfl, hx, hy, sl, sd, q⟩ := h
    obtain ⟨u, rfl, ry⟩ := vals1 rxs
    obtain ⟨bs, r1⟩ := Dp.reads I d y u hy ry
    obtain ⟨as, r2⟩ := Dp.reads I (.tuple ds) x v hx rx
    cases r2 with
    | tuple ho hc hd ha =>
      have hs := PyData.plainAll_of_canLay0 ds (SeqAt.canLay_of_shaped sl)
      exact SeqAt.count_tuple_data ⟨_, ho, hc, _, hd⟩ ha r1 hs (shaped_plain sd) (PyProof.Rows.room_in_shaped sd hu) ⟨.int _, H, I.tok _, ⟨_, rfl⟩, q⟩
def cntD (x : D) (l : List D) : Option D := match toP x, toPs l with
  | some a, some bs => if SeqAt.shaped a = true ∧ SeqAt.shaped (.list bs) = true then some (.int (bs.countP fun z => PyData.eqv z a : Nat)) else none
  | _, _ => none
def D.count : D → D → Option D
  | .lst l, x => cntD x l
  | .tup l, x => cntD x l
  | _, _ => none
theorem cntD_some {x : D} {l : List D} {d : D} (h : cntD x l = some d) : ∃ a bs, toP x = some a ∧ toPs l = some bs ∧ SeqAt.shaped a = true ∧ SeqAt.shaped (.list bs) = true ∧ d = .int (bs.countP fun z => PyData.eqv z a : Nat) := by
  unfold cntD at h
  split at h
  · rename_i a bs e1 e2
    split at h
    · rename_i hs
      exact ⟨a, bs, e1, e2, hs.1, hs.2, (Option.some.inj h).symm⟩
    · cases h
  · cases h
def isSq : D → Bool
  | .lst _ => true
  | .tup _ => true
  | _ => false
def fCnt (fo fa : En → M D) : En → M D := fun ρ => (fo ρ).bnd fun x => if isSq x = true then (fa ρ).bnd fun y => up1 (D.count x y) else none
section
variable {G : Gm} {k : Nat} {W : WX} {N : List Str} {sc : Scope} {kd : Kd} {o e : Expr} {fo fa : En → M D} {apos cpos : Pos}
theorem je_cnt (hp : PlainArg e) (hpl : NoStar cpos []) (hw : MFew o "count" apos cpos [e]) (ho : JE G k W N sc .peek o fo) (ha : JE G k W N sc .peek e fa) : JE G k W N sc kd (.Call (.Attribute o "count" apos) [e] [] cpos) (fCnt fo fa) := by
  obtain ⟨to, o1, o2⟩ := ho
  obtain ⟨ta, a1, a2⟩ := ja_consP hp ha ja_nil
  refine ⟨tBMB G.K (rCnt G.K) to ta, fun X c => by
    rw [← c.hK]
    exact pe_bmB (mt_cnt (hu65 c)) (o1 X c) (a1 X c) (hw X.env).1 (hw X.env).2.1 (hw X.env).2.2 (hp _ _) (hpl _), fun Z F B H σ ρ s r hr Q q => ?_⟩
  rcases bnd_some hr with ⟨x, ex, hr⟩ | ⟨x, ex, rfl⟩
  · split at hr
    · rename_i hsq
      refine o2 Z F B H σ ρ s _ ex _ fun F1 B1 H1 v1 u1 k1 => ?_
      have fh1 : Same F1 H1 := u1.fb.trans u1.bh
      refine ⟨match x with | .tup _ => true | _ => false, ?_, ?_⟩
      · cases x <;> first | cases hsq | skip
        · obtain ⟨p, vs, rfl, h1, h2⟩ := topG fh1 k1
          exact ⟨p, vs, rfl, h1⟩
        · obtain ⟨p, vs, rfl, h1, h2⟩ := topL k1
          exact .inl ⟨rfl, vs, SqL.of h1⟩
      · have fin : ∀ y, fa ρ = some (.ok y) → up1 (D.count x y) = some r → ta σ H1 fun xs H2 => rCnt G.K (match x with | .tup _ => true | _ => false) v1 xs H2 Q := fun y ey hr => by
          refine a2 Z F1 B1 H1 σ ρ (s.up u1) (.ok [y]) (by unfold Ac Ba; rw [ey]; rfl) _ fun F2 B2 H2 vs u2 k2 => ?_
          obtain ⟨w, rfl, kw⟩ := ar1 k2
          obtain ⟨d, ed, rfl⟩ := up1_ok hr
          have fh2 : Same F2 H2 := u2.fb.trans u2.bh
          have k1' : Top G F2 H2 x v1 := Top.mono u2.f u2.h k1
          have key : ∀ l, (x = .lst l ∨ x = .tup l) → cntD y l = some d → rCnt G.K (match x with | .tup _ => true | _ => false) v1 [w] H2 Q := fun l hl hc => by
            obtain ⟨a, bs, e1, e2, s1, s2, rfl⟩ := cntD_some hc
            have fini : Q (.int (bs.countP fun z => PyData.eqv z a : Nat)) H2 := PostV.here (q.weak (u1.trans u2)) u2.fb u2.bh rfl rfl
            rcases hl with rfl | rfl
            · exact ⟨w, a, bs, rfl, toP_top fh2 (.lst l) v1 (.list bs) (by unfold toP; rw [e2]; rfl) k1', toP_top fh2 y w a e1 kw, s2, s1, fini⟩
            · exact ⟨w, a, bs, rfl, toP_top fh2 (.tup l) v1 (.tuple bs) (by unfold toP; rw [e2]; rfl) k1', toP_top fh2 y w a e1 kw, s2, s1, fini⟩
          cases x <;> first | cases hsq | skip
          · exact key _ (.inr rfl) ed
          · exact key _ (.inl rfl) ed
        rcases bnd_some hr with ⟨y, ey, hr⟩ | ⟨y, ey, rfl⟩
        · exact fin y ey hr
        · exact a2 Z F1 B1 H1 σ ρ (s.up u1) (.error y) (by unfold Ac; rw [ey]; rfl) _ (fun F' B' H' cls dx u hx => q F' B' H' cls dx (u1.trans u) hx)
    · cases hr
  · exact o2 Z F B H σ ρ s _ ex _ q
end
theorem EqEnc.countP {α : Type} [DecidableEq α] {enc : α → D} {n : Nat} (h : EqEnc enc n) (a : α) {p : PyData} (hp : toP (enc a) = some p) : ∀ (l : List α) (qs : List PyData), toPs (l.map enc) = some qs → (qs.countP fun z => PyData.eqv z p) = l.count a
  | [], qs, hq => by
    unfold List.map toPs at hq
    cases hq
    rfl
  | b :: l, qs, hq => by
    obtain ⟨q, qs', e1, e2, rfl⟩ := toPs_cons hq
    rw [List.countP_cons, h.eq b a q p e1 hp, h.countP a hp l qs' e2, List.count_cons]
    by_cases hb : b = a <;> simp [hb]
theorem EqEnc.cnt {α : Type} [DecidableEq α] {enc : α → D} {n : Nat} (h : EqEnc enc n) (hn : n < 64) (a : α) (l : List α) : cntD (enc a) (l.map enc) = some (.int (l.count a : Nat)) := by
  obtain ⟨p, e1, e2⟩ := h.shaped (Nat.le_of_lt hn) a
  obtain ⟨ps, f1, f2, f3⟩ := h.alls l
  have hs : SeqAt.shaped (.list ps) = true := by
    unfold SeqAt.shaped PyData.canLay0 PyData.depth
    rw [f2, decide_eq_true (show _ ≤ 64 by omega)]
    rfl
  unfold cntD
  rw [e1, f1]
  show (if SeqAt.shaped p = true ∧ SeqAt.shaped (.list ps) = true then some (D.int (ps.countP fun z => PyData.eqv z p : Nat)) else none) = _
  rw [if_pos ⟨e2, hs⟩, h.countP a e1 l ps f1]
theorem cnt_tI (x : Int) (l : List Int) : D.count (.tup (l.map D.int)) (.int x) = some (.int (l.count x : Nat)) := EqEnc.int.cnt (by decide) x l
end DL
namespace DL
open PySem PySem.Spec L2
section
open PySem.W PySem.Calls
variable {prog : Program} {w : World} {A : Around} {E : Value → Shared → Prop} {s : Shared} {K : Frag} {x D0 : Addr} {ox : Obj} {od : Option Obj}
end
end DL
namespace DL
open PySem PySem.Spec L2
section
variable {X : Cx} {Ct : CXT} {k : Nat} {f : Addr} {fd : FuncData} {ps : List Str} {sp : Sp} {x : Str} {q pos : Pos} {e : Expr} {es : List Expr} {t : TA} {p : Addr × Obj}
end
def subX (c c' : Nat) : Bool := c == c' || c' == 100
structure XOk (G : Gm) : Prop where
  exc : ∀ c C ns, G.ct c = some (C, ns) → 100 ≤ c → ExcC G.K C ∧ XfC G.K C ∧ (∀ f ∈ ns, PySem.W.findIn G.K (.ref C) f = some none) ∧ ns.Nodup ∧ PySem.W.kitOne G.K (.ref C) (.type "ValueError") = some true
  kit : ∀ c c' C C' ns ns', G.ct c = some (C, ns) → G.ct c' = some (C', ns') → 100 ≤ c → 100 ≤ c' → PySem.W.kitOne G.K (.ref C) (.ref C') = some (subX c c') ∧ PySem.W.exmOne G.K (.ref C) (.ref C') = some (subX c c')
def excB (K : PySem.W.Frag) (C : Addr) : Bool := (decide (PySem.W.findIn K (.ref C) "__getattribute__" = some (some (.builtin "BaseException.__getattribute__"))) && decide (PySem.W.findIn K (.ref C) "__getattr__" = some none)) &&
  ((decide (PySem.W.subIn K (.ref C) (.type "BaseException") = some true) && PySem.W.hasDictIn K C) && ((decide (PySem.W.findIn K (.ref C) "__class__" = some (some (.builtin "object.__class__"))) && decide (PySem.W.specialIn K (.builtin "object.__class__") "__get__" = some (some (.builtin "getset_descriptor.__get__")))) &&
    (decide (PySem.W.takesIn K (.builtin "object.__class__") = some true) && decide (PySem.W.mroIn K C (.type "object") = some true))))
theorem excB_ok {K : PySem.W.Frag} {C : Addr} (h : excB K C = true) : ExcC K C ∧ XfC K C := by
  obtain ⟨h1, h⟩ := Bool.and_eq_true_iff.mp h
  obtain ⟨h1, h2⟩ := Bool.and_eq_true_iff.mp h1
  obtain ⟨h3, h⟩ := Bool.and_eq_true_iff.mp h
  obtain ⟨h3, h4⟩ := Bool.and_eq_true_iff.mp h3
  obtain ⟨h5, h⟩ := Bool.and_eq_true_iff.mp h
  obtain ⟨h5, h6⟩ := Bool.and_eq_true_iff.mp h5
  obtain ⟨h7, h8⟩ := Bool.and_eq_true_iff.mp h
  have g1 := of_decide_eq_true h1; have g2 := of_decide_eq_true h2; have g3 := of_decide_eq_true h3
  exact ⟨⟨g1, g2, g3, h4, of_decide_eq_true h5, of_decide_eq_true h6, of_decide_eq_true h7, of_decide_eq_true h8⟩, ⟨g1, g2, g3, h4⟩⟩
def xB (K : PySem.W.Frag) (l : CL) : Bool := l.all fun q => if 100 ≤ q.1 then (excB K q.2.1 && ((q.2.2.all fun f => He.eqO (PySem.W.findIn K (.ref q.2.1) f) (some none)) && decide q.2.2.Nodup && decide (PySem.W.kitOne K (.ref q.2.1) (.type "ValueError") = some true))) &&
  l.all fun r => if 100 ≤ r.1 then decide (PySem.W.kitOne K (.ref q.2.1) (.ref r.2.1) = some (subX q.1 r.1)) && decide (PySem.W.exmOne K (.ref q.2.1) (.ref r.2.1) = some (subX q.1 r.1)) else true else true
theorem xok_of {G : Gm} {l : CL} (hl : G.ct = ctOf l) (h : xB G.K l = true) : XOk G := by
  have key : ∀ c C ns, G.ct c = some (C, ns) → 100 ≤ c → (excB G.K C && ((ns.all fun f => He.eqO (PySem.W.findIn G.K (.ref C) f) (some none)) && decide ns.Nodup && decide (PySem.W.kitOne G.K (.ref C) (.type "ValueError") = some true))) = true ∧
      (l.all fun r => if 100 ≤ r.1 then decide (PySem.W.kitOne G.K (.ref C) (.ref r.2.1) = some (subX c r.1)) && decide (PySem.W.exmOne G.K (.ref C) (.ref r.2.1) = some (subX c r.1)) else true) = true := fun c C ns e hc => by
    rw [hl] at e
    have z := List.all_eq_true.mp h _ (look_mem e)
    rw [if_pos hc] at z
    exact Bool.and_eq_true_iff.mp z
  refine ⟨fun c C ns e hc => ?_, fun c c' C C' ns ns' e e' hc hc' => ?_⟩
  · obtain ⟨h1, h2⟩ := Bool.and_eq_true_iff.mp (key c C ns e hc).1
    obtain ⟨h2, h3⟩ := Bool.and_eq_true_iff.mp h2
    obtain ⟨h2, h4⟩ := Bool.and_eq_true_iff.mp h2
    exact ⟨(excB_ok h1).1, (excB_ok h1).2, fun f hf => He.eqO_ok (List.all_eq_true.mp h2 f hf), of_decide_eq_true h4, of_decide_eq_true h3⟩
  · have z := (key c C ns e hc).2
    rw [hl] at e'
    have z2 := List.all_eq_true.mp z _ (look_mem e')
    rw [if_pos hc'] at z2
    obtain ⟨h1, h2⟩ := Bool.and_eq_true_iff.mp z2
    exact ⟨of_decide_eq_true h1, of_decide_eq_true h2⟩
end DL
namespace DL
open PySem PySem.Spec L2
def xdC (d : Option Addr) : Hp → Prop := fun H => d = none ∨ ∃ (dd : Addr) (fs : List (Str × V)), d = some dd ∧ H dd = some (.xd fs)
structure KX (G : Gm) (i : Nat) (sc : Scope) (y : Str) (a C : Addr) (d : Option Addr) (X : Cx) : Prop where
  hK : X.K = G.K
  hmg : X.mg = G.mg
  hN : X.N[i]? = some y
  hsc : X.env.scope = sc
  vis : visB sc y = true
  dbg : (y == ("__debug__" : Str)) = false
  cdi : (y == ("__classdict__" : Str)) = false
  ex : ExcC G.K C
  pin : ∃ oe, (a, oe) ∈ X.pn ∧ Zc (.ref C) d oe ∧ ∃ vs, oe.data = .fields vs
section
variable {G : Gm} {i : Nat} {sc : Scope} {y : Str} {a C : Addr} {d : Option Addr} {X : Cx} {e e1 e2 : Expr} {es : List Expr} {pos p1 p2 p3 : Pos} {v : V} {vs : List V}
end
end DL
namespace DL
open PySem PySem.Spec L2
theorem cx_call {P : Program} {w : World} {st : List Env} {H : Hp} {s s' : Shared} {e : Value} (h : L2N.CX P w st H s (fun _ _ _ => False) e s') : False := by
  obtain ⟨_, _, _, _, _, _, _, _, _, _, _, _, z⟩ := h
  exact z
def Bh (c : Nat) : SO := fun ρ => some (.er ⟨c, []⟩ ρ)
section
variable {G : Gm} {k : Nat} {W : WX} {N : List Str} {sc : Scope}
theorem js_raise {x m : Str} {c j : Nat} {C : Addr} {ns : List Str} {p p2 pos pos2 : Pos} (hct : G.ct c = some (C, ns)) (q : PySem.W.excIn G.K C He.veBase "ValueError.__new__" = true) (hm : G.mg x = some (.ref C)) (kC : PySem.W.keepIn G.K (.ref C) = true)
    (h1 : PySem.W.subIn G.K (.ref C) (.type "BaseException") = some true) (h2 : PySem.W.typeIn G.K (.ref C) = some (.type "type")) (hg : glB sc x = true) (hd : (x == ("__debug__" : Str)) = false) :
    JS G k W N sc (.Raise (some (.Call (.Name x p) [.Constant (.str m) j p2] [] pos)) none pos2) (Bh c) := by
  refine ⟨fun _ σ H => W (.ref C) none σ H, fun X cn => L2N.ps_raise (t := fun _ H Q => Q (.ref C) none H) cn.ce.calm cn.ce.tk (L2N.pmk_own PySem.F.excBase_ValueError (by rw [cn.ce.hK]; exact q) (by rw [cn.ce.hmg]; exact hm) (by rw [cn.ce.hK]; exact kC) (raises_own (by rw [cn.ce.hK]; exact h1) (by rw [cn.ce.hK]; exact h2)) (gl_of cn.ce.hsc hg) hd), fun Z F B H σ ρ s o ho E q => ?_⟩
  have e := Option.some.inj ho
  subst e
  exact q F B H σ (.ref C) none s Gro.refl ⟨C, ns, hct, rfl, .inl ⟨rfl, rfl⟩⟩
end
theorem XR.mono {G : Gm} {F H F' H' : Hp} (f : Same F F') (h : Same H H') {x : Xc} {cls : Value} {d : Option Addr} (r : XR G F H x cls d) : XR G F' H' x cls d := by
  obtain ⟨C, ns, h1, h2, h3⟩ := r
  refine ⟨C, ns, h1, h2, ?_⟩
  rcases h3 with h3 | ⟨dd, vs, e1, e2, e3⟩
  · exact .inl h3
  · exact .inr ⟨dd, vs, e1, h _ _ e2, e3.mono f⟩
theorem XR.xd {G : Gm} {F H : Hp} {x : Xc} {cls : Value} {d : Option Addr} (r : XR G F H x cls d) : xdC d H := by
  obtain ⟨C, ns, h1, h2, h3⟩ := r
  rcases h3 with h3 | ⟨dd, vs, e1, e2, e3⟩
  · exact .inl h3.2
  · exact .inr ⟨dd, _, e1, e2⟩
def JU (G : Gm) (k : Nat) (N : List Str) (sc : Scope) (i : Nat) (kd : Kd) (e : Expr) (f : Xc → Option D) : Prop := ∃ te : Addr → Value → Option Addr → TE,
  (∀ W X a oe cls d pn, CnS G k W N sc X → L2N.Zn cls d oe → (∃ vs, oe.data = .fields vs) → PE (X.suite a ((a, oe) :: pn)) e (te a cls d)) ∧
  ∀ F B H σ x a cls d, Same F B → Same B H → XR G F H x cls d → σ[i]? = some (some (.ref a)) → ∀ dd, f x = some dd → ∀ Q : VK, (∀ F' B' H' v, Up F B H F' B' H' → KR G kd H F' B' H' dd v → Q v H') → te a cls d σ H Q
section
variable {G : Gm} {k i : Nat} {N : List Str} {sc : Scope} {kd : Kd} {e : Expr} {es : List Expr} {f : Xc → Option D} {fs : Xc → Option (List D)} {pos p1 p2 p3 : Pos} {y : Str}
end
end DL
namespace DL
open PySem PySem.Spec L2
section
variable {G : Gm} {k i : Nat} {N : List Str} {sc : Scope} {kd : Kd} {e : Expr} {es : List Expr} {f : Xc → Option D} {fs : Xc → Option (List D)} {pos p1 p2 p3 : Pos} {y : Str}
theorem kr_share {F B H F' B' H' : Hp} {d : D} {v : V} (u : Up F B H F' B' H') (kr : KR G .fresh H F' B' H' d v) : ∃ F2 B2, Up F B H F2 B2 H' ∧ Rep G F2 d v := by
  cases hm : d.isMut with
  | true =>
    obtain ⟨p, rfl, hp, hb, ho⟩ := kr_mut hm kr
    obtain ⟨o, h3⟩ := ho.there
    have hf : F' p = none := by
      cases q : F' p with
      | none => rfl
      | some o' => rw [u.fb p o' q] at hb; cases hb
    refine ⟨_, _, u.share hp hb h3, OwnO.rep (ho.mono (F' := upd F' p o) (H' := upd F' p o) (fun a q e => by rw [upd_ne (ne_of_none e hf)]; exact e) fun o' e => ?_)⟩
    rw [h3] at e
    rw [upd_same]
    exact e
  | false => exact ⟨F', B', u, kr_imm hm kr⟩
theorem JU.sh (h : JU G k N sc i .fresh e f) : JU G k N sc i .shared e f := by
  obtain ⟨te, h1, h2⟩ := h
  refine ⟨te, h1, fun F B H σ x a cls d fb bh xr hs dd hd Q q => h2 F B H σ x a cls d fb bh xr hs dd hd Q fun F' B' H' v u kr => ?_⟩
  obtain ⟨F2, B2, u2, r⟩ := kr_share u kr
  exact q F2 B2 H' v u2 r
end
end DL
namespace DL
open PySem PySem.Spec L2
def crB (K : PySem.W.Frag) (C : Addr) : Bool := PySem.W.readsIn K C (.type "type") && He.eqO (PySem.W.specialIn K (.ref C) "__getattribute__") (some (some (.builtin "type.__getattribute__")))
theorem crB_ok {K : PySem.W.Frag} {C : Addr} (h : crB K C = true) : ClX.CRead K C (.type "type") := by
  obtain ⟨h1, h2⟩ := Bool.and_eq_true_iff.mp h
  exact ⟨h1, He.eqO_ok h2⟩
def cvB (K : PySem.W.Frag) (C : Addr) (f : Str) (i : Int) : Bool := match PySem.W.findCls K (.ref C) (.type "type") f with
  | some (.val (.int j _)) => decide (j = i)
  | _ => false
theorem cvB_ok {K : PySem.W.Frag} {C : Addr} {f : Str} {i : Int} (h : cvB K C f i = true) : ∃ u, ClX.CVal K C (.type "type") f (.int i) u := by
  unfold cvB at h
  split at h
  · rename_i j t e
    have ej := of_decide_eq_true h
    subst ej
    exact ⟨_, e, ⟨t, rfl⟩⟩
  · cases h
def fCv (c : Nat) (d : D) (fo : En → M D) : En → M D := fun ρ => (fo ρ).bnd fun x => if Cg c x = true then some (.ok d) else none
section
variable {G : Gm} {k j : Nat} {W : WX} {N : List Str} {sc : Scope} {kd : Kd} {o e ek : Expr} {es : List Expr} {fo fk : En → M D} {fs : En → M (List D)} {pos p kpos : Pos} {F B H : Hp}
theorem je_cval {c : Nat} {C : Addr} {ns : List Str} {f : Str} {i : Int} {u : Value} (hct : G.ct c = some (C, ns)) (cr : ClX.CRead G.K C (.type "type")) (cv : ClX.CVal G.K C (.type "type") f (.int i) u) (hb : ∀ env : Env, attributeBase o f env (eval o env) = eval o env)
    (ho : JE G k W N sc .peek o fo) : JE G k W N sc kd (.Attribute o f pos) (fCv c (.int i) fo) := by
  obtain ⟨te, o1, o2⟩ := ho
  refine ⟨ClX.tCVal G.K te f, fun X cn => by rw [← cn.hK]; exact ClX.pe_cval (o1 X cn) (hb _), fun Z F B H σ ρ s r hr0 Q q => ?_⟩
  rcases bnd_some hr0 with ⟨x, ex, hr⟩ | ⟨x, ex, rfl⟩
  · refine o2 Z F B H σ ρ s _ ex _ fun F1 B1 H1 v1 u1 k1 => ?_
    split at hr
    · rename_i hx
      cases x <;> first | cases hx | skip
      rename_i c'
      obtain rfl : c' = c := by simpa [Cg] using hx
      obtain ⟨C', ns', e1, rfl⟩ := k1
      rw [hct] at e1
      cases e1
      have e2 := Option.some.inj hr
      subst e2
      exact ⟨C, _, _, _, rfl, cr, cv, q F1 B1 H1 _ u1 (KR.scal rfl rfl)⟩
    · cases hr
  · exact o2 Z F B H σ ρ s _ ex _ q
theorem ParR.snoc {kk : PK} {d : D} {v : V} (hkk : kk.still = true) : ∀ {ks : List PK} {ds : List D} {vs : List V}, ks.all PK.still = true → ParR G F H H ks ds vs → ParR G F H H [kk] [d] [v] → ParR G F H H (ks ++ [kk]) (ds ++ [d]) (vs ++ [v])
  | [], [], vs, _, h, h2 => by
    rw [show vs = [] from h]
    exact h2
  | [], _ :: _, vs, _, h, _ => h.elim
  | .sh :: ks, [], vs, _, h, _ => h.elim
  | .bo :: ks, [], vs, _, h, _ => h.elim
  | .mu :: ks, _, vs, hs, _, _ => by
    have : (false && ks.all PK.still) = true := hs
    cases this
  | .sh :: ks, d' :: ds, vs, hs, h, h2 => by
    obtain ⟨w, vs', rfl, h3, h4⟩ := h
    exact ⟨w, vs' ++ [v], rfl, h3, ParR.snoc hkk (by simpa [PK.still] using hs) h4 h2⟩
  | .bo :: ks, d' :: ds, vs, hs, h, h2 => by
    obtain ⟨w, vs', rfl, h3, h4⟩ := h
    exact ⟨w, vs' ++ [v], rfl, h3, ParR.snoc hkk (by simpa [PK.still] using hs) h4 h2⟩
theorem ParR.grow {F' H' : Hp} (f : Same F F') (h : Same H H') : ∀ {ks : List PK} {ds : List D} {vs : List V}, ks.all PK.still = true → ParR G F H H ks ds vs → ParR G F' H' H' ks ds vs
  | [], [], vs, _, p => p
  | [], _ :: _, vs, _, p => p.elim
  | .sh :: ks, [], vs, _, p => p.elim
  | .bo :: ks, [], vs, _, p => p.elim
  | .mu :: ks, _, vs, hs, _ => by
    have : (false && ks.all PK.still) = true := hs
    cases this
  | .sh :: ks, d :: ds, vs, hs, p => by
    obtain ⟨w, vs', rfl, h3, h4⟩ := p
    exact ⟨w, vs', rfl, h3.mono f, ParR.grow f h (by simpa [PK.still] using hs) h4⟩
  | .bo :: ks, d :: ds, vs, hs, p => by
    obtain ⟨w, vs', rfl, h3, h4⟩ := p
    exact ⟨w, vs', rfl, h3.mono f h, ParR.grow f h (by simpa [PK.still] using hs) h4⟩
abbrev KB1 (K : PySem.W.Frag) (fd : FuncData) (ps : List Str) (n : Nat) (nm : Str) : Prop := KBn K fd ps n [nm] (fun us ws => us ++ ws) (fun vs zs => vs ++ zs)
end
section
variable {X : Cx} {Ct : CXT} {k n : Nat} {f C : Addr} {fd : FuncData} {ps : List Str} {nm : Str} {sp : Sp} {E : L2.St → XK} {x : Str} {p pos : Pos} {e : Expr} {es : List Expr} {kws : List Keyword} {t tk : TA}
theorem run_mkK {pp : List (Addr × Obj)} {σ : L2.St} {H : Hp} {s : Shared} {Q : VK} {us ws : List Value} {vs zs : List V} (mk : Mk X.K C f) (ok : FnOk X.prog X.w X.K X.mg X.base Ct k f fd ps sp) (rm : Room (k + 1) X.A) (bi : KB1 X.K fd ps (n + 1) nm) (pa : PassesAt Ct X σ (E σ))
    (J : Inv X pp σ H s) (rv : Vals vs us) (rz : Vals zs ws) (l1 : vs.length = n) (l2 : zs.length = 1)
    (h : ∀ y dy, H y = none → H dy = none → dy ≠ y → sp (.ref y :: (vs ++ zs)) (upd (upd H dy (.own y)) y (.ins C dy [])) (fun v H2 => v = .non ∧ Q (.ref y) H2) (E σ)) :
    wpAny (model X.prog X.w) X.A (call (.ref C) us ([nm].zip ws)) (EP X pp σ Q) X.xe s := by
  have want := h (s.heap.objs.size + 1) s.heap.objs.size (J.hok.fresh (Nat.le_succ _)) (J.hok.fresh (Nat.le_refl _)) (Nat.ne_of_lt (Nat.lt_succ_self _))
  have J2 := Inv.made (C := C) J
  have r0 : Vals (V.ref (s.heap.objs.size + 1) :: vs) (Value.ref (s.heap.objs.size + 1) :: us) := .cons rfl rv
  have all := bi.rel r0 rz
  have n1 : (Value.ref (s.heap.objs.size + 1) :: us).length = n + 1 := by rw [List.length_cons, ← rv.length, l1]
  have body := ok.run _ X.stack _ _ ⟨Value.ref (s.heap.objs.size + 1) :: us, [nm].zip ws⟩ ((Value.ref (s.heap.objs.size + 1) :: us) ++ ws) _ _ (E σ) (rm.make C us ([nm].zip ws)) (J2.env0.make C us ([nm].zip ws)) (bi.to _ (Value.ref (s.heap.objs.size + 1) :: us) ws J2.kIn n1 (rz.length.symm.trans l2)) all want
  refine wpAny_call (make_map (f := f) J.kIn mk.makes mk.init (beq_iff_eq.mp mk.fn) (codeAny_mono body fun r s' hr => ?_))
  match r, hr with
  | .error z, hr => exact pa pp _ _ z s' J2 hr
  | .ok (.ret u), hr =>
    obtain ⟨v, H', J3, r1, ev, q3⟩ := J2.after hr
    subst ev
    exact ⟨r1, ⟨V.ref (s.heap.objs.size + 1), H', J3, rfl, q3⟩⟩
  | .ok .next, hr => exact hr.elim
  | .ok .brk, hr => exact hr.elim
  | .ok .cont, hr => exact hr.elim
def tMkK (C : Addr) (n : Nat) (sp : Sp) (E : L2.St → XK) (t tk : TA) : TE := fun σ H Q => t σ H fun vs H1 => tk σ H1 fun zs H2 => vs.length = n ∧ zs.length = 1 ∧ ∀ y dy, H2 y = none → H2 dy = none → dy ≠ y →
  sp (.ref y :: (vs ++ zs)) (upd (upd H2 dy (.own y)) y (.ins C dy [])) (fun v H3 => v = .non ∧ Q (.ref y) H3) (E σ)
theorem pe_mkK (mk : Mk X.K C f) (ok : FnOk X.prog X.w X.K X.mg X.base Ct k f fd ps sp) (rm : Room (k + 1) X.A) (hg : Gl X x) (hm : X.mg x = some (.ref C)) (bi : KB1 X.K fd ps (n + 1) nm) (pa : ∀ σ, PassesAt Ct X σ (E σ)) (ha : PA X (e :: es) t) (hkw : L2.PK X kws tk)
    (hall : (backToKw pos (keywordEach kws X.env)).all (·.1.isSome) = true) (hks : (backToKw pos (keywordEach kws X.env)).filterMap (·.1) = [nm]) (hdb : (x == ("__debug__" : Str)) = false)
    (he : starEach (e :: es) X.env = (false, eval e X.env) :: starEach es X.env) (hpl : ((backTo pos (starEach (e :: es) X.env)).any (·.1) || (backToKw pos (keywordEach kws X.env)).any (·.1.isNone)) = false) :
    PE X (.Call (.Name x p) (e :: es) kws pos) (tMkK C n sp E t tk) := by
  refine ⟨fun pp s σ H Q J h => wpAny_Call_Name_kw (ld_glob J hg hm ?_ hdb)⟩
  refine PySem.W.callWith_KW (h₀ := X.base) J.ok.mod.kin mk.kp hall (thn (ha.run pos pp s σ H _ J h) fun us s1 ⟨vs, H1, J1, r, q⟩ => ?_) hpl he
  refine thn (hkw.run pos pp s1 σ H1 _ J1 q) fun ws s2 ⟨zs, H2, J2, rz, l1, l2, q2⟩ => ⟨J2.kIn, ?_⟩
  rw [hks]
  exact run_mkK mk ok rm bi (pa σ) J2 r rz l1 l2 q2
end
section
variable {G : Gm} {k j : Nat} {W : WX} {N : List Str} {sc : Scope} {e ek : Expr} {es : List Expr} {fk : En → M D} {fs : En → M (List D)} {pos p kpos : Pos} {ad : Addr} {fd : FuncData} {ps : List Str} {ks : List PK} {Fn : List D → Option FOut} {x nm : Str}
def fMkK (c : Nat) (Fn : List D → Option FOut) (fs : En → M (List D)) (fk : En → M D) : En → M D := fun ρ => (fs ρ).bnd fun xs => (fk ρ).bnd fun z => Ev (Fn (.obj c [] :: (xs ++ [z])))
theorem je_mkK {c : Nat} {C : Addr} {ns : List Str} (hct : G.ct c = some (C, ns)) (mk : Mk G.K C ad) (ok : FnG G j ad fd ps (.mu :: (ks ++ [.bo])) Fn) (hj : j + 1 ≤ k) (hks : ks.all PK.still = true) (hg : glB sc x = true) (hm : G.mg x = some (.ref C)) (hb : KB1 G.K fd ps (ks.length + 1) nm)
    (hd : (x == ("__debug__" : Str)) = false) (hp : PlainArg e) (hall : ∀ env : Env, (backToKw pos (keywordEach [⟨some nm, ek, kpos⟩] env)).all (·.1.isSome) = true) (hkn : ∀ env : Env, (backToKw pos (keywordEach [⟨some nm, ek, kpos⟩] env)).filterMap (·.1) = [nm])
    (hpl : ∀ env : Env, ((backTo pos (starEach (e :: es) env)).any (·.1) || (backToKw pos (keywordEach [⟨some nm, ek, kpos⟩] env)).any (·.1.isNone)) = false)
    (ha : JA G k W N sc (ks.map argK) (e :: es) fs) (hk : JE G k W N sc .peek ek fk) : JE G k W N sc .fresh (.Call (.Name x p) (e :: es) [⟨some nm, ek, kpos⟩] pos) (fMkK c Fn fs fk) := by
  obtain ⟨ta, a1, a2⟩ := ha
  obtain ⟨tk, k1, k2⟩ := hk
  refine ⟨tMkK C ks.length (spD G (.mu :: (ks ++ [.bo])) Fn) (fun σ => WE W σ) ta (tCons tk tNil), fun X c => pe_mkK (by rw [c.hK]; exact mk) (c.fn ok) (c.room.mono hj) (gl_of c.hsc hg) (by rw [c.hmg]; exact hm) (by rw [c.hK]; exact hb) c.pass (a1 X c) (pk_cons (k1 X c) pk_nil) (hall _) (hkn _) hd (hp _ _) (hpl _), fun Z F B H σ ρ s r hr Q q => ?_⟩
  rcases bnd_some hr with ⟨ds, ed, hr⟩ | ⟨x, ex, rfl⟩
  · refine a2 Z F B H σ ρ s _ ed _ fun F1 B1 H1 vs u1 q1 => ?_
    have p1 := par_of (G := G) hks q1
    rcases bnd_some hr with ⟨z, ez, hr⟩ | ⟨z, ez, rfl⟩
    · refine k2 Z F1 B1 H1 σ ρ (s.up u1) _ ez _ fun F2 B2 H2 v u2 q2 => ?_
      have p2 := ParR.grow (G := G) u2.f u2.h hks p1
      refine ⟨by rw [← p1.length], rfl, fun y dy hy hdy hne => ?_⟩
      refine sp_mk hct (by rw [List.all_append, hks]; rfl) u2.fb u2.bh (ParR.snoc (kk := .bo) rfl hks p2 ⟨v, [], rfl, q2, rfl⟩) hr (q.weak (u1.trans u2)) hy hdy hne
    · exact k2 Z F1 B1 H1 σ ρ (s.up u1) _ ez _ (fun F' B' H' cls dx u hx => q F' B' H' cls dx (u1.trans u) hx)
  · exact a2 Z F B H σ ρ s _ ex _ q
end
end DL
namespace DL
open PySem PySem.Spec L2
theorem meets_enT (l : Addr) (items : Array Value) (n : Nat) (dct : Option Addr) (sl : Array (Option Value)) :
    Meets (Builtin.«enumerate.__new__» ⟨[.type "enumerate", .ref l], []⟩) (fun _ R s => s.heap.get? l = some { cls := .type "tuple", dict := dct, data := .seq items n, slots := sl } ∧
      R (.ok (.ret (.ref (s.heap.push { cls := .type "tuple_iterator", data := .fields #[.ref l, .int 0 0] }).objs.size)))
        { s with heap := (s.heap.push { cls := .type "tuple_iterator", data := .fields #[.ref l, .int 0 0] }).push { cls := .type "enumerate", data := .fields #[.none, .bool false, .ref s.heap.objs.size, rawInt 0, .none, .none] } }) :=
  .of_wp fun prog w A R s h => by
    obtain ⟨hp, g, d, tk, os⟩ := s
    obtain ⟨hl, h⟩ := h
    have hsub := sub_enumerate
    have hL : Heap.IsTuple (Shared.heap ⟨hp, g, d, tk, os⟩) l items := ⟨_, hl, rfl, n, rfl⟩
    wp_walk using AutoSeq1.wpAny_loadPart' hl
    refine wpAny_stack_any fun st => wpAny_pure ?_
    split
    · rename_i c _ _ _ _ _
      cases (c == Value.type "enumerate") <;> (wp_walk using AutoSeq1.wpAny_loadPart' hl, wpAny_pyIter_tuple hL; exact ⟨_, rfl, h⟩)
    · wp_walk using AutoSeq1.wpAny_loadPart' hl, wpAny_pyIter_tuple hL
      exact ⟨_, rfl, h⟩
end DL
namespace DL
open PySem PySem.Spec L2
def SqB (K : PySem.W.Frag) (b : Bool) (H : Hp) (a : Addr) (xs : List V) : Prop := if b = true then SqT K H a xs else SqL K H a xs
def SqH (b : Bool) (h : Heap) (a : Addr) (its : Array Value) : Prop := if b = true then h.IsTuple a its else h.IsList a its
def SqI (b : Bool) (h : Heap) (it a : Addr) (i : Nat) : Prop := if b = true then h.IsTupleIter it a i else h.IsListIter it a i
section
variable {X : Cx} {pins : List (Addr × Obj)} {σ : L2.St} {H : Hp} {s : Shared} {b : Bool} {a it : Addr} {xs ys : List V} {h h' : Heap} {its : Array Value} {i : Nat}
theorem sqb_at (I : Inv X pins σ H s) (q : SqB X.K b H a xs) : ∃ its : List Value, Vals xs its ∧ SqH b s.heap a its.toArray := by
  cases b with
  | true =>
    obtain ⟨its, rv, p, hz⟩ := I.tuple (show SqT X.K H a xs from q)
    exact ⟨its, rv, p⟩
  | false =>
    obtain ⟨its, rv, p, hz⟩ := I.list (show SqL X.K H a xs from q)
    exact ⟨its, rv, p.isList⟩
theorem sqb_inj (I : Inv X pins σ H s) (q : SqB X.K b H a xs) (q' : SqB X.K b H a ys) : xs = ys := by
  cases b with
  | true => exact I.tuple_inj (show SqT X.K H a xs from q) q'
  | false => exact I.list_inj (show SqL X.K H a xs from q) q'
theorem SqI.at (q : SqI b h it a i) (k : ∀ o, h.get? it = some o → h'.get? it = some o) : SqI b h' it a i := by
  cases b with
  | true =>
    obtain ⟨o, e, c, d⟩ := (show h.IsTupleIter it a i from q)
    exact (show h'.IsTupleIter it a i from ⟨o, k o e, c, d⟩)
  | false => exact (show h.IsListIter it a i from q).at k
theorem SqI.obj (q : SqI b h it a i) : ∃ o n vs, h.get? it = some o ∧ o.cls = .type n ∧ (n = "tuple_iterator" ∨ n = "list_iterator") ∧ o.data = .fields vs := by
  cases b with
  | true =>
    obtain ⟨o, e, c, d⟩ := (show h.IsTupleIter it a i from q)
    exact ⟨o, _, _, e, c, .inl rfl, d⟩
  | false =>
    obtain ⟨o, e, c, d⟩ := (show h.IsListIter it a i from q)
    exact ⟨o, _, _, e, c, .inr rfl, d⟩
theorem SqH.obj (q : SqH b h a its) : ∃ o n, h.get? a = some o ∧ o.data = .seq its n := by
  cases b with
  | true =>
    obtain ⟨o, e, c, n, d⟩ := (show h.IsTuple a its from q)
    exact ⟨o, n, e, d⟩
  | false =>
    obtain ⟨o, e, c, n, d⟩ := (show h.IsList a its from q)
    exact ⟨o, n, e, d⟩
theorem draw_B {prog : Program} {w : World} {A : Around} (hh : A.handled = none) (b : Bool) (it l : Addr) (hne : l ≠ it) (items : Array Value) : Draws prog w A it [it, l] items.size (fun i v => items[i]? = some v) (fun i h => SqI b h it l i ∧ SqH b h l items) := by
  cases b with
  | true => exact Draws.tuple hh it l hne items
  | false => exact Draws.list hh it l hne items
end
theorem next_end {prog : Program} {w : World} {A : Around} {E : Value → Shared → Prop} {s : Shared} {b : Bool} {it l : Addr} {i : Nat} {items : Array Value} {Q : Value → Shared → Prop} (hh : A.handled = none) (hit : SqI b s.heap it l i) (hl : SqH b s.heap l items) (hx : items[i]? = none)
    (hE : ∀ h' e, Heap.ExtBut it s.heap h' → (∃ o, h'.get? e = some o ∧ o.cls = .type "StopIteration") → E (.ref e) { s with heap := h' }) : wpAny (model prog w) A (Builtin.SmallTypes.nextOf (.ref it)) Q E s := by
  cases b with
  | true => exact wpAny_nextOf_tuple_end hh hit hl hx hE
  | false => exact wpAny_nextOf_list_end hh hit hl hx hE
theorem en_end {prog : Program} {w : World} {A : Around} {E : Value → Shared → Prop} {s : Shared} {b : Bool} {e it l : Addr} {i : Nat} {items : Array Value} {old : Value} {Q : Option Value → Shared → Prop} (hh : A.handled = none)
    (he : IsEnum s.heap e it i old) (hit : SqI b s.heap it l i) (hl : SqH b s.heap l items) (hx : items[i]? = none) (hQ : ∀ h', Heap.ExtBut it s.heap h' → Q none { s with heap := h' }) : wpAny (model prog w) A (pyNext (.ref e)) Q E s := by
  have ty : s.TypeIs (.ref e) "enumerate" := ⟨_, he, rfl⟩
  unfold pyNext
  refine wpAny_bind (wpAny_attempt (wpAny_callSpecial?_slot (name := Str.ofString "__next__") ty F.slot_enumerate_next (wpAny_call_entry F.slot_enumerate_next ty F.entry_enumerate_next ?_ (F.args_enumerate_next_1 _))))
  show wpAny _ _ (field (.ref e) 2 >>= _) _ _ _
  refine wpAny_bind (wpAny_field he rfl (x := .ref it) rfl (wpAny_bind (next_end hh hit hl hx fun h' x he' hx' => ?_)))
  obtain ⟨o, ho, hc⟩ := hx'
  exact wpAny_bind (wpAny_isInstance (T := "StopIteration") (b := true) ⟨o, ho, hc⟩ isSubtype_stop (wpAny_pure (hQ _ he')))
def ItE (K : PySem.W.Frag) (b : Bool) (a : Addr) : It :=
  ⟨fun i H => ∃ (xs : List V) (x : V), SqB K b H a xs ∧ xs[i]? = some x, fun i H v H' => ∃ (T : Addr) (o : Obj) (x : V), v = .ref T ∧ H T = none ∧ o.dict = none ∧ H' = upd H T (.frz o (.tup [.int (i : Nat), x])) ∧ ∀ xs, SqB K b H a xs → xs[i]? = some x, fun i H => ∃ xs : List V, SqB K b H a xs ∧ xs.length ≤ i⟩
theorem turn_enB {P : Program} {w : World} {K : PySem.W.Frag} {elts : List Expr} {kk : Nat} {tpos : Pos} (b : Bool) (a e it : Addr) :
    Turn P w K (.Tuple elts kk tpos) (ItE K b a) [e, it] e (fun i h => (∃ old, IsEnum h e it ((i : Nat) : Int) old) ∧ SqI b h it a i ∧ e ≠ it) where
  mem := List.mem_cons_self
  obj := fun i h st c hc => by
    obtain ⟨⟨old, he⟩, hi, _⟩ := st
    rcases List.mem_cons.mp hc with z | z
    · rw [z]
      exact ⟨_, he, fun v q => nomatch q⟩
    · obtain ⟨o, n, vs, ho, _, _, hd⟩ := hi.obj
      rw [List.mem_singleton.mp z]
      exact ⟨o, ho, fun v q => by rw [hd] at q; cases q⟩
  keep := fun i h h' st k => by
    obtain ⟨⟨old, he⟩, hi, hne⟩ := st
    exact ⟨⟨old, k e List.mem_cons_self _ he⟩, hi.at fun o q => k it (List.mem_cons_of_mem _ List.mem_cons_self) o q, hne⟩
  item := by
    intro X hP hw hK hc i pins s σ H E I hf st hg
    subst hP hw hK
    obtain ⟨⟨old, he⟩, hit, hne⟩ := st
    obtain ⟨xs, x, hq, hx⟩ := hg
    obtain ⟨its, rv, p⟩ := sqb_at I hq
    obtain ⟨u, hu, ru⟩ := rv.get hx
    have hel : e < s.heap.objs.size := Heap.lt_size he
    obtain ⟨oi, ni, vi, hoi, hci, hni, hdi⟩ := hit.obj
    obtain ⟨oa, na, hoa, hda⟩ := p.obj
    have hil : it < s.heap.objs.size := Heap.lt_size hoi
    have hai : a ≠ it := fun z => by
      rw [z, hoi] at hoa
      have e1 := Option.some.inj hoa
      subst e1
      rw [hdi] at hda
      cases hda
    have hea : e ≠ a := fun z => by
      have he2 : s.heap.get? e = some oa := by rw [z]; exact hoa
      have e1 := Option.some.inj (he.symm.trans he2)
      subst e1
      cases hda
    have hlt : i < its.toArray.size := by
      have := (List.getElem?_eq_some_iff.mp hu).1
      simpa using this
    refine wpAny_pyNext_enum_itemD (draw_B (A := X.A.in1) (show X.A.in1.handled = none from I.ok.hd hc) b it a hai its.toArray) he ⟨hit, p⟩ hlt hne (by simp [hne, hea]) fun x' h' tk hx' ho hst hT hsz hk => ?_
    have exu : x' = u := by
      have : its.toArray[i]? = some u := by simpa using hu
      rw [this] at hx'
      exact (Option.some.inj hx').symm
    subst exu
    refine ⟨_, rfl, wpAny_letOwnedTupleGo_enum (s := { s with heap := h', toks := tk + 1 }) ho fun h'' he' sb => ?_⟩
    have hT2 : h''.get? s.heap.objs.size = some { cls := .type "tuple", data := .seq #[.int i tk, x'] } := (sb.2 _ (Nat.ne_of_gt hel)).trans hT
    have new : ObjOk X.prog X.w (upd H s.heap.objs.size (.frz { cls := .type "tuple", data := .seq #[.int i tk, x'] } (.tup [.int (i : Nat), x]))) h'' s.heap.objs.size (.frz { cls := .type "tuple", data := .seq #[.int i tk, x'] } (.tup [.int (i : Nat), x])) :=
      ⟨hT2, by show 2 ≤ sizeLine; decide, [.int i tk, x'], .cons ⟨_, rfl⟩ (.cons ru .nil), ⟨_, hT2, rfl, _, rfl⟩⟩
    have I1 : Inv X pins σ (upd H s.heap.objs.size (.frz { cls := .type "tuple", data := .seq #[.int i tk, x'] } (.tup [.int (i : Nat), x]))) { s with heap := h'', toks := tk + 1 } :=
      I.turnedNew (ch := [e, it]) (fun c ob hc2 q => (sb.2 c (fun z => hc2 (by simp [z]))).trans (hk c ob (fun z => hc2 (by simp [z])) (fun z => hc2 (by simp [z])) q)) hf (Nat.le_refl _) new
    refine ⟨.ref s.heap.objs.size, _, I1, rfl, ⟨_, _, x, rfl, I.hok.fresh (Nat.le_refl _), rfl, rfl, fun zs hz => by rw [sqb_inj I hz hq]; exact hx⟩, ⟨⟨x', ?_⟩, hst.1.at fun o q => (sb.2 it (Ne.symm hne)).trans q, hne⟩, fun c hc2 => ?_⟩
    · rw [show ((i + 1 : Nat) : Int) = (i : Int) + 1 by omega]
      exact he'
    · have hb' : c < s.heap.objs.size := by
        rcases List.mem_cons.mp hc2 with z | z
        · rw [z]; exact hel
        · rw [List.mem_singleton.mp z]; exact hil
      rw [upd_ne (Nat.ne_of_lt hb')]
      exact (hf c hc2).1
  done := by
    intro X hP hw hK hc i pins s σ H E I hf st hg
    subst hP hw hK
    obtain ⟨⟨old, he⟩, hit, hne⟩ := st
    obtain ⟨xs, hq, hx⟩ := hg
    obtain ⟨its, rv, p⟩ := sqb_at I hq
    obtain ⟨f0, f1, f2, f3, f4, f5⟩ := hf it (List.mem_cons_of_mem _ List.mem_cons_self)
    have hl := rv.length
    have hn : its.toArray[i]? = none := by simp; omega
    refine en_end (I.ok.hd hc) he hit p hn fun h' eb => ⟨rfl, I.turned (t' := s.toks) (fun c o hc2 q => eb c o hc2 q) f0 f1 f3 f4 f5⟩
  self := fun A i s Q E st h => by
    obtain ⟨⟨_, he⟩, _⟩ := st
    exact wpAny_pyIter_enum he h
end DL
namespace DL
open PySem PySem.Spec L2
theorem call_en {prog : Program} {w : World} {A : Around} {E : Value → Shared → Prop} {s : Shared} {b : Bool} {l : Addr} {items : Array Value} {Q : Value → Shared → Prop} (hL : SqH b s.heap l items)
    (h : ∀ h', IsEnum h' (s.heap.objs.size + 1) s.heap.objs.size 0 .none → SqI b h' s.heap.objs.size l 0 → h'.objs.size = s.heap.objs.size + 2 → (∀ c o, s.heap.get? c = some o → h'.get? c = some o) → Q (.ref (s.heap.objs.size + 1)) { s with heap := h' }) :
    wpAny (model prog w) A (call (.type "enumerate") [.ref l]) Q E s := by
  cases b with
  | false => exact call_enumerate_list hL h
  | true =>
    obtain ⟨⟨c, dct, dt, sl⟩, hl, hc, n, hd⟩ := (show s.heap.IsTuple l items from hL)
    obtain rfl : c = .type "tuple" := hc
    obtain rfl : dt = .seq items n := hd
    refine callType_new F.called_enumerate (by decide) (F.typeCall_enumerate_1 _) (F.newCall_enumerate_1 _) (fun obj => F.args_object_init_2 obj _) F.entry_enumerate_new (meets_enT l items n dct sl) ⟨hl, ?_⟩
    have hz : (s.heap.push { cls := .type "tuple_iterator", data := .fields #[.ref l, .int 0 0] }).objs.size = s.heap.objs.size + 1 := Heap.size_push ..
    show _ ∧ _
    rw [hz]
    have he : IsEnum ((s.heap.push { cls := .type "tuple_iterator", data := .fields #[.ref l, .int 0 0] }).push { cls := .type "enumerate", data := .fields #[.none, .bool false, .ref s.heap.objs.size, rawInt 0, .none, .none] }) (s.heap.objs.size + 1) s.heap.objs.size 0 .none := by
      have q := Heap.get?_push_size (s.heap.push { cls := .type "tuple_iterator", data := .fields #[.ref l, .int 0 0] }) (o := { cls := .type "enumerate", data := .fields #[.none, .bool false, .ref s.heap.objs.size, rawInt 0, .none, .none] }) rfl
      rw [hz] at q
      exact q
    exact ⟨⟨_, he, rfl⟩, h _ he ⟨_, Heap.get?_push_of_some _ (Heap.get?_push_size _ rfl), rfl, rfl⟩ (by rw [Heap.size_push, hz]) fun c o x => Heap.get?_push_of_some _ (Heap.get?_push_of_some _ x)⟩
theorem boot_en : bootBuiltins "enumerate" = some (.type "enumerate") := by decide +kernel
def iEn (K : PySem.W.Frag) (ta : TA) : TI := fun σ H R => ta σ H fun vs H1 => ∃ b a xs, vs = [.ref a] ∧ SqB K b H1 a xs ∧ R (ItE K b a) H1
theorem pi_en {X : Cx} {e : Expr} {ta : TA} {p pos tpos : Pos} {elts : List Expr} {kk : Nat} (hg : Gl X "enumerate") (hm : X.mg "enumerate" = none) (ha : PA X [e] ta) (hs : starEach [e] X.env = [(false, eval e X.env)]) :
    PI X (.Tuple elts kk tpos) (.Call (.Name "enumerate" p) [e] [] pos) (iEn X.K ta) := by
  refine ⟨fun pins s σ H R I h => PyProof.Rows.Call_ (ld_blt I hg hm boot_en (PyProof.Rows.callWith_type1 (thn (ha.run pos pins s σ H _ I h) fun us s1 ⟨vs, H1, I1, r1, b, a, xs, ex, hq, q⟩ => ?_) hs rfl))⟩
  subst ex
  obtain ⟨u, rfl, ru⟩ := vals1 r1
  obtain rfl : u = Value.ref a := ru
  obtain ⟨its, rv, p'⟩ := sqb_at I1 hq
  refine call_en p' fun h' he hit hsz hk => wpAny_pyIter_enum he ?_
  have I2 : Inv X pins σ H1 { s1 with heap := h' } := I1.kept (t' := s1.toks) hk
  refine ⟨s1.heap.objs.size + 1, [s1.heap.objs.size + 1, s1.heap.objs.size], _, _, H1, rfl, I2, turn_enB b a (s1.heap.objs.size + 1) s1.heap.objs.size, ⟨⟨.none, he⟩, hit, Nat.succ_ne_self _⟩, fun c hc => ?_, q⟩
  have hle : s1.heap.objs.size ≤ c := by
    rcases List.mem_cons.mp hc with z | z
    · rw [z]; exact Nat.le_add_right _ _
    · rw [List.mem_singleton.mp z]; exact Nat.le_refl _
  exact I1.fpOk hle (I1.hok.fresh hle)
def enumD : Nat → List D → List D
  | _, [] => []
  | n, d :: ds => .tup [.int (n : Nat), d] :: enumD (n + 1) ds
theorem enumD_len : ∀ (n : Nat) (l : List D), (enumD n l).length = l.length
  | _, [] => rfl
  | n, d :: ds => congrArg Nat.succ (enumD_len (n + 1) ds)
theorem enumD_at : ∀ (n i : Nat) (l : List D), (enumD n l)[i]? = (l[i]?).map fun d => .tup [.int ((n + i : Nat) : Int), d]
  | n, i, [] => by simp [enumD]
  | n, 0, d :: ds => rfl
  | n, i + 1, d :: ds => by
    show (enumD (n + 1) ds)[i]? = _
    rw [enumD_at (n + 1) i ds, List.getElem?_cons_succ, show n + 1 + i = n + (i + 1) by omega]
theorem itr_en {G : Gm} {F B : Hp} {a : Addr} {b : Bool} {l : List D} {vs : List V} (h : SqB G.K b B a vs) (r : RepL G F l vs) : ItR G F B (ItE G.K b a) (enumD 0 l) := by
  have up : ∀ {H : Hp}, Same B H → SqB G.K b H a vs := fun {H} e => by
    cases b with
    | true =>
      have h : SqT G.K B a vs := h
      show SqT G.K H a vs
      rcases h with (h | ⟨o, h⟩) | h
      · exact .inl (.inl (e _ _ h))
      · exact .inl (.inr ⟨o, e _ _ h⟩)
      · exact .inr h
    | false => exact e.seq h
  have hl : (enumD 0 l).length = l.length := enumD_len 0 l
  exact {
    goes := fun i H hi hb => ⟨vs, vs[i]'(by rw [r.length, ← hl]; exact hi), up hb, by simp⟩
    stops := fun H hb => ⟨vs, up hb, by rw [r.length, hl]; exact Nat.le_refl _⟩
    yields := fun i H x H1 hi hb y F1 B1 gr fb bh => by
      obtain ⟨T, o, z, rfl, hT, hd, rfl, hz⟩ := y
      have e := hz vs (up hb)
      obtain ⟨d, e1, e2⟩ := r.getV e
      have u1 : Up F1 B1 H F1 B1 (upd H T (.frz o (.tup [.int (i : Nat), z]))) := Up.new fb bh hT
      have hbT : B1 T = none := none_of_same bh hT
      have u2 := u1.share hT hbT (upd_same (H := H))
      refine ⟨_, _, .tup [.int (i : Nat), d], ?_, u2, T, [.int (i : Nat), z], rfl, .inl ⟨o, upd_same, hd⟩, ?_⟩
      · rw [enumD_at, e1, Nat.zero_add]
        rfl
      · have f2 : Same F1 (upd F1 T (.frz o (.tup [.int (i : Nat), z]))) := u2.f
        exact ⟨_, _, rfl, rfl, z, [], rfl, e2.mono (gr.f.trans f2), rfl⟩ }
section
variable {G : Gm} {k : Nat} {W : WX} {N : List Str} {sc : Scope} {e : Expr} {f : En → M D} {pos p tpos : Pos} {elts : List Expr} {kk : Nat}
def Cl (f : En → M D) : En → M (List D) := fun ρ => (f ρ).bnd fun x => up1 ((itemsD x).map (enumD 0))
theorem ji_en (hg : glB sc "enumerate" = true) (hm : G.mg "enumerate" = none) (hs : ∀ env : Env, starEach [e] env = [(false, eval e env)]) (hp : PlainArg e) (h : JE G k W N sc .borrow e f) : JI G k W N sc (.Tuple elts kk tpos) (.Call (.Name "enumerate" p) [e] [] pos) (Cl f) := by
  obtain ⟨te, h1, h2⟩ := h
  refine ⟨iEn G.K (tCons te tNil), fun X c => by rw [← c.hK]; exact pi_en (gl_of c.hsc hg) (by rw [c.hmg]; exact hm) (pa_cons (h1 X c) pa_nil (hp _ _)) (hs _), fun Z F B H σ ρ s r hr R q => ?_⟩
  rcases bnd_some hr with ⟨x, ex, hr⟩ | ⟨x, ex, rfl⟩
  · refine h2 Z F B H σ ρ s _ ex _ fun F1 B1 H1 v1 u1 k1 => ?_
    have k1 : Top G F1 B1 x v1 := k1
    obtain ⟨items, e1, rfl⟩ := up1_ok hr
    obtain ⟨l, e2, rfl⟩ := Option.map_eq_some_iff.mp e1
    cases x <;> first | cases e2 | skip
    · rename_i l0
      obtain ⟨p1, vs, rfl, a1, a2⟩ := topT u1.fb k1
      refine ⟨true, p1, vs, rfl, ?_, q F1 B1 H1 _ u1 (itr_en (b := true) a1 a2)⟩
      show SqT G.K H1 p1 vs
      rcases a1 with (a1 | ⟨o, a1⟩) | a1
      · exact .inl (.inl (u1.bh _ _ a1))
      · exact .inl (.inr ⟨o, u1.bh _ _ a1⟩)
      · exact .inr a1
    · rename_i l0
      obtain ⟨p1, vs, rfl, a1, a2⟩ := topL k1
      exact ⟨false, p1, vs, rfl, SqL.of (u1.bh _ _ a1), q F1 B1 H1 _ u1 (itr_en (b := false) (SqL.of a1) a2)⟩
  · exact h2 Z F B H σ ρ s _ ex _ q
end
end DL
namespace DL
open PySem PySem.Spec L2
section
variable {X : Cx} {Ct : CXT} {k : Nat} {f : Addr} {fd : FuncData} {ps : List Str} {sp : Sp} {E : L2.St → XK} {A1 : Around}
theorem run_at {pp : List (Addr × Obj)} {σ : L2.St} {H : Hp} {s : Shared} {Q : VK} {us : List Value} {vs : List V} (ok : FnOk X.prog X.w X.K X.mg X.base Ct k f fd ps sp) (rm : Room k A1) (fr : A1.frames = X.A.frames) (bi : Binds X.K fd ps []) (pa : PassesAt Ct X σ (E σ))
    (I : Inv X pp σ H s) (r : Vals vs us) (h : sp vs H Q (E σ)) : wpAny (model X.prog X.w) A1 (call (.ref f) us) (EP X pp σ Q) X.xe s := by
  have e0 : Env0 X.prog X.w X.K X.mg X.base A1 X.stack s H := by
    have e := I.env0
    exact ⟨by rw [fr]; exact e.frames, e.mod, e.bs, e.bsz, e.funs, e.frf, e.hok, e.bare⟩
  have hl : us.length = ps.length := by rw [← r.length]; exact ok.len _ _ _ _ h
  have b := bi s us I.kIn (by rw [List.append_nil]; exact hl)
  rw [List.append_nil] at b
  refine wpAny_call (codeAny_mono (ok.run A1 X.stack s H ⟨us, []⟩ us vs Q (E σ) rm e0 b r h) fun r s' hq => ?_)
  match r, hq with
  | .error e, hq => exact pa pp H s e s' I hq
  | .ok (.ret u), hq => exact I.after hq
  | .ok .next, hq => exact hq.elim
  | .ok .brk, hq => exact hq.elim
  | .ok .cont, hq => exact hq.elim
end
def okLen : D → Bool
  | .int n => decide (0 ≤ n) && decide (n ≤ 16000000)
  | _ => false
theorem okLen_eq {d : D} (h : okLen d = true) : ∃ n, d = .int n ∧ 0 ≤ n ∧ n ≤ 16000000 := by
  cases d <;> first | cases h | skip
  rename_i n
  obtain ⟨h1, h2⟩ := Bool.and_eq_true_iff.mp h
  exact ⟨n, rfl, of_decide_eq_true h1, of_decide_eq_true h2⟩
def isLenV : V → Prop := fun v => ∃ n : Int, v = .int n ∧ 0 ≤ n ∧ n ≤ 16000000
def rLenO (G : Gm) (C : Addr) (Fn : List D → Option FOut) : List V → Hp → VK → Prop := fun vs H Q => ∃ a dx fs, vs = [.ref a] ∧ H a = some (.ins C dx fs) ∧ spD G [.bo] Fn [.ref a] H (fun v H' => isLenV v ∧ Q v H') (fun _ _ _ => False)
def only (okD : D → Bool) : M D → Option D
  | some (.ok d) => if okD d = true then some d else none
  | _ => none
theorem only_some {okD : D → Bool} {m : M D} {d : D} (h : only okD m = some d) : m = some (.ok d) ∧ okD d = true := by
  unfold only at h
  split at h
  · rename_i d'
    split at h
    · rename_i hk
      have e := Option.some.inj h
      subst e
      exact ⟨rfl, hk⟩
    · cases h
  · cases h
def opLenO (c : Nat) (Fn : List D → Option FOut) : List D → Option D
  | [x] => if isObj c x = true then only okLen (Cr (Fn [x])) else none
  | _ => none
section
variable {G : Gm} {k j : Nat} {W : WX} {N : List Str} {sc : Scope} {C ad : Addr} {fd : FuncData} {ps : List Str} {Fn : List D → Option FOut} {e : Expr} {fa : En → M D} {p pos : Pos} {kd : Kd}
theorem s_lenO {c : Nat} {ns : List Str} (hct : G.ct c = some (C, ns)) : CaS G kd (rLenO G C Fn) [.peek] (opLenO c Fn) := by
  intro F B H fb bh xs vs hx d hd Q q
  unfold opLenO at hd
  split at hd
  · rename_i x
    split at hd
    · rename_i hob
      obtain ⟨gs, rfl⟩ := isObj_eq hob
      obtain ⟨e1, e2⟩ := only_some hd
      obtain ⟨n, rfl, h1, h2⟩ := okLen_eq e2
      obtain ⟨v, rfl, pa, rfl, C', ns', dx, ws, a1, a2, a3⟩ := ar1 hx
      have a1' := a1
      rw [hct] at a1
      cases a1
      refine ⟨pa, dx, _, rfl, a2, ?_⟩
      refine sp_callF (W := fun _ _ _ _ => False) (σ := []) (ks := [.bo]) (ds := [.obj c gs]) (r := .ok (.int n)) rfl fb bh ⟨.ref pa, [], rfl, ⟨pa, rfl, C, ns, dx, ws, hct, a2, a3⟩, rfl⟩ e1 fun F' B' H' v u kr => ?_
      have ev : v = .int n := kr_imm (d := .int n) rfl kr
      exact ⟨⟨n, ev, h1, h2⟩, q F' B' H' v u (KR.scal rfl ev)⟩
    · cases hd
  · cases hd
theorem call_lenO {X : Cx} (cn : CnE G k W N sc X) (me : Meth G.K C "__len__" ad) (ok : FnG G j ad fd ps [.bo] Fn) (hj : j + 1 ≤ k) (hb : Binds G.K fd ps []) : CallR X (.builtin "len") (rLenO G C Fn) := by
  intro pins s σ H xs us Q I r h
  obtain ⟨a, dx, fs, rfl, ha, hsp⟩ := h
  obtain ⟨u, rfl, ru⟩ := vals1 r
  obtain rfl : u = Value.ref a := ru
  obtain ⟨mA, J, _⟩ := ins_get I.hok ha
  obtain ⟨od, J, _⟩ := J.look
  obtain ⟨m0, hF⟩ := I.fr
  refine PySem.W.len_K hF I.ok.mod.kin J (by rw [cn.hK]; exact me.at_) (by rw [cn.hK]; exact me.fn) ?_
  refine wpAny_mono (run_at (A1 := X.A.in1) (E := fun _ _ _ _ => False) (us := [.ref a]) (vs := [.ref a]) (cn.fn ok) (cn.room.mono hj).in1 rfl (by rw [cn.hK]; exact hb) (fun _ _ _ _ _ _ z => (cx_call z).elim) I (.cons rfl .nil) hsp) (fun z s' hr => ?_) fun _ _ z => z
  obtain ⟨v, H', I', rz, ⟨n, rfl, h1, h2⟩, q⟩ := hr
  obtain ⟨t, rfl⟩ := rz
  exact ⟨⟨h1, by omega⟩, .int n, H', I'.tok _, ⟨_, rfl⟩, q⟩
theorem je_lenO {c : Nat} {ns : List Str} (hct : G.ct c = some (C, ns)) (me : Meth G.K C "__len__" ad) (ok : FnG G j ad fd ps [.bo] Fn) (hj : j + 1 ≤ k) (hb : Binds G.K fd ps []) (hg : glB sc "len" = true) (hm : G.mg "len" = none) (hp : PlainArg e) (hpl : NoStar pos [])
    (ha : JE G k W N sc .peek e fa) : JE G k W N sc kd (.Call (.Name "len" p) [e] [] pos) (Ez (opLenO c Fn) (Ac fa Ba)) :=
  je_callB (id := "len") (r := rLenO G C Fn) (fun X cn => call_lenO cn me ok hj hb) (s_lenO hct) hg hm PySem.boot_len (by decide) (by decide) hp hpl (ja_consP hp ha ja_nil)
end
end DL
namespace DL
open PySem PySem.Spec L2
def rInO (G : Gm) (C : Addr) (Fn : List D → Option FOut) (neg : Bool) : R2 := fun x y H Q => ∃ a dx fs, y = .ref a ∧ H a = some (.ins C dx fs) ∧ spD G [.bo, .bo] Fn [.ref a, x] H (fun v H' => ∃ t, v = .bl t ∧ Q (.bl (t != neg)) H') (fun _ _ _ => False)
def Ch (c : Nat) (Fn : List D → Option FOut) (neg : Bool) : D → D → Option D := fun x y => if isObj c y = true then (match only Eu (Cr (Fn [y, x])) with
  | some (.bl t) => some (.bl (t != neg))
  | _ => none) else none
section
variable {G : Gm} {k j : Nat} {W : WX} {N : List Str} {sc : Scope} {C ad : Addr} {fd : FuncData} {ps : List Str} {Fn : List D → Option FOut} {a b : Expr} {fa fb : En → M D} {pos : Pos} {kd : Kd}
theorem s_inO {c : Nat} {ns : List Str} {neg : Bool} (hct : G.ct c = some (C, ns)) : OpS G kd (rInO G C Fn neg) (Ch c Fn neg) := by
  intro F B H fb bh x y v w hx hy d hd Q q
  unfold Ch at hd
  split at hd
  · rename_i hob
    obtain ⟨gs, rfl⟩ := isObj_eq hob
    cases e : only Eu (Cr (Fn [.obj c gs, x])) with
    | none => rw [e] at hd; cases hd
    | some r =>
      obtain ⟨e1, e2⟩ := only_some e
      obtain ⟨t, rfl⟩ := okBl_eq e2
      rw [e] at hd
      have e3 := Option.some.inj hd
      subst e3
      obtain ⟨pa, rfl, C', ns', dx, ws, a1, a2, a3⟩ := hy
      have a1' := a1
      rw [hct] at a1
      cases a1
      refine ⟨pa, dx, _, rfl, a2, ?_⟩
      refine sp_callF (W := fun _ _ _ _ => False) (σ := []) (ks := [.bo, .bo]) (ds := [.obj c gs, x]) (r := .ok (.bl t)) rfl fb bh ⟨.ref pa, [v], rfl, ⟨pa, rfl, C, ns, dx, ws, hct, a2, a3⟩, v, [], rfl, hx, rfl⟩ e1 fun F' B' H' z u kr => ?_
      have ev : z = .bl t := kr_imm (d := .bl t) rfl kr
      exact ⟨t, ev, q F' B' H' (.bl (t != neg)) u (KR.scal rfl rfl)⟩
  · cases hd
theorem op_inO {X : Cx} (cn : CnE G k W N sc X) (me : Meth G.K C "__contains__" ad) (ok : FnG G j ad fd ps [.bo, .bo] Fn) (hj : j ≤ k) (hb : Binds G.K fd ps []) : OpR X (compareOp .In) (rInO G C Fn false) := by
  intro pins s σ H x y v u Q I rx ry h
  obtain ⟨p, dx, fs, rfl, ha, hsp⟩ := h
  obtain rfl : u = Value.ref p := ry
  obtain ⟨mA, J, _⟩ := ins_get I.hok ha
  obtain ⟨od, J, _⟩ := J.look
  obtain ⟨m0, hF⟩ := I.fr
  refine PySem.W.in_K hF I.ok.mod.kin J (by rw [cn.hK]; exact me.at_) (by rw [cn.hK]; exact me.fn) ?_
  refine wpAny_mono (run_at (A1 := X.A) (E := fun _ _ _ _ => False) (us := [.ref p, v]) (vs := [.ref p, x]) (cn.fn ok) (cn.room.mono hj) rfl (by rw [cn.hK]; exact hb) (fun _ _ _ _ _ _ z => (cx_call z).elim) I (.cons rfl (.cons rx .nil)) hsp) (fun z s' hr => ?_) fun _ _ z => z
  obtain ⟨w, H', I', rz, t, rfl, q⟩ := hr
  obtain rfl : z = Value.bool t := rz
  exact wpAny_truthy_bool ⟨.bl (t != false), H', I', by cases t <;> rfl, q⟩
theorem je_inO {c : Nat} {ns : List Str} (hct : G.ct c = some (C, ns)) (me : Meth G.K C "__contains__" ad) (ok : FnG G j ad fd ps [.bo, .bo] Fn) (hj : j ≤ k) (hb : Binds G.K fd ps []) (ha : JE G k W N sc .peek a fa) (hbb : JE G k W N sc .peek b fb) (hm : behindInMarks .In b = false) :
    JE G k W N sc kd (.Compare a [.In] [b] pos) (Az (Ch c Fn false) fa fb) := je_cmp (fun X cn => op_inO cn me ok hj hb) (s_inO hct) ha hbb hm
end
end DL
namespace DL
open PySem PySem.Spec L2
end DL
namespace DL
open PySem PySem.Spec L2
theorem kb_of {K : PySem.W.Frag} {x qual nm : Str} {params : Arguments} {body : List Stmt} {scope : Scope} {kws : List (Str × V)} {f : Addr} {fd : FuncData} {ps : List Str} {n : Nat} (F : FunD K x qual params body scope [] kws f fd) (hk : kws ≠ [])
    (h : ∀ (D : Addr) (doc pm : Value) (an : Option Addr) (cdv ct : Value) (us ws : List Value), us.length = n → ws.length = 1 → bindArgs (PySem.W.fnOf x qual params body scope .none (.ref D) doc pm an cdv ct) ⟨us, [nm].zip ws⟩ = pure (ps.zip (us ++ ws))) : KB1 K fd ps n nm := by
  obtain ⟨mv, hb⟩ := FunD.kbinds0 (ps := ps) F n [nm] [] (fun us _ ws => us ++ ws) hk (fun q hq => by cases hq) (fun r1 _ r3 => r1.append r3) fun D doc pm an cdv ct us mv ws h1 _ h3 => h D doc pm an cdv ct us ws h1 h3
  exact hb
end DL
namespace DL
open PySem PySem.Spec L2 ItX
theorem run_fnS {CX : CXT} {P : Program} {w : World} {K : PySem.W.Frag} {mg : Str → Option Value} {base : Heap} {k : Nat} {x qual : Str} {params : Arguments} {body : List Stmt} {scope : Scope} {dvs : List V} {kws : List (Str × V)} {f : Addr} {fd : FuncData} {N ps : List Str}
    {A : Around} {outer : List Env} {s : Shared} {H : Hp} {args : Args} {us : List Value} {vs : List V} {Q : VK} {E : XK}
    (Fn : FunD K x qual params body scope dvs kws f fd) (S : FnScope N ps scope) (hl : vs.length = ps.length) (hr : Room (k + 1) A) (e0 : Env0 P w K mg base A outer s H) (hb : BindsTo s fd args (ps.zip us)) (r : Vals vs us)
    (hbody : ∀ cdv : Value, Room k (A.deeper (PyProof.Rows.envOfC qual scope s.heap.objs.size f cdv)) → ∃ t, PSs (cxOf CX P w K mg base N qual scope f cdv A outer s H E) body t ∧ t { nx := fun _ H' => Q .non H', rt := Q } (L2.start N vs) H) :
    codeAny (model P w) A (.call (.ref f) args) (CR CX outer P w H s Q E) s := by
  obtain ⟨oc, od, dV, kV, doc, pm, an, cdv, ct, osl, rfl, lk, hcd, _, _⟩ := Fn.ex
  have KX : K.In s.heap := e0.mod.kin.keeps fun b o e => (e0.bs b o e).1
  have lim : s.heap.NoLimit := e0.mod.nolimit.keeps fun b o e => (e0.bs b o e).1
  have hkd : ∀ y ∈ ps.zip us, scope.names.lookup y.1 = some .local ∨ (scope.names.lookup y.1 = some .cell ∧ ((cellsFrom (s.heap.objs.size + 1) scope.names []).lookup y.1).isSome = true) := fun ⟨n, v⟩ hy =>
    (S.par n (List.of_mem_zip hy).1).elim .inl fun q => .inr ⟨q, PySem.W.cellsFrom_some _ _ _ (.inl q)⟩
  refine codeAny_call_function hr.depth (KX _ _ lk) rfl S.co S.gen rfl (PySem.W.codeRec_of KX hcd) (hb _ _ _ _ (wpAny_newFunctionEnv_cells S.kind hkd fun env he s1 x => ?_))
  subst he; refine ⟨lim.keeps x.toInCall.keep, codeAny_func ?_⟩
  obtain ⟨t, ht, hq⟩ := hbody cdv (hr.deeper _)
  have I : Inv (cxOf CX P w K mg base N qual scope f cdv A outer s H E) [] (L2.start N vs) H s1 := inv_start S hr.hd e0 hl r x
  refine wpAny_mono (ht.run [] s1 (L2.start N vs) H _ I hq) (fun fl s' hs => ?_) fun _ _ hs => hs
  have done : ∀ {σ' : L2.St} {H' : Hp} {v : V} {u : Value}, Inv (cxOf CX P w K mg base N qual scope f cdv A outer s H E) [] σ' H' s' → RelV v u → Q v H' → CE outer P w H s Q u s' := fun {σ' H' v u} J rv q => ⟨v, H', J.os, J.bare, J.base, J.hok, rv, q⟩
  match fl, hs with
  | .ret u, ⟨v, σ', H', J, rv, q⟩ => exact done J rv q
  | .next, ⟨σ', H', J, q⟩ => exact done (v := V.non) (u := Value.none) J rfl q
  | .brk, ⟨_, _, _, q⟩ => exact False.elim q
  | .cont, ⟨_, _, _, q⟩ => exact False.elim q
structure ItrC (G : Gm) (C : Addr) (m : Str) : Prop where
  ex : ∃ (f : Addr) (fd : FuncData) (x qual : Str) (params : Arguments) (scope : Scope) (p1 p2 p3 p4 p5 : Pos), FunD G.K x qual params [.Return (some (.Call (.Name "iter" p1) [.Attribute (.Name "self" p2) m p3] [] p4)) p5] scope [] [] f fd ∧ FnScope ["self"] ["self"] scope ∧
    Binds G.K fd ["self"] [] ∧ Meth G.K C "__iter__" f ∧ (∀ X : Cx, X.env.scope = scope → Gl X "iter")
  free : G.mg "iter" = none
def itOwn (c i : Nat) : D → Option (List D) := fun x => (fldD c i x).bind fun y => match y with
  | .tup l => some l
  | _ => none
def Ey (c i : Nat) (f : En → M D) : En → M (List D) := fun ρ => (f ρ).bnd fun x => up1 (itOwn c i x)
end DL
namespace GQB
open PySem PySem.SeqAt GQ
open AutoSeq1 (wpAny_loadPart')
open MeetsSeq MeetsSeq2 MeetsSeq3 SeqRoads2
section
variable {prog : Program} {w : World} {A : Around} {R : Result → Shared → Prop}
end
end GQB
namespace DL
open PySem PySem.Spec L2
def flV : D → Option V
  | .non => some .non
  | .bl b => some (.bl b)
  | .int i => some (.int i)
  | .str s => some (.str s)
  | _ => none
def eqF (x y : D) : Option Bool := match flV x, flV y with
  | some a, some b => some (eqV a b)
  | _, _ => none
def eqOs (f : D → D → Option Bool) : List D → List D → Option (List Bool)
  | x :: xs, y :: ys => match f x y, eqOs f xs ys with
    | some b, some bs => some (b :: bs)
    | _, _ => none
  | _, _ => some []
def eqO (c nf : Nat) (Fn : List D → Option FOut) : Nat → D → D → Option Bool
  | 0, x, y => eqF x y
  | n + 1, .tup l, .tup r => (eqOs (eqO c nf Fn n) l r).map fun t => t.all id && decide (l.length = r.length)
  | n + 1, .lst l, .lst r => if l.length = r.length then (eqOs (eqO c nf Fn n) l r).map fun t => t.all id else some false
  | n + 1, .obj a l, .obj b r => if a = c ∧ b = c ∧ l.length = nf ∧ r.length = nf then (match eqOs (eqO c nf Fn n) l r, Cr (Fn [.obj a l, .obj b r]) with
    | some t, some (.ok (.bl v)) => if v = t.all id then some v else none
    | _, _ => none) else none
  | _ + 1, x, y => eqF x y
section
variable {G : Gm} {X : Cx} {pp : List (Addr × Obj)} {σ : L2.St} {F H : Hp} {s : Shared} {c nf : Nat} {C : Addr} {ns : List Str} {Fn : List D → Option FOut}
end
end DL
namespace GQB
open PySem PySem.SeqAt GQ
open AutoSeq1 (wpAny_loadPart')
open MeetsSeq MeetsSeq2 MeetsSeq3 SeqRoads2
section
variable {prog : Program} {w : World} {A : Around} {E : Value → Shared → Prop} {s : Shared}
end
end GQB
namespace DL
open PySem PySem.Spec L2
section
variable {G : Gm} {X : Cx} {pp : List (Addr × Obj)} {σ : L2.St} {F H : Hp} {s : Shared} {A : Around} {m : Nat}
end
end DL
namespace DL
open PySem PySem.Spec L2
section
variable {G : Gm} {X : Cx} {k j nf c : Nat} {W : WX} {N : List Str} {sc : Scope} {C ad : Addr} {fd : FuncData} {ps : List Str} {ns : List Str} {Fn : List D → Option FOut} {F : Hp}
end
end DL
namespace DL
open PySem PySem.Spec L2
def topO (c nf : Nat) (Fn : List D → Option FOut) (n : Nat) : D → D → Option Bool
  | .tup l, .tup r => (eqOs (eqO c nf Fn n) l r).map fun t => t.all id && decide (l.length = r.length)
  | .lst l, .lst r => if l.length = r.length then (eqOs (eqO c nf Fn n) l r).map fun t => t.all id else some false
  | _, _ => none
def D.eqO (c nf : Nat) (Fn : List D → Option FOut) (n : Nat) : D → D → Option D := fun x y => (topO c nf Fn n x y).map .bl
section
variable {G : Gm} {X : Cx} {k j nf c n : Nat} {W : WX} {N : List Str} {sc : Scope} {C ad : Addr} {fd : FuncData} {ps : List Str} {ns : List Str} {Fn : List D → Option FOut} {F : Hp} {a b : Expr} {fa fb : En → M D} {kd : Kd} {pos : Pos}
end
end DL
namespace DL
open PySem PySem.Spec L2
theorem sw_cell {env : Env} {sc scope : Scope} {elt : Expr} {gens : List Comprehension} {pos p : Pos} {t : Str} {line : Nat} (h : env.scope = sc) (hc : (sc.names.lookup t == some NameKind.local) = false) : swapsWith (.ListComp elt gens scope pos) (some (.Name t p)) line env = pure false := by
  subst h
  show (pure (env.blockKind == .function && env.kindOf t == some .local && p.line == pos.line && !(scope.names.any fun (n, k) => n == t && (k == .local || k == .cell))) : Sem Bool) = pure false
  have e : (env.kindOf t == some NameKind.local) = false := hc
  rw [e, Bool.and_false, Bool.false_and, Bool.false_and]
end DL
namespace DL
section
open PySem PySem.W PySem.Calls PyProof.Rows
variable {prog : Program} {w : World} {A : Around} {E : Value → Shared → Prop} {s : Shared} {K : Frag} {x C L f fr : Addr} {h₀ : Heap} {m : Str → Option Value} {ox : Obj} {od : Option Obj} {n : Int} {t : Tok}
end
section
open PySem PySem.Spec L2
variable {G : Gm} {k j : Nat} {W : WX} {N : List Str} {sc : Scope} {X : Cx} {C ad ad2 : Addr} {fd : FuncData} {ps : List Str} {Fn : List D → Option FOut}
variable {a b : Expr} {fa fb : En → M D} {pos : Pos}
end
end DL
namespace DL
open PySem PySem.Spec PyProof.Rows L2
theorem tmul_same (l : Addr) (items : Array Value) (n : Nat) (dd : Option Addr) (sl : Array (Option Value)) (x : Int) (u : Tok) (c0 : (decide (x < -(2 ^ 63)) || decide (x ≥ 2 ^ 63)) = false) (c1 : (items.isEmpty || x == 1) = true) :
    Meets (Builtin.«tuple.__mul__» ⟨[.ref l, .int x u], []⟩) (fun _ R s => s.heap.get? l = some { cls := .type "tuple", dict := dd, data := .seq items n, slots := sl } ∧ R (.ok (.ret (Value.ref l))) s) :=
  .of_wp fun prog w A R s h => by
    obtain ⟨hp, g, d, tk, os⟩ := s
    obtain ⟨hl, h⟩ := h
    have f1 := AutoSeq1.idx_int
    wp_walk using wpAny_loadPart' hl
    repeat (first
      | (refine wpAny_ite_false (decide_eq_false (by rw [c0]; exact Bool.false_ne_true)) ?_; wp_walk using wpAny_loadPart' hl)
      | (refine wpAny_ite_true (decide_eq_true c1) ?_; wp_walk using wpAny_loadPart' hl))
    exact ⟨_, rfl, h⟩
theorem tmul_nil (l : Addr) (items : Array Value) (n : Nat) (dd : Option Addr) (sl : Array (Option Value)) (x : Int) (u : Tok) (c0 : (decide (x < -(2 ^ 63)) || decide (x ≥ 2 ^ 63)) = false) (c1 : (items.isEmpty || x == 1) = false) (c2 : (decide (x ≤ 0) || items.isEmpty) = true) :
    Meets (Builtin.«tuple.__mul__» ⟨[.ref l, .int x u], []⟩) (fun _ R s => s.heap.get? l = some { cls := .type "tuple", dict := dd, data := .seq items n, slots := sl } ∧
      R (.ok (.ret (Value.ref s.heap.objs.size))) { s with heap := s.heap.push { cls := Value.type "tuple", data := Data.seq #[] }, toks := s.toks }) :=
  .of_wp fun prog w A R s h => by
    obtain ⟨hp, g, d, tk, os⟩ := s
    obtain ⟨hl, h⟩ := h
    have f1 := AutoSeq1.idx_int
    wp_walk using wpAny_loadPart' hl
    repeat (first
      | (refine wpAny_ite_false (decide_eq_false (by rw [c0]; exact Bool.false_ne_true)) ?_; wp_walk using wpAny_loadPart' hl)
      | (refine wpAny_ite_false (decide_eq_false (by rw [c1]; exact Bool.false_ne_true)) ?_; wp_walk using wpAny_loadPart' hl)
      | (refine wpAny_ite_true (decide_eq_true c2) ?_; wp_walk using wpAny_loadPart' hl))
    exact ⟨_, rfl, h⟩
def rRepF (K : PySem.W.Frag) : R2 := fun x y H Q => ∃ l k xs, x = .ref l ∧ y = .int k ∧ SqT K H l xs ∧ -1000000 ≤ k ∧ k ≤ 1000000 ∧ xs.length ≤ 1000000 ∧ xs.length * k.toNat ≤ sizeLine ∧
  (xs = [] ∨ k = 1 → Q (.ref l) H) ∧ (¬ (xs = [] ∨ k = 1) → NewT H (List.replicate k.toNat xs).flatten Q)
theorem op_repF {X : Cx} : OpR X (binaryOp .Mult) (rRepF X.K) := by
  intro pins s σ H x y v u Q I rx ry h
  obtain ⟨l, k, xs, rfl, rfl, hT, h1, h2, h3, hz, q1, q2⟩ := h
  cases rx
  obtain ⟨t, rfl⟩ := ry
  obtain ⟨its, r, ⟨⟨cls, dd, data, sl⟩, ho, hc, n, hd⟩, hs⟩ := I.tuple hT
  simp only at hc hd
  subst hc hd
  have hle : its.length = xs.length := r.length.symm
  have hsz0 : its.toArray.size = xs.length := by rw [List.size_toArray, hle]
  have c0 : (decide (k < -(2 ^ 63)) || decide (k ≥ 2 ^ 63)) = false := by
    rw [decide_eq_false (by omega), decide_eq_false (by omega)] <;> rfl
  have he : its.toArray.isEmpty = decide (xs = []) := by
    cases its with
    | nil =>
      have : xs = [] := List.eq_nil_of_length_eq_zero hle.symm
      rw [decide_eq_true this]
      rfl
    | cons a b =>
      have : xs ≠ [] := by
        rintro rfl
        cases hle
      rw [decide_eq_false this]
      rfl
  refine wpAny_binaryOp_repeat_ref (T := "tuple") (U := "int") (by decide) ⟨_, ho, rfl⟩ (fun s' => typeIs_int s' k t) noFill_tuple_mul PySem.F.fills_int_mul PySem.F.slot_int_rmul repeat_tuple PySem.F.slot_int_index.lookup
    (call_meets PySem.F.slot_int_rmul (typeIs_int s k t) PySem.F.entry_int_rmul (PySem.F.args_int_rmul_2 _ _) (int_rmul_tuple k t l its.toArray n dd sl)
      ⟨ho, rfl, ⟨_, ho, rfl⟩, ?_⟩)
  by_cases hc1 : xs = [] ∨ k = 1
  · refine call_meets PySem.F.slot_tuple_mul ⟨_, ho, rfl⟩ PySem.F.entry_tuple_mul (PySem.F.args_tuple_mul_2 _ _) (tmul_same l its.toArray n dd sl k t c0 ?_) ⟨ho, ?_⟩
    · rw [he]
      rcases hc1 with h | h
      · rw [decide_eq_true h]; rfl
      · rw [h]; simp
    · exact ⟨.ref l, H, I, rfl, q1 hc1⟩
  · have hn1 : ¬ xs = [] := fun h => hc1 (.inl h)
    have hn2 : ¬ k = 1 := fun h => hc1 (.inr h)
    have c1 : (its.toArray.isEmpty || k == 1) = false := by
      rw [he, decide_eq_false hn1, Bool.false_or]
      exact beq_eq_false_iff_ne.mpr hn2
    by_cases hk : k ≤ 0
    · have c2 : (decide (k ≤ 0) || its.toArray.isEmpty) = true := by rw [decide_eq_true hk]; rfl
      refine call_meets PySem.F.slot_tuple_mul ⟨_, ho, rfl⟩ PySem.F.entry_tuple_mul (PySem.F.args_tuple_mul_2 _ _) (tmul_nil l its.toArray n dd sl k t c0 c1 c2) ⟨ho, ?_⟩
      have q := q2 hc1
      have e0 : (List.replicate k.toNat xs).flatten = [] := by
        rw [show k.toNat = 0 by omega]
        rfl
      rw [e0] at q
      exact ⟨.ref s.heap.objs.size, _, laidT (us := []) (t' := s.toks) I .nil (by simp), rfl, q _ _ (I.hok.fresh (Nat.le_refl _)) rfl⟩
    · have c2 : (decide (k ≤ 0) || its.toArray.isEmpty) = false := by
        rw [he, decide_eq_false hn1, Bool.or_false]
        exact decide_eq_false hk
      have hm : ((its.toArray.size : Nat) : Int) * k ≤ 1000000000000 := by
        rw [hsz0]
        have a1 : ((xs.length : Nat) : Int) * k ≤ 1000000 * k := Int.mul_le_mul_of_nonneg_right (by omega) (by omega)
        omega
      have hm2 : ((its.toArray.size : Nat) : Int) * k ≤ sizeLine := by
        rw [hsz0]
        have e : k = ((k.toNat : Nat) : Int) := by omega
        rw [e, ← Int.natCast_mul]
        exact Int.ofNat_le.mpr hz
      have c4 : Builtin.Tuple.tupleTooMany (((its.toArray.size : Nat) : Int) * k) = false := by
        unfold Builtin.Tuple.tupleTooMany
        exact decide_eq_false (by omega)
      have flen : (List.replicate k.toNat its).flatten.length ≤ sizeLine := by
        rw [PyProof.Rows.lm_len_rep_flat, hle, Nat.mul_comm]
        exact hz
      refine call_meets PySem.F.slot_tuple_mul ⟨_, ho, rfl⟩ PySem.F.entry_tuple_mul (PySem.F.args_tuple_mul_2 _ _) (tuple_mulW l its.toArray n dd sl k t c0 c1 c2 (by omega) c4 (by rw [size_rep, List.size_toArray]; exact flen)) ⟨ho, ?_⟩
      rw [size_rep]
      exact ⟨.ref s.heap.objs.size, _, laidT (t' := s.toks) I (r.rep k.toNat) (by rw [PyProof.Rows.lm_len_rep_flat, Nat.mul_comm]; exact hz), rfl, q2 hc1 _ _ (I.hok.fresh (Nat.le_refl _)) rfl⟩
def mulT : D → D → Option D
  | .tup xs, .int n => if -1000000 ≤ n ∧ n ≤ 1000000 ∧ xs.length ≤ 1000000 ∧ xs.length * n.toNat ≤ LIM then some (.tup (List.replicate n.toNat xs).flatten) else none
  | _, _ => none
theorem s_mulT {G : Gm} {kd : Kd} : OpS G kd (rRepF G.K) mulT := by
  intro F B H fb bh x y v w hx hy d hd Q q
  unfold mulT at hd
  split at hd
  · rename_i xs n
    split at hd
    · rename_i h
      obtain ⟨h1, h2, h3, h4⟩ := h
      have e := Option.some.inj hd
      subst e
      obtain ⟨p, vs, rfl, g1, g2⟩ := topT (fb.trans bh) hx
      have hw : w = .int n := hy
      subst hw
      refine ⟨p, n, vs, rfl, rfl, g1, h1, h2, by rw [g2.length]; exact h3, lim_line (by rw [g2.length]; exact h4), fun hc => ?_, fun hc => q.newT fb bh (g2.rep n.toNat)⟩
      have e0 : (List.replicate n.toNat xs).flatten = xs := by
        rcases hc with h | h
        · have e0 : xs = [] := List.eq_nil_of_length_eq_zero (by rw [← g2.length, h]; rfl)
          subst e0
          simp
        · rw [h]
          simp
      refine q.here fb bh rfl ?_
      rw [e0]
      exact hx
    · cases hd
  · cases hd
section
variable {G : Gm} {k : Nat} {W : WX} {N : List Str} {sc : Scope} {kd : Kd} {a b : Expr} {fa fb : En → M D} {pos : Pos}
theorem je_mulT (ha : JE G k W N sc .peek a fa) (hb : JE G k W N sc .peek b fb) : JE G k W N sc kd (.BinOp a .Mult b pos) (Az mulT fa fb) := je_bin (fun X c => by rw [← c.hK]; exact op_repF) s_mulT ha hb
end
end DL
namespace DL
open PySem PySem.Spec L2
section
variable {G : Gm} {k : Nat} {W : WX} {N : List Str} {sc : Scope} {kd : Kd} {o e : Expr} {fo fa : En → M D} {apos cpos : Pos}
end
end DL
namespace DL
section
open PySem PySem.W PySem.Calls PyProof.Rows
variable {prog : Program} {w : World} {A : Around} {E : Value → Shared → Prop} {s : Shared} {K : Frag} {x C L f fr : Addr} {h₀ : Heap} {m : Str → Option Value} {ox : Obj} {od : Option Obj} {n : Int} {t : Tok}
end
section
open PySem PySem.Spec L2
variable {G : Gm} {k j i : Nat} {W : WX} {N : List Str} {sc : Scope} {X : Cx} {C ad ad2 : Addr} {fd : FuncData} {ps : List Str} {Fn : List D → Option FOut} {e b : Expr} {f fb : En → M D} {kd : Kd} {x m : Str} {op : Operator} {pos p : Pos} {tb : TE}
theorem SpecE.sh_of_fresh {te : TE} (h2 : SpecE G W .fresh te f) : SpecE G W .shared te f := by
  refine fun Z F B H σ ρ s r hr Q q => h2 Z F B H σ ρ s r hr Q ?_
  cases r with
  | error x => exact q
  | ok d =>
    intro F' B' H' v u hk
    by_cases hm : d.isMut = true
    · have hk : (if d.isMut = true then ∃ p, v = .ref p ∧ H p = none ∧ B' p = none ∧ OwnO G F' H' p d else Rep G F' d v) := hk
      rw [if_pos hm] at hk
      obtain ⟨p, rfl, hp, hb, ho⟩ := hk
      obtain ⟨o, h3⟩ := ho.there
      have u2 := u.share hp hb h3
      refine q _ _ H' _ u2 ?_
      have hf : F' p = none := by
        cases q : F' p with
        | none => rfl
        | some o' => rw [u.fb p o' q] at hb; cases hb
      exact OwnO.rep (ho.mono (F' := upd F' p o) (H' := upd F' p o) (fun a q e => by rw [upd_ne (ne_of_none e hf)]; exact e) fun o' e => by
        rw [h3] at e
        rw [upd_same]
        exact e)
    · have hk : (if d.isMut = true then ∃ p, v = .ref p ∧ H p = none ∧ B' p = none ∧ OwnO G F' H' p d else Rep G F' d v) := hk
      rw [if_neg hm] at hk
      exact q F' B' H' v u hk
end
end DL
namespace DL
open PySem PySem.Spec L2
structure EqR (n : Nat) (d : D) : Prop where
  ex : ∃ p, toP d = some p ∧ PyData.canLay0 p = true ∧ PyData.depth p ≤ n ∧ PyData.eqv p p = true
theorem EqR.mono {n m : Nat} {d : D} (h : EqR n d) (k : n ≤ m) : EqR m d := by
  obtain ⟨p, e1, e2, e3, e4⟩ := h.ex
  exact ⟨p, e1, e2, Nat.le_trans e3 k, e4⟩
theorem EqR.ofEnc {α : Type} [DecidableEq α] {enc : α → D} {n : Nat} (h : EqEnc enc n) (a : α) : EqR n (enc a) := by
  obtain ⟨p, e1, e2, e3⟩ := h.ex a
  exact ⟨p, e1, e2, e3, by rw [h.eq a a p p e1 e1]; exact decide_eq_true rfl⟩
theorem EqR.int (i : Int) : EqR 1 (.int i) := EqR.ofEnc EqEnc.int i
theorem EqR.non : EqR 1 .non := ⟨.none, by unfold toP; rfl, by unfold PyData.canLay0; rfl, by unfold PyData.depth; omega, by unfold PyData.eqv; rfl⟩
theorem EqR.bl (b : Bool) : EqR 1 (.bl b) := ⟨.bool b, by unfold toP; rfl, by unfold PyData.canLay0; rfl, by unfold PyData.depth; omega, by cases b <;> kernel_rfl⟩
theorem EqR.alls {n : Nat} : ∀ {l : List D}, (∀ d ∈ l, EqR n d) → ∃ ps, toPs l = some ps ∧ PyData.canLayAll0 ps = true ∧ PyData.depthAll ps ≤ n ∧ PyData.eqvAll ps ps = true
  | [], _ => ⟨[], by unfold toPs; rfl, by unfold PyData.canLayAll0; rfl, by unfold PyData.depthAll; omega, by unfold PyData.eqvAll; rfl⟩
  | d :: l, h => by
    obtain ⟨p, e1, e2, e3, e4⟩ := (h d List.mem_cons_self).ex
    obtain ⟨ps, f1, f2, f3, f4⟩ := EqR.alls (l := l) fun x hx => h x (List.mem_cons_of_mem _ hx)
    refine ⟨p :: ps, ?_, ?_, ?_, ?_⟩
    · unfold toPs
      rw [e1, f1]
    · unfold PyData.canLayAll0
      rw [e2, f2]
      rfl
    · unfold PyData.depthAll
      omega
    · unfold PyData.eqvAll
      rw [e4, f4]
      rfl
theorem EqR.tup {n : Nat} {l : List D} (h : ∀ d ∈ l, EqR n d) : EqR (n + 1) (.tup l) := by
  obtain ⟨ps, f1, f2, f3, f4⟩ := EqR.alls h
  exact ⟨.tuple ps, by unfold toP; rw [f1]; rfl, by unfold PyData.canLay0; exact f2, by unfold PyData.depth; omega, by unfold PyData.eqv; exact f4⟩
theorem EqR.lst {n : Nat} {l : List D} (h : ∀ d ∈ l, EqR n d) : EqR (n + 1) (.lst l) := by
  obtain ⟨ps, f1, f2, f3, f4⟩ := EqR.alls h
  exact ⟨.list ps, by unfold toP; rw [f1]; rfl, by unfold PyData.canLay0; exact f2, by unfold PyData.depth; omega, by unfold PyData.eqv; exact f4⟩
theorem EqR.shaped {n : Nat} {d : D} (h : EqR n d) (hn : n ≤ 64) : ∃ p, toP d = some p ∧ SeqAt.shaped p = true ∧ PyData.eqv p p = true := by
  obtain ⟨p, e1, e2, e3, e4⟩ := h.ex
  refine ⟨p, e1, ?_, e4⟩
  unfold SeqAt.shaped
  rw [e2, decide_eq_true (Nat.le_trans e3 hn)]
  rfl
theorem EqR.eqd {n : Nat} {d : D} (h : EqR n d) (hn : n ≤ 64) : D.eqd d d = some true := by
  obtain ⟨p, e1, e2, e3⟩ := h.shaped hn
  unfold D.eqd
  rw [e1]
  show (if SeqAt.shaped p = true ∧ SeqAt.shaped p = true then some (PyData.eqv p p) else none) = _
  rw [if_pos ⟨e2, e2⟩, e3]
theorem EqR.eq {n : Nat} {d : D} (h : EqR n d) (hn : n ≤ 64) : D.eq d d = some (.bl true) := by
  unfold D.eq
  rw [h.eqd hn]
  rfl
theorem EqR.ne {n : Nat} {d : D} (h : EqR n d) (hn : n ≤ 64) : D.ne d d = some (.bl false) := by
  unfold D.ne
  rw [h.eqd hn]
  rfl
theorem EqR.ints (l : List Int) : ∀ d ∈ l.map D.int, EqR 1 d := fun d hd => by
  obtain ⟨i, _, rfl⟩ := List.mem_map.mp hd
  exact EqR.int i
end DL
namespace DL
open PySem PySem.Spec L2
def D.str1 : List D → Option D
  | [.int i] => if i.natAbs.log2 < 1920 then some (.str (toString i)) else none
  | _ => none
def rStrI : List V → Hp → VK → Prop := fun xs H Q => ∃ i, xs = [.int i] ∧ i.natAbs.log2 < 1920 ∧ Q (.str (toString i)) H
def isStrV : V → Prop := fun v => ∃ s, v = .str s
def okStr : D → Bool
  | .str _ => true
  | _ => false
theorem okStr_eq {d : D} (h : okStr d = true) : ∃ s, d = .str s := by
  cases d <;> first | exact ⟨_, rfl⟩ | cases h
def rStrO (G : Gm) (C : Addr) (Fn : List D → Option FOut) : List V → Hp → VK → Prop := fun vs H Q => ∃ a dx fs, vs = [.ref a] ∧ H a = some (.ins C dx fs) ∧ spD G [.bo] Fn [.ref a] H (fun v H' => isStrV v ∧ Q v H') (fun _ _ _ => False)
def opStrO (c : Nat) (Fn : List D → Option FOut) : List D → Option D
  | [x] => if isObj c x = true then only okStr (Cr (Fn [x])) else none
  | _ => none
def strs? : List D → Option (List Str)
  | [] => some []
  | .str s :: ds => (strs? ds).map (s :: ·)
  | _ :: _ => none
theorem strs?_eq : ∀ {ds : List D} {ss : List Str}, strs? ds = some ss → ds = ss.map D.str
  | [], ss, h => by
    have e := Option.some.inj h
    subst e
    rfl
  | d :: ds, ss, h => by
    cases d <;> first | cases h | skip
    rename_i s
    obtain ⟨l, e1, rfl⟩ := Option.map_eq_some_iff.mp (show (strs? ds).map (s :: ·) = some ss from h)
    rw [strs?_eq e1]
    rfl
theorem strs?_map : ∀ ss : List Str, strs? (ss.map D.str) = some ss
  | [] => rfl
  | s :: ss => by
    show (strs? (ss.map D.str)).map (s :: ·) = _
    rw [strs?_map ss]
    rfl
theorem repL_strs {G : Gm} {F : Hp} : ∀ {ss : List Str} {vs : List V}, RepL G F (ss.map D.str) vs → vs = ss.map V.str
  | [], vs, h => h
  | n :: ns, vs, h => by
    obtain ⟨v, vs', rfl, h1, h2⟩ := h
    rw [repL_strs h2]
    have h1 : v = .str n := h1
    rw [h1]
    rfl
def joinD : D → D → Option D
  | .str a, .lst l => (strs? l).bind fun ys => if (ys.map (·.length)).sum + ys.length * a.length ≤ 16777216 then some (.str (Txt.join a ys)) else none
  | _, _ => none
section
variable {G : Gm} {k j : Nat} {W : WX} {N : List Str} {sc : Scope} {C ad : Addr} {fd : FuncData} {ps : List Str} {Fn : List D → Option FOut} {e o : Expr} {fa fo : En → M D} {p pos apos : Pos} {kd : Kd}
theorem s_strI : CaS G kd rStrI [.peek] D.str1 := by
  intro F B H fb bh xs vs hx d hd Q q
  unfold D.str1 at hd
  split at hd
  · rename_i i
    split at hd
    · rename_i hz
      have e := Option.some.inj hd
      subst e
      obtain ⟨v, rfl, kv⟩ := ar1 hx
      have kv : v = .int i := kv
      subst kv
      exact ⟨i, rfl, hz, PostV.here q fb bh rfl rfl⟩
    · cases hd
  · cases hd
theorem je_strI (hg : glB sc "str" = true) (hm : G.mg "str" = none) (hp : PlainArg e) (hpl : NoStar pos []) (ha : JE G k W N sc .peek e fa) : JE G k W N sc kd (.Call (.Name "str" p) [e] [] pos) (Ez D.str1 (Ac fa Ba)) :=
  je_callTy (T := "str") (r := rStrI) (fun X cn => call_str_int) s_strI hg hm boot_str (by decide) (by decide) hp hpl (ja_consP hp ha ja_nil)
theorem s_strO {c : Nat} {ns : List Str} (hct : G.ct c = some (C, ns)) : CaS G kd (rStrO G C Fn) [.peek] (opStrO c Fn) := by
  intro F B H fb bh xs vs hx d hd Q q
  unfold opStrO at hd
  split at hd
  · rename_i x
    split at hd
    · rename_i hob
      obtain ⟨gs, rfl⟩ := isObj_eq hob
      obtain ⟨e1, e2⟩ := only_some hd
      obtain ⟨s, rfl⟩ := okStr_eq e2
      obtain ⟨v, rfl, pa, rfl, C', ns', dx, ws, a1, a2, a3⟩ := ar1 hx
      have a1' := a1
      rw [hct] at a1
      cases a1
      refine ⟨pa, dx, _, rfl, a2, ?_⟩
      refine sp_callF (W := fun _ _ _ _ => False) (σ := []) (ks := [.bo]) (ds := [.obj c gs]) (r := .ok (.str s)) rfl fb bh ⟨.ref pa, [], rfl, ⟨pa, rfl, C, ns, dx, ws, hct, a2, a3⟩, rfl⟩ e1 fun F' B' H' v u kr => ?_
      have ev : v = .str s := kr_imm (d := .str s) rfl kr
      exact ⟨⟨s, ev⟩, q F' B' H' v u (KR.scal rfl ev)⟩
    · cases hd
  · cases hd
theorem call_strO {X : Cx} (cn : CnE G k W N sc X) (me : Meth G.K C "__str__" ad) (ok : FnG G j ad fd ps [.bo] Fn) (hj : j + 2 ≤ k) (hb : Binds G.K fd ps []) : CallR X (.type "str") (rStrO G C Fn) := by
  intro pins s σ H xs us Q I r h
  obtain ⟨a, dx, fs, rfl, ha, hsp⟩ := h
  obtain ⟨u, rfl, ru⟩ := vals1 r
  obtain rfl : u = Value.ref a := ru
  obtain ⟨mA, J, _⟩ := ins_get I.hok ha
  obtain ⟨od, J, _⟩ := J.look
  have hu := hu65 cn
  have hu2 : X.A.in1.in1.units < cLine := by
    show X.A.units + 1 + 1 < cLine
    omega
  refine PySem.W.kso_call hu2 I.kIn J (by rw [cn.hK]; exact me.at_) (by rw [cn.hK]; exact me.fn) ?_
  refine wpAny_mono (run_at (A1 := X.A.in1.in1) (E := fun _ _ _ _ => False) (us := [.ref a]) (vs := [.ref a]) (cn.fn ok) ((cn.room.mono hj).in1).in1 rfl (by rw [cn.hK]; exact hb) (fun _ _ _ _ _ _ z => (cx_call z).elim) I (.cons rfl .nil) hsp) (fun z s' hr => ?_) fun _ _ z => z
  obtain ⟨v, H', I', rz, ⟨t, rfl⟩, q⟩ := hr
  obtain ⟨tk, rfl⟩ := rz
  exact ⟨.str t, H', I', ⟨_, rfl⟩, q⟩
theorem je_strO {c : Nat} {ns : List Str} (hct : G.ct c = some (C, ns)) (me : Meth G.K C "__str__" ad) (ok : FnG G j ad fd ps [.bo] Fn) (hj : j + 2 ≤ k) (hb : Binds G.K fd ps []) (hg : glB sc "str" = true) (hm : G.mg "str" = none) (hp : PlainArg e) (hpl : NoStar pos [])
    (ha : JE G k W N sc .peek e fa) : JE G k W N sc kd (.Call (.Name "str" p) [e] [] pos) (Ez (opStrO c Fn) (Ac fa Ba)) :=
  je_callTy (T := "str") (r := rStrO G C Fn) (fun X cn => call_strO cn me ok hj hb) (s_strO hct) hg hm boot_str (by decide) (by decide) hp hpl (ja_consP hp ha ja_nil)
def rJoinK (K : PySem.W.Frag) : V → List V → Hp → VK → Prop := fun x xs H Q => ∃ a p, ∃ ys : List Str, x = .str a ∧ xs = [.ref p] ∧ (SqL K H p (ys.map V.str) ∨ SqT K H p (ys.map V.str)) ∧
  (ys.map (·.length)).sum + ys.length * a.length ≤ 16777216 ∧ Q (.str (Txt.join a ys)) H
def fJoin (fo fa : En → M D) : En → M D := fun ρ => (fo ρ).bnd fun x => match x with
  | .str a => (fa ρ).bnd fun y => up1 (joinD (.str a) y)
  | _ => none
theorem je_joinL (hs : ∀ env : Env, starEach [e] env = [(false, eval e env)]) (hbase : ∀ env : Env, attributeBase o "join" env (eval o env) = eval o env) (hline : (apos.endLine == pos.line) = true) (ho : JE G k W N sc .peek o fo) (ha : JE G k W N sc .peek e fa) :
    JE G k W N sc kd (.Call (.Attribute o "join" apos) [e] [] pos) (fJoin fo fa) := by
  obtain ⟨to, o1, o2⟩ := ho
  obtain ⟨ta, a1, a2⟩ := ha
  refine ⟨tM1 (rJoinK G.K) to ta, fun X c => by rw [← c.hK]; exact pe_join (o1 X c) (a1 X c) (hs _) (hbase _) hline, fun Z F B H σ ρ s r hr Q q => ?_⟩
  rcases bnd_some hr with ⟨x, ex, hr⟩ | ⟨x, ex, rfl⟩
  · refine o2 Z F B H σ ρ s _ ex _ fun F1 B1 H1 v1 u1 k1 => ?_
    cases x <;> first | cases hr | skip
    · rename_i a
      have hv : v1 = .str a := k1
      subst hv
      have hr : (fa ρ).bnd (fun y => up1 (joinD (.str a) y)) = some r := hr
      refine ⟨⟨a, rfl⟩, ?_⟩
      rcases bnd_some hr with ⟨y, ey, hr⟩ | ⟨y, ey, rfl⟩
      · obtain ⟨d, ed, rfl⟩ := up1_ok hr
        unfold joinD at ed
        split at ed
        · rename_i a' l e1
          cases e1
          obtain ⟨ys, e1, ed⟩ := Option.bind_eq_some_iff.mp ed
          split at ed
          · rename_i hz
            have e := Option.some.inj ed
            subst e
            have el := strs?_eq e1
            subst el
            refine a2 Z F1 B1 H1 σ ρ (s.up u1) _ ey _ fun F2 B2 H2 v2 u2 k2 => ?_
            obtain ⟨p2, vs, rfl, h1, h2⟩ := topL k2
            have ev := repL_strs h2
            subst ev
            exact ⟨a, p2, ys, rfl, rfl, .inl (SqL.of h1), hz, PostV.here (q.weak (u1.trans u2)) u2.fb u2.bh rfl rfl⟩
          · cases ed
        · cases ed
      · exact a2 Z F1 B1 H1 σ ρ (s.up u1) _ ey _ (fun F' B' H' cls dx u hx => q F' B' H' cls dx (u1.trans u) hx)
  · exact o2 Z F B H σ ρ s _ ex _ q
end
end DL
namespace DL
open PySem PySem.Spec L2
structure Dflt (G : Gm) (fd : FuncData) (ps : List Str) (dd : D) : Prop where
  ex : ∃ (dv : V) (du : Value), Binds G.K fd ps [du] ∧ RelV dv du ∧ ∀ F H, Top G F H dd dv
theorem Dflt.non {G : Gm} {fd : FuncData} {ps : List Str} (hb : Binds G.K fd ps [.none]) : Dflt G fd ps .non := ⟨.non, .none, hb, rfl, fun F H => rfl⟩
section
variable {G : Gm} {k j : Nat} {W : WX} {N : List Str} {sc : Scope} {e : Expr} {es : List Expr} {fs : En → M (List D)} {pos p : Pos} {ad : Addr} {fd : FuncData} {ps : List Str} {ks : List PK} {Fn : List D → Option FOut} {x : Str}
end
end DL
namespace DL
open PySem PySem.Spec L2
def Cm (i : Nat) (fs : En → M (List D)) (u : List D → List D → Option (List D)) : SO := fun ρ => match ρ[i]? with
  | some (.ow (.lst l)) => (match fs (ρ.set i (.ln (.lst l))) with
    | some (.ok zs) => (u zs l).map fun l' => .nx (ρ.set i (.ow (.lst l')))
    | some (.error x) => some (.er x ρ)
    | none => none)
  | _ => none
section
variable {G : Gm} {k : Nat} {W : WX} {N : List Str} {sc : Scope} {e : Expr} {es : List Expr} {fs : En → M (List D)} {pos apos cpos : Pos}
theorem js_mutL {i n : Nat} {y name : Str} {id : String} {p1 : Pos} {r : V → List V → Hp → VK → Prop} {u : List D → List D → Option (List D)} (slot : Slot "list" name id) (hty : typeOf (.builtin id) = pure (.type "method_descriptor")) (hm : ∀ X : Cx, MtR X id r) (hu : LMut G r u)
    (hy : N[i]? = some y) (hv : visB sc y = true) (hd : (y == ("__debug__" : Str)) = false) (hcd : (y == ("__classdict__" : Str)) = false) (hs : ∀ X : Cx, swapsWith (.Call (.Attribute (.Name y p1) name apos) (e :: es) [] cpos) none pos.line X.env = pure false)
    (hp : PlainArg e) (hpl : NoStar cpos es) (hw : MFew (.Name y p1) name apos cpos (e :: es)) (ha : JA G k W N sc (shs n) (e :: es) fs) : JS G k W N sc (.Expr (.Call (.Attribute (.Name y p1) name apos) (e :: es) [] cpos) pos) (Cm i fs u) := by
  obtain ⟨ta, a1, a2⟩ := ha
  refine ⟨tDrop (tBM G.K "list" r (tVar i) ta), fun X c => ps_expr (by
    rw [← c.ce.hK]
    exact pe_bm PySem.F.plainAttrs_list slot hty (hm X) (pe_var (by rw [c.ce.hN]; exact hy) (by rw [c.ce.hsc]; exact vis_of hv) hd hcd) (a1 X c.ce) (hw X.env).1 (hw X.env).2.1 (hw X.env).2.2 (hp _ _) (hpl _)) (hs X), fun Z F B H σ ρ s o ho E q => ?_⟩
  unfold Cm at ho
  split at ho
  · rename_i l hor
    obtain ⟨p, e1, e2, e3, e4⟩ := s.sl i _ hor
    obtain ⟨ob, hob⟩ := e4.there
    have hat : OwnAt σ ρ i p := ⟨⟨_, hor⟩, s.at hor e1⟩
    have hzb : Z.B p = none := by
      cases z : Z.B p with
      | none => rfl
      | some u => rw [s.zb p u z] at e3; cases e3
    have hla : ∀ q ∈ Z.LA, q ≠ p := fun q hq z => by
      obtain ⟨_, o1, h2⟩ := s.lt q hq
      rw [z, e3] at h2
      cases h2
    have hlt := (List.getElem?_eq_some_iff.mp hor).1
    have sl := s.lend (i := i) (p := p) (d := .lst l) (o := ob) hlt e1 e3 hob e4 fun j d' p' hj hk hv h1 h2 => by
      rintro rfl
      rcases hk with hk | hk
      · exact hj (s.nd j i p' (h1 hk) hat)
      · exact (s.mm j p' (h2 hk)).1 e2
    have gr : ∀ {F1 B1 : Hp}, Gro F (upd B p ob) F1 B1 → Gro F B F1 (hide B1 p) := fun {F1 B1} y => ⟨y.f, fun a u e => by
      have h : a ≠ p := by rintro rfl; rw [e] at e3; cases e3
      rw [hide_ne h]
      exact y.b a u (by rw [upd_ne h]; exact e)⟩
    have eback : ((ρ.set i (.ln (.lst l))).set i (.ow (.lst l))) = ρ := by
      rw [List.set_set]
      apply List.ext_getElem?
      intro j
      by_cases hj : j = i
      · subst hj
        rw [List.getElem?_set_self hlt, hor]
      · rw [List.getElem?_set_ne (Ne.symm hj)]
    have hln : (ρ.set i (.ln (.lst l)))[i]? = some (.ln (.lst l)) := List.getElem?_set_self hlt
    have e4' := e4
    obtain ⟨xs, h1, h2⟩ := e4'
    refine ⟨.ref p, s.at hor e1, .inl ⟨rfl, xs, SqL.of h1⟩, ?_⟩
    cases efs : fs (ρ.set i (.ln (.lst l))) with
    | none => rw [efs] at ho; cases ho
    | some res =>
      rw [efs] at ho
      cases res with
      | error x =>
        have e5 := Option.some.inj ho
        subst e5
        refine a2 (lendZ Z i p) F (upd B p ob) H σ _ sl _ efs _ fun F1 B1 H1 cls dx u1 hx => ?_
        have s1 := (sl.up u1).back (c := .ow (.lst l)) hln hzb hla s.la (.inl ⟨rfl, e2⟩)
        rw [eback] at s1
        exact q F1 _ H1 σ cls dx s1 (gr u1.gro) hx
      | ok zs =>
        obtain ⟨l', e3u, e5⟩ := Option.map_eq_some_iff.mp ho
        subst e5
        refine a2 (lendZ Z i p) F (upd B p ob) H σ _ sl _ efs _ fun F1 B1 H1 vs u1 k1 => ?_
        have h1' := u1.h _ _ h1
        obtain ⟨xs', g1, g2⟩ := hu F1 H1 p xs l vs zs l' h1' (h2.mono u1.f) k1.shs e3u
        have s1 := (sl.up u1).back (c := .ow (.lst l)) hln hzb hla s.la (.inl ⟨rfl, e2⟩)
        rw [eback] at s1
        obtain ⟨pa2, c1, c2, c3, c4⟩ := s1.own_at (.inl hor)
        have ep : pa2 = p := by
          rw [s.at hor e1] at c1
          injection c1 with c1
          injection c1 with c1
          injection c1 with c1
          exact c1.symm
        subst ep
        have ho' : OwnO G F1 (upd H1 pa2 (.lst xs')) pa2 (.lst l') := ⟨xs', upd_same, g1⟩
        refine g2 _ ?_
        exact q F1 _ _ σ (s1.own_upd c4 c2 ho' _ (.inl ⟨hor, rfl⟩)) (gr u1.gro)
  · cases ho
end
end DL
namespace DL
open PySem PySem.Spec L2
section
variable {M : Model} {A : Around} {E : Value → Shared → Prop} {s : Shared} {env : Env} {pos : Pos} {x : Addr} {Q : Value → Shared → Prop}
end
section
variable {X : Cx} {Ct : CXT} {k : Nat} {f C : Addr} {fd : FuncData} {ps : List Str} {sp : Sp} {E : L2.St → XK} {x : Str} {p pos : Pos} {e : Expr} {es : List Expr} {ta : TE} {t : TA}
end
section
variable {G : Gm} {k j : Nat} {W : WX} {N : List Str} {sc : Scope} {C ad : Addr} {fd : FuncData} {ps : List Str} {ks : List PK} {Fn : List D → Option FOut} {e : Expr} {es : List Expr} {fa : En → M D} {fs : En → M (List D)} {p pos : Pos} {kd : Kd} {x : Str} {f : En → M D}
def bls? : List D → Option (List Bool)
  | [] => some []
  | .bl b :: ds => (bls? ds).map (b :: ·)
  | _ :: _ => none
theorem bls?_eq : ∀ {l : List D} {bs : List Bool}, bls? l = some bs → l = bs.map D.bl
  | [], bs, h => by
    cases h
    rfl
  | d :: ds, bs, h => by
    cases d <;> first | cases h | skip
    rename_i b
    unfold bls? at h
    cases e : bls? ds with
    | none => rw [e] at h; cases h
    | some cs =>
      rw [e] at h
      cases h
      rw [bls?_eq e]
      rfl
theorem RepL.bls {F : Hp} : ∀ {bs : List Bool} {vs : List V}, RepL G F (bs.map D.bl) vs → vs = bs.map V.bl
  | [], vs, h => h
  | b :: bs, vs, h => by
    obtain ⟨v, ws, rfl, h1, h2⟩ := h
    rw [RepL.bls h2]
    have e : v = .bl b := h1
    rw [e]
    rfl
def D.anyL : List D → Option D
  | [.lst l] => (bls? l).map fun bs => .bl (bs.any id)
  | _ => none
theorem s_any : CaS G kd (rAny G.K) [.peek] D.anyL := by
  intro F B H fb bh xs vs hx d hd Q q
  unfold D.anyL at hd
  split at hd
  · rename_i l
    cases e : bls? l with
    | none => rw [e] at hd; cases hd
    | some bs =>
      rw [e] at hd
      have e2 := Option.some.inj hd
      subst e2
      obtain ⟨v, rfl, h⟩ := ar1 hx
      obtain ⟨p, us, rfl, h1, h2⟩ := topL h
      rw [bls?_eq e] at h2
      rw [h2.bls] at h1
      exact ⟨p, bs, rfl, SqL.of h1, q.here fb bh rfl rfl⟩
  · cases hd
theorem je_any {p : Pos} (hg : glB sc "any" = true) (hm : G.mg "any" = none) (hp : PlainArg e) (hpl : NoStar pos []) (ha : JE G k W N sc .peek e f) : JE G k W N sc kd (.Call (.Name "any" p) [e] [] pos) (Ez D.anyL (Ac f Ba)) :=
  je_callB (id := "any") (r := rAny G.K) (fun X c => by rw [← c.hK]; exact cr_any c.calm) s_any hg hm (by decide +kernel) (by decide) (by decide) hp hpl (ja_consP hp ha ja_nil)
def D.allL : List D → Option D
  | [.lst l] => (bls? l).map fun bs => .bl (bs.all id)
  | _ => none
theorem s_all : CaS G kd (rAll G.K) [.peek] D.allL := by
  intro F B H fb bh xs vs hx d hd Q q
  unfold D.allL at hd
  split at hd
  · rename_i l
    cases e : bls? l with
    | none => rw [e] at hd; cases hd
    | some bs =>
      rw [e] at hd
      have e2 := Option.some.inj hd
      subst e2
      obtain ⟨v, rfl, h⟩ := ar1 hx
      obtain ⟨p, us, rfl, h1, h2⟩ := topL h
      rw [bls?_eq e] at h2
      rw [h2.bls] at h1
      exact ⟨p, bs, rfl, SqL.of h1, q.here fb bh rfl rfl⟩
  · cases hd
theorem je_all {p : Pos} (hg : glB sc "all" = true) (hm : G.mg "all" = none) (hp : PlainArg e) (hpl : NoStar pos []) (ha : JE G k W N sc .peek e f) : JE G k W N sc kd (.Call (.Name "all" p) [e] [] pos) (Ez D.allL (Ac f Ba)) :=
  je_callB (id := "all") (r := rAll G.K) (fun X c => by rw [← c.hK]; exact cr_all c.calm) s_all hg hm (by decide +kernel) (by decide) (by decide) hp hpl (ja_consP hp ha ja_nil)
end
end DL
namespace DL
open PySem PySem.Spec L2 NdefX
section
variable {CX : CXT} {P : Program} {w : World} {K : PySem.W.Frag} {mg : Str → Option Value} {base : Heap} {N ps : List Str} {f C a cc cda : Addr} {A : Around} {outer : List Env} {s0 s : Shared} {H0 H : Hp} {E0 : XK} {σ : L2.St} {name qual file : Str} {params : Arguments} {body rest stm : List Stmt} {scope : Scope}
end
section
variable {X : Cx} {x : Str} {p pos : Pos} {e : Expr} {es : List Expr} {ta : TA}
end
def Cv : List D → Bool := fun _ => true
def Ax (c n : Nat) (ok : List D → Bool) (fs : En → M (List D)) : SO := Cw fs fun ds ρ => if ds.length = n ∧ ok ds = true ∧ n ≤ 1000 then some (.er ⟨c, ds.reverse⟩ ρ) else none
section
variable {G : Gm} {k : Nat} {W : WX} {N : List Str} {sc : Scope}
end
section
variable {G : Gm} {C f : Addr} {fd : FuncData} {file name qual : Str} {params : Arguments} {scope : Scope} {p0 p1 p2 p3 p4 q1 q2 q3 q4 q5 q6 q7 q8 q9 r1 r2 : Pos} {j : Nat} {m x y fl gl : Str} {ar : PySem.Arg} {pl : Env → Sem Bool}
end
def fnAx (K : PySem.W.Frag) (a : Addr) : He5.FnW := match K.lookup a with
  | some ⟨_, _, .func fd, _⟩ => some (fd.name, fd.qualname, fd.params, fd.body, fd.scope, fd.globals, [], fd.builtins)
  | _ => none
def noneV : Value → Bool
  | .none => true
  | _ => false
def cloB (K : PySem.W.Frag) (C : Addr) : List (Str × Addr) → Bool
  | [(n, cc)] => decide (n = "__class__") && (match K.lookup cc with
    | some ⟨_, _, .cell (some (.ref D)), _⟩ => decide (D = C)
    | _ => false)
  | _ => false
def fileB (K : PySem.W.Frag) (file : Str) : Value → Bool
  | .ref cda => (match K.lookup cda with
    | some ⟨_, _, .fields vs, _⟩ => (match (vs[2]? : Option Value) with
      | some (.str s _) => decide (s = file)
      | _ => false)
    | _ => false)
  | _ => false
def xdB (K : PySem.W.Frag) (file : Str) (q : He5.DefA × Str) : Bool := match K.lookup (q.1.at_ K) with
  | some ⟨_, _, .func fd, _⟩ => (PySem.W.codeIn K fd.code q.1.qual && noneV fd.defaults) && (cloB K (He.ga K q.2) fd.closure && fileB K file fd.code)
  | _ => false
def obsX (fa : List He.Fa) (ex : List (PySem.W.Frag → Bool)) (fn : List He5.DefA) (fx : List (He5.DefA × Str)) (file : Str) (K : PySem.W.Frag) : He.AlD :=
  (((fa.all fun q => q.ok K) && ex.all fun t => t K) && ((fn.all fun q => q.ok K) && fx.all fun q => xdB K file q), (fn.map fun q => He5.fnA K (q.at_ K)) ++ fx.map fun q => fnAx K (q.1.at_ K))
def valX (fn : List He5.DefA) (fx : List (He5.DefA × Str)) : He.AlD := (true, fn.map He5.DefA.val ++ fx.map fun q => q.1.val)
def SaysX (fa : List He.Fa) (ex : List (PySem.W.Frag → Bool)) (fn : List He5.DefA) (fx : List (He5.DefA × Str)) (file : Str) (K : PySem.W.Frag) : Prop := obsX fa ex fn fx file K = valX fn fx
section
variable {fa : List He.Fa} {ex : List (PySem.W.Frag → Bool)} {fn : List He5.DefA} {fx : List (He5.DefA × Str)} {file : Str} {K : PySem.W.Frag}
theorem SaysX.h (c : SaysX fa ex fn fx file K) : SaysH fa ex fn K := by
  have z : (((fa.all fun q => q.ok K) && ex.all fun t => t K) && ((fn.all fun q => q.ok K) && fx.all fun q => xdB K file q)) = true := congrArg (fun z : He.AlD => z.1) c
  have y : (fn.map fun q => He5.fnA K (q.at_ K)) ++ (fx.map fun q => fnAx K (q.1.at_ K)) = fn.map He5.DefA.val ++ fx.map fun q => q.1.val := congrArg (fun z : He.AlD => z.2) c
  obtain ⟨z1, z2⟩ := Bool.and_eq_true_iff.mp z
  obtain ⟨z2, z3⟩ := Bool.and_eq_true_iff.mp z2
  have y1 := (List.append_inj y (by rw [List.length_map, List.length_map])).1
  show (((fa.all fun q => q.ok K) && ex.all fun t => t K) && fn.all fun q => q.ok K, fn.map fun q => He5.fnA K (q.at_ K)) = (true, fn.map He5.DefA.val)
  rw [z1, z2, y1]
  rfl
end
end DL
namespace DL
open PySem PySem.Spec L2
def top (i : Nat) : Stmt := PySem.Challenge.pw_notedepth_k12_notes_lines.main.body.getD i (.Pass ⟨0, 0, 0, 0⟩)
abbrev s__law_draws : Stmt := top 18
abbrev s__law_cell : Stmt := top 17
abbrev s__law_ranked : Stmt := top 19
abbrev s_Notes___init__ : Stmt := inClass (top 14) 1
abbrev s_Crowd___len__ : Stmt := inClass (top 9) 2
abbrev s_ordered : Stmt := top 8
abbrev s_Crowd___init__ : Stmt := inClass (top 9) 0
abbrev s_Notes___setitem__ : Stmt := inClass (top 14) 6
abbrev s_Crowd___str__ : Stmt := inClass (top 9) 10
abbrev s_Notes_lines : Stmt := inClass (top 14) 10
abbrev s__law_lines : Stmt := top 22
abbrev s_Notes___iter__ : Stmt := inClass (top 14) 2
abbrev s__law_is_integer : Stmt := top 16
abbrev s__law_entry : Stmt := top 20
abbrev s__law_pairs : Stmt := top 24
abbrev s_Notes_copy : Stmt := inClass (top 14) 9
abbrev s__law_entries : Stmt := top 21
abbrev s_Notes___contains__ : Stmt := inClass (top 14) 4
abbrev s_Notes___getitem__ : Stmt := inClass (top 14) 5
abbrev s_Crowd___le__ : Stmt := inClass (top 9) 5
abbrev s_Crowd_lots : Stmt := inClass (top 9) 13
abbrev s_Notes_admits : Stmt := inClass (top 14) 7
abbrev s_Notes_lets : Stmt := inClass (top 14) 8
abbrev s_Ban___init__ : Stmt := inClass (top 12) 1
abbrev s_Notes___len__ : Stmt := inClass (top 14) 3
abbrev s__law_asked : Stmt := top 23
abbrev s_law : Stmt := top 25
end DL
namespace DL
open PySem PySem.Spec L2
def d__law_draws : He5.DefA := ⟨fun K => He.ga K "_law_draws", "_law_draws", "_law_draws", defArgs s__law_draws, defBody s__law_draws, defScope s__law_draws, [], []⟩
def d__law_cell : He5.DefA := ⟨fun K => He.ga K "_law_cell", "_law_cell", "_law_cell", defArgs s__law_cell, defBody s__law_cell, defScope s__law_cell, [], []⟩
def d__law_ranked : He5.DefA := ⟨fun K => He.ga K "_law_ranked", "_law_ranked", "_law_ranked", defArgs s__law_ranked, defBody s__law_ranked, defScope s__law_ranked, [], []⟩
def d_Notes___init__ : He5.DefA := ⟨fun K => He.ma K (He.ga K "Notes") "__init__", "__init__", "Notes.__init__", defArgs s_Notes___init__, defBody s_Notes___init__, defScope s_Notes___init__, [], []⟩
def d_Crowd___len__ : He5.DefA := ⟨fun K => He.ma K (He.ga K "Crowd") "__len__", "__len__", "Crowd.__len__", defArgs s_Crowd___len__, defBody s_Crowd___len__, defScope s_Crowd___len__, [], []⟩
def d_ordered : He5.DefA := ⟨fun K => He.ga K "ordered", "ordered", "ordered", defArgs s_ordered, defBody s_ordered, defScope s_ordered, [], []⟩
def dA_Crowd___init___0 : PySem.W.Frag → Addr := He.dflAt ("Crowd", some "__init__") 0
def d_Crowd___init__ : He5.DefA := ⟨fun K => He.ma K (He.ga K "Crowd") "__init__", "__init__", "Crowd.__init__", defArgs s_Crowd___init__, defBody s_Crowd___init__, defScope s_Crowd___init__, [.adr (dA_Crowd___init___0)], []⟩
def d_Notes___setitem__ : He5.DefA := ⟨fun K => He.ma K (He.ga K "Notes") "__setitem__", "__setitem__", "Notes.__setitem__", defArgs s_Notes___setitem__, defBody s_Notes___setitem__, defScope s_Notes___setitem__, [], []⟩
def d_Crowd___str__ : He5.DefA := ⟨fun K => He.ma K (He.ga K "Crowd") "__str__", "__str__", "Crowd.__str__", defArgs s_Crowd___str__, defBody s_Crowd___str__, defScope s_Crowd___str__, [], []⟩
def d_Notes_lines : He5.DefA := ⟨fun K => He.ma K (He.ga K "Notes") "lines", "lines", "Notes.lines", defArgs s_Notes_lines, defBody s_Notes_lines, defScope s_Notes_lines, [], []⟩
def d__law_lines : He5.DefA := ⟨fun K => He.ga K "_law_lines", "_law_lines", "_law_lines", defArgs s__law_lines, defBody s__law_lines, defScope s__law_lines, [], []⟩
def d_Notes___iter__ : He5.DefA := ⟨fun K => He.ma K (He.ga K "Notes") "__iter__", "__iter__", "Notes.__iter__", defArgs s_Notes___iter__, defBody s_Notes___iter__, defScope s_Notes___iter__, [], []⟩
def d__law_is_integer : He5.DefA := ⟨fun K => He.ga K "_law_is_integer", "_law_is_integer", "_law_is_integer", defArgs s__law_is_integer, defBody s__law_is_integer, defScope s__law_is_integer, [], []⟩
def d__law_entry : He5.DefA := ⟨fun K => He.ga K "_law_entry", "_law_entry", "_law_entry", defArgs s__law_entry, defBody s__law_entry, defScope s__law_entry, [], []⟩
def d__law_pairs : He5.DefA := ⟨fun K => He.ga K "_law_pairs", "_law_pairs", "_law_pairs", defArgs s__law_pairs, defBody s__law_pairs, defScope s__law_pairs, [], []⟩
def d_Notes_copy : He5.DefA := ⟨fun K => He.ma K (He.ga K "Notes") "copy", "copy", "Notes.copy", defArgs s_Notes_copy, defBody s_Notes_copy, defScope s_Notes_copy, [], []⟩
def d__law_entries : He5.DefA := ⟨fun K => He.ga K "_law_entries", "_law_entries", "_law_entries", defArgs s__law_entries, defBody s__law_entries, defScope s__law_entries, [], []⟩
def d_Notes___contains__ : He5.DefA := ⟨fun K => He.ma K (He.ga K "Notes") "__contains__", "__contains__", "Notes.__contains__", defArgs s_Notes___contains__, defBody s_Notes___contains__, defScope s_Notes___contains__, [], []⟩
def d_Notes___getitem__ : He5.DefA := ⟨fun K => He.ma K (He.ga K "Notes") "__getitem__", "__getitem__", "Notes.__getitem__", defArgs s_Notes___getitem__, defBody s_Notes___getitem__, defScope s_Notes___getitem__, [], []⟩
def d_Crowd___le__ : He5.DefA := ⟨fun K => He.ma K (He.ga K "Crowd") "__le__", "__le__", "Crowd.__le__", defArgs s_Crowd___le__, defBody s_Crowd___le__, defScope s_Crowd___le__, [], []⟩
def d_Crowd_lots : He5.DefA := ⟨fun K => He.ma K (He.ga K "Crowd") "lots", "lots", "Crowd.lots", defArgs s_Crowd_lots, defBody s_Crowd_lots, defScope s_Crowd_lots, [], []⟩
def d_Notes_admits : He5.DefA := ⟨fun K => He.ma K (He.ga K "Notes") "admits", "admits", "Notes.admits", defArgs s_Notes_admits, defBody s_Notes_admits, defScope s_Notes_admits, [], []⟩
def d_Notes_lets : He5.DefA := ⟨fun K => He.ma K (He.ga K "Notes") "lets", "lets", "Notes.lets", defArgs s_Notes_lets, defBody s_Notes_lets, defScope s_Notes_lets, [], []⟩
def d_Ban___init__ : He5.DefA := ⟨fun K => He.ma K (He.ga K "Ban") "__init__", "__init__", "Ban.__init__", defArgs s_Ban___init__, defBody s_Ban___init__, defScope s_Ban___init__, [], [("states", .non)]⟩
def d_Notes___len__ : He5.DefA := ⟨fun K => He.ma K (He.ga K "Notes") "__len__", "__len__", "Notes.__len__", defArgs s_Notes___len__, defBody s_Notes___len__, defScope s_Notes___len__, [], []⟩
def d__law_asked : He5.DefA := ⟨fun K => He.ga K "_law_asked", "_law_asked", "_law_asked", defArgs s__law_asked, defBody s__law_asked, defScope s__law_asked, [], []⟩
def d_law : He5.DefA := ⟨fun K => He.ga K "law", "law", "law", defArgs s_law, defBody s_law, defScope s_law, [], []⟩
def cl (K : PySem.W.Frag) : CL := [(0, He.ga K "Crowd", (["members"] : List Str)), (1, He.ga K "Program", (["states", "locations", "steps", "start"] : List Str)), (2, He.ga K "Ban", (["crowd", "states"] : List Str)), (3, He.ga K "Notes", (["width", "rows", "known"] : List Str)), (101, He.ga K "CrowdError", ([] : List Str)), (103, He.ga K "BanError", ([] : List Str)), (104, He.ga K "RangeError", ([] : List Str))]
def fa : List He.Fa := [.glo "Crowd", .glo "Program", .glo "Ban", .glo "Notes", .glo "CrowdError", .glo "BanError", .glo "RangeError", .free "abs", .free "all", .free "any", .free "bool", .free "enumerate", .free "int", .free "isinstance", .free "iter", .free "len", .free "list", .free "range", .free "sorted", .free "str", .free "tuple", .glo "_law_draws", .glo "_law_cell", .glo "_law_ranked", .glo "ordered", .glo "_law_lines", .glo "_law_is_integer", .glo "_law_entry", .glo "_law_pairs", .glo "_law_entries", .glo "_law_asked", .glo "law", .cls "Crowd", .cls "Notes", .meth "Crowd" "__le__", .meth "Crowd" "__len__", .meth "Crowd" "__str__", .meth "Crowd" "lots", .meth "Notes" "__contains__", .meth "Notes" "__getitem__", .meth "Notes" "__iter__", .meth "Notes" "__len__", .meth "Notes" "__setitem__", .meth "Notes" "admits", .meth "Notes" "copy", .meth "Notes" "lets", .meth "Notes" "lines", .mkr "Ban", .mkr "Crowd", .mkr "Notes", .exc "BanError", .exc "CrowdError", .exc "RangeError"]
def ex : List (PySem.W.Frag → Bool) := [fun K => gB K (cl K), fun K => crB K (He.ga K "Ban"), fun K => crB K (He.ga K "Notes"), fun K => crB K (He.ga K "Program"), fun K => cvB K (He.ga K "Ban") "MOST_MEMBERS" 4, fun K => cvB K (He.ga K "Notes") "MOST_WIDTH" 4, fun K => cvB K (He.ga K "Program") "MOST_STATES" 48, fun K => PySem.W.fnIn K (He.ma K (He.ga K "Notes") "__getitem__"), fun K => PySem.W.noSeq K (He.ga K "Notes"), fun K => xB K (cl K)]
def fn : List He5.DefA := [d__law_draws, d__law_cell, d__law_ranked, d_Notes___init__, d_Crowd___len__, d_ordered, d_Crowd___init__, d_Notes___setitem__, d_Crowd___str__, d_Notes_lines, d__law_lines, d_Notes___iter__, d__law_is_integer, d__law_entry, d__law_pairs, d_Notes_copy, d__law_entries, d_Notes___contains__, d_Notes___getitem__, d_Crowd___le__, d_Crowd_lots, d_Notes_admits, d_Notes_lets, d_Ban___init__, d_Notes___len__, d__law_asked, d_law]
abbrev R : PySem.W.OpenRow := PySem.W.OpenLaw.row PySem.Challenge.rw_notedepth_k12_notes_lines
abbrev hk : PySem.W.Hook := hookH 5 fa ex fn
def ob (s : PySem.W.SharedT) : He.AlD := obsHG 5 fa ex fn (HandSHeadRun.getT s)
theorem ob_eq (s : PySem.W.SharedT) : ob s = hk.obs s.abs := obsHG_eq (HandSHeadRun.getT_eq s)
def loose : List Str := (["_wall", "NoteError", "CrowdError", "ProgramError", "BanError", "RangeError", "ordered", "Crowd", "Program", "Ban", "Notes", "_law_is_integer", "_law_cell", "_law_draws", "_law_ranked", "_law_entry", "_law_entries", "_law_lines", "_law_asked", "_law_pairs"] : List Str)
theorem run (w : World) : HandSHeadRun.RunEq R (PySem.W.view R.prog [25]) hk ob 9000 loose w := by
  intro os
  kernel_rfl
end DL
namespace DL
open PySem PySem.Spec L2
section
variable {G : Gm} {k : Nat} {W : WX} {N : List Str} {sc : Scope} {kd : Kd}
def Ew (f : En → M D) (h : D → En → Option En) : SO := Cw f fun d ρ => (h d ρ).map Out.nx
def Ex (i j : Nat) (fs : En → M (List D)) : SO := Cw fs fun ds ρ => match ds with
  | [a, b] => (put i (.sh a) ρ).bind fun ρ1 => (put j (.sh b) ρ1).map Out.nx
  | _ => none
variable {o e : Expr} {fo fa : En → M D} {apos cpos : Pos}
end
end DL
namespace DL
open PySem PySem.Spec L2
def isTp : D → Bool
  | .tup _ => true
  | _ => false
def KAll (l : List (D × D)) : Bool := l.all fun q => isTp q.1
def kTup (d : D) : Option NestedKey := if isTp d = true then (kOf d).bind fun k => if k.depth ≤ 8 then some k else none else none
theorem kTup_some {d : D} {k : NestedKey} (h : kTup d = some k) : isTp d = true ∧ kOf d = some k ∧ k.depth ≤ 8 := by
  unfold kTup at h
  split at h
  · rename_i ht
    obtain ⟨k', e, h⟩ := Option.bind_eq_some_iff.mp h
    split at h
    · rename_i hd
      cases h
      exact ⟨ht, e, hd⟩
    · cases h
  · cases h
def fnd (l : List (D × D)) (k : NestedKey) : Option D := (l.find? fun q => decide (kOf q.1 = some k)).map (·.2)
def dput (l : List (D × D)) (d : D) (k : NestedKey) (x : D) : List (D × D) :=
  if (fnd l k).isSome = true then l.map fun q => if kOf q.1 = some k then (q.1, x) else q else l ++ [(d, x)]
theorem fnd_pos {q : D × D} {l : List (D × D)} {k : NestedKey} (h : kOf q.1 = some k) : fnd (q :: l) k = some q.2 := by simp [fnd, List.find?_cons, h]
theorem fnd_neg {q : D × D} {l : List (D × D)} {k : NestedKey} (h : ¬ kOf q.1 = some k) : fnd (q :: l) k = fnd l k := by simp [fnd, List.find?_cons, h]
theorem fnd_none {k : NestedKey} : ∀ {l : List (D × D)}, fnd l k = none → ∀ q ∈ l, kOf q.1 ≠ some k
  | [], _, q, hq => nomatch hq
  | p :: l, h, q, hq => by
    by_cases e : kOf p.1 = some k
    · rw [fnd_pos e] at h; cases h
    · rw [fnd_neg e] at h
      rcases List.mem_cons.mp hq with rfl | hq
      · exact e
      · exact fnd_none h q hq
theorem KN.put {l : List (D × D)} {d x : D} {k : NestedKey} (h : KN l) (hk : kOf d = some k) : KN (dput l d k x) := by
  unfold dput
  split
  · unfold KN at h ⊢
    have e : (l.map fun q => if kOf q.1 = some k then (q.1, x) else q).map (fun q => kOf q.1) = l.map fun q => kOf q.1 := by
      rw [List.map_map]
      refine List.map_congr_left fun q _ => ?_
      show kOf (if kOf q.1 = some k then (q.1, x) else q).1 = kOf q.1
      split <;> rfl
    rw [e]
    exact h
  · rename_i hn
    have hn : fnd l k = none := by
      cases e : fnd l k with
      | none => rfl
      | some y => rw [e] at hn; exact (hn rfl).elim
    unfold KN at h ⊢
    rw [List.map_append, List.nodup_append]
    refine ⟨h, List.pairwise_singleton _ _, fun a ha b hb => ?_⟩
    have hb : b = some k := by simpa [hk] using hb
    subst hb
    obtain ⟨q, hq, rfl⟩ := List.mem_map.mp ha
    exact fnd_none hn q hq
theorem dput_length (l : List (D × D)) (d : D) (k : NestedKey) (x : D) : (dput l d k x).length ≤ l.length + 1 := by
  unfold dput
  split
  · rw [List.length_map]; omega
  · rw [List.length_append]; exact Nat.le_refl _
theorem KAll.put {l : List (D × D)} {d x : D} {k : NestedKey} (h : KAll l = true) (hd : isTp d = true) : KAll (dput l d k x) = true := by
  unfold KAll at h ⊢
  unfold dput
  split
  · rw [List.all_eq_true] at h ⊢
    intro q hq
    obtain ⟨q', hq', rfl⟩ := List.mem_map.mp hq
    split
    · exact h q' hq'
    · exact h q' hq'
  · rw [List.all_append, h]
    simp [hd]
section
variable {X : Cx} {pp : List (Addr × Obj)} {σ : L2.St} {H : Hp} {s : Shared} {G : Gm} {F : Hp}
structure InH (X : Cx) (pp : List (Addr × Obj)) (σ : L2.St) (H : Hp) (s : Shared) (G : Gm) (F : Hp) : Prop where
  J : Inv X pp σ H s
  hK : X.K = G.K
  hP : X.prog = G.P
  hw : X.w = G.w
  fh : Same F H
mutual
theorem nested_of (i : InH X pp σ H s G F) : ∀ (d : D) (v : V) (u : Value) (k : NestedKey), kOf d = some k → Rep G F d v → RelV v u → NestedIs s.heap k u
  | .non, v, u, k, h, r, rv => by
    have e := Option.some.inj h
    subst e
    rw [show v = .non from r] at rv
    rw [show u = .none from rv]
    exact .none
  | .int n, v, u, k, h, r, rv => by
    have e := Option.some.inj h
    subst e
    rw [show v = .int n from r] at rv
    obtain ⟨t, rfl⟩ := rv
    exact .int _ _
  | .str x, v, u, k, h, r, rv => by
    have e := Option.some.inj h
    subst e
    rw [show v = .str x from r] at rv
    obtain ⟨t, rfl⟩ := rv
    exact .text _ _
  | .tup l, v, u, k, h, r, rv => by
    have h : (kOfs l).map NestedKey.tup = some k := h
    cases e : kOfs l with
    | none => rw [e] at h; cases h
    | some ks =>
      rw [e] at h
      have e2 := Option.some.inj h
      subst e2
      obtain ⟨a, vs, rfl, h1, h2⟩ := r
      obtain rfl : u = .ref a := rv
      obtain ⟨us, r1, ⟨o, ho, hc, n, hd⟩, _⟩ := i.J.tuple (by rw [i.hK]; exact (h1.mono i.fh).sq)
      exact .tup ho hc hd (nesteds_of i l vs us ks e h2 r1)
  | .bl _, _, _, _, h, _, _ => nomatch h
  | .lst _, _, _, _, h, _, _ => nomatch h
  | .dct _, _, _, _, h, _, _ => nomatch h
  | .obj _ _, _, _, _, h, _, _ => nomatch h
  | .scr _, _, _, _, h, _, _ => nomatch h
  | .typ _, _, _, _, h, _, _ => nomatch h
  | .cls _, _, _, _, h, _, _ => nomatch h
theorem nesteds_of (i : InH X pp σ H s G F) : ∀ (ds : List D) (vs : List V) (us : List Value) (ks : List NestedKey), kOfs ds = some ks → RepL G F ds vs → Vals vs us → NestedAll s.heap ks us
  | [], vs, us, ks, h, r, rv => by
    have e := Option.some.inj h
    subst e
    rw [show vs = [] from r] at rv
    cases rv
    exact .nil
  | d :: ds, vs, us, ks, h, r, rv => by
    obtain ⟨v, vs', rfl, h1, h2⟩ := r
    have h : (match kOf d, kOfs ds with
      | some x, some xs => some (x :: xs)
      | _, _ => none) = some ks := h
    split at h
    · rename_i x ys e1 e2
      have e := Option.some.inj h
      subst e
      cases rv with
      | cons q t => exact .cons (nested_of i d v _ x e1 h1 q) (nesteds_of i ds vs' _ ys e2 h2 t)
    · cases h
end
abbrev nk (X : Cx) := nestedKind X.prog X.w
theorem tup_ref {d : D} {v : V} (hd : isTp d = true) (r : Rep G F d v) : ∃ a, v = .ref a := by
  cases d <;> first
    | (obtain ⟨a, vs, rfl, _⟩ := r; exact ⟨a, rfl⟩)
    | cases hd
theorem key_is (i : InH X pp σ H s G F) {d : D} {v : V} {u : Value} {k : NestedKey} (h : kTup d = some k) (r : Rep G F d v) (rv : RelV v u) : ∃ a, v = .ref a ∧ u = .ref a ∧ (nk X).is s.heap k a := by
  obtain ⟨ht, hk, hd⟩ := kTup_some h
  obtain ⟨a, rfl⟩ := tup_ref ht r
  obtain rfl : u = .ref a := rv
  exact ⟨a, rfl, rfl, nested_of i d _ _ k hk r rfl, hd⟩
def XRel (G : Gm) (F : Hp) : List (D × D) → List (NestedKey × Addr × Value) → Prop
  | [], xs => xs = []
  | q :: l, xs => ∃ x xs', xs = x :: xs' ∧ (kOf q.1 = some x.1 ∧ x.1.depth ≤ 8 ∧ Rep G F q.1 (.ref x.2.1) ∧ ∃ u, Rep G F q.2 u ∧ RelV u x.2.2) ∧ XRel G F l xs'
theorem ents_of (i : InH X pp σ H s G F) : ∀ {l : List (D × D)} {es : List DictEntry}, RepE G F l es → KAll l = true → ∃ xs, es = xs.map (entryOfKey (nk X)) ∧ (∀ x ∈ xs, (nk X).is s.heap x.1 x.2.1) ∧ XRel G F l xs
  | [], es, r, _ => ⟨[], r, (fun _ h => nomatch h), rfl⟩
  | (d, x) :: l, es, r, h => by
    obtain ⟨e, es', rfl, r1, r2⟩ := r
    rw [show KAll ((d, x) :: l) = (isTp d && KAll l) from rfl, Bool.and_eq_true] at h
    obtain ⟨xs, e1, e2, e3⟩ := ents_of i r2 h.2
    obtain ⟨⟨k, hk, hd, hh⟩, ⟨v, rk, rv⟩, u, ru, rw'⟩ := r1
    obtain ⟨a, rfl⟩ := tup_ref h.1 rk
    have ek : e.key = .ref a := rv
    refine ⟨(k, a, e.val) :: xs, ?_, ?_, _, _, rfl, ⟨hk, hd, rk, u, ru, rw'⟩, e3⟩
    · rw [List.map_cons, ← e1]
      congr 1
      obtain ⟨e1, e2, e3⟩ := e
      have hh : e1 = k.hash G.w := hh
      have ek : e2 = .ref a := ek
      subst hh ek
      show _ = (⟨(nk X).hash k, _, _⟩ : DictEntry)
      rw [← i.hw]
      rfl
    · intro y hy
      rcases List.mem_cons.mp hy with rfl | hy
      · exact ⟨nested_of i d _ _ k hk rk rfl, hd⟩
      · exact e2 y hy
theorem XRel.repE (hw : X.w = G.w) : ∀ {l : List (D × D)} {xs : List (NestedKey × Addr × Value)}, XRel G F l xs → RepE G F l (xs.map (entryOfKey (nk X)))
  | [], xs, h => by
    rw [show xs = [] from h]
    rfl
  | (d, y) :: l, xs, h => by
    obtain ⟨x, xs', rfl, ⟨h1, h2, h3, u, h4, h5⟩, h6⟩ := h
    refine ⟨_, _, rfl, ⟨⟨x.1, h1, h2, ?_⟩, ⟨_, h3, rfl⟩, u, h4, h5⟩, XRel.repE hw h6⟩
    show x.1.hash X.w = _
    rw [hw]
theorem XRel.keys : ∀ {l : List (D × D)} {xs : List (NestedKey × Addr × Value)}, XRel G F l xs → l.map (fun q => kOf q.1) = xs.map fun x => some x.1
  | [], xs, h => by
    rw [show xs = [] from h]
    rfl
  | (d, y) :: l, xs, h => by
    obtain ⟨x, xs', rfl, ⟨h1, _⟩, h6⟩ := h
    rw [List.map_cons, List.map_cons, XRel.keys h6, h1]
theorem XRel.length : ∀ {l : List (D × D)} {xs : List (NestedKey × Addr × Value)}, XRel G F l xs → xs.length = l.length
  | [], xs, h => by
    rw [show xs = [] from h]
    rfl
  | (d, y) :: l, xs, h => by
    obtain ⟨x, xs', rfl, _, h6⟩ := h
    rw [List.length_cons, List.length_cons, XRel.length h6]
theorem nodup_map {α β : Type} (f : α → β) : ∀ {xs : List α}, (xs.map f).Nodup → xs.Nodup
  | [], _ => List.nodup_nil
  | x :: xs, h => by
    rw [List.map_cons, List.nodup_cons] at h
    exact List.nodup_cons.mpr ⟨fun m => h.1 (List.mem_map.mpr ⟨x, m, rfl⟩), nodup_map f h.2⟩
theorem XRel.nodup {l : List (D × D)} {xs : List (NestedKey × Addr × Value)} (h : XRel G F l xs) (hn : KN l) : (xs.map (·.1)).Nodup := by
  unfold KN at hn
  rw [h.keys] at hn
  refine nodup_map some ?_
  rw [List.map_map]
  exact hn
theorem XRel.at_none {k : NestedKey} : ∀ {l : List (D × D)} {xs : List (NestedKey × Addr × Value)}, XRel G F l xs → fnd l k = none → atKey xs k = none
  | [], xs, h, _ => by
    rw [show xs = [] from h]
    rfl
  | (d, y) :: l, xs, h, hf => by
    obtain ⟨x, xs', rfl, ⟨h1, _⟩, h6⟩ := h
    by_cases e : x.1 = k
    · rw [fnd_pos (show kOf d = some k by rw [← e]; exact h1)] at hf
      cases hf
    · rw [fnd_neg (show ¬ kOf d = some k from fun z => e (Option.some.inj (h1.symm.trans z)))] at hf
      have := XRel.at_none h6 hf
      simpa [atKey, List.find?_cons, e] using this
theorem XRel.at_some {k : NestedKey} {y' : D} : ∀ {l : List (D × D)} {xs : List (NestedKey × Addr × Value)}, XRel G F l xs → fnd l k = some y' → ∃ p, atKey xs k = some p ∧ ∃ u, Rep G F y' u ∧ RelV u p.2
  | [], xs, h, hf => nomatch hf
  | (d, y) :: l, xs, h, hf => by
    obtain ⟨x, xs', rfl, ⟨h1, _, _, u, h4, h5⟩, h6⟩ := h
    by_cases e : x.1 = k
    · rw [fnd_pos (show kOf d = some k by rw [← e]; exact h1)] at hf
      cases hf
      exact ⟨x.2, by simp [atKey, e], u, h4, h5⟩
    · rw [fnd_neg (show ¬ kOf d = some k from fun z => e (Option.some.inj (h1.symm.trans z)))] at hf
      obtain ⟨p, hp, q⟩ := XRel.at_some h6 hf
      exact ⟨p, by simpa [atKey, List.find?_cons, e] using hp, q⟩
theorem XRel.at_is {k : NestedKey} {l : List (D × D)} {xs : List (NestedKey × Addr × Value)} (h : XRel G F l xs) : (atKey xs k).isSome = (fnd l k).isSome := by
  cases e : fnd l k with
  | none => rw [h.at_none e]; rfl
  | some y =>
    obtain ⟨p, hp, _⟩ := h.at_some e
    rw [hp]
    rfl
theorem XRel.repl {k : NestedKey} {x : D} {u : V} {w : Value} (rx : Rep G F x u) (rv : RelV u w) : ∀ {l : List (D × D)} {xs : List (NestedKey × Addr × Value)}, XRel G F l xs →
    XRel G F (l.map fun q => if kOf q.1 = some k then (q.1, x) else q) (xs.map (putAt k w))
  | [], xs, h => by
    rw [show xs = [] from h]
    rfl
  | (d, y) :: l, xs, h => by
    obtain ⟨z, xs', rfl, ⟨h1, h2, h3, h4⟩, h6⟩ := h
    rw [List.map_cons, List.map_cons]
    refine ⟨_, _, rfl, ?_, XRel.repl rx rv h6⟩
    unfold putAt
    by_cases e : z.1 = k
    · rw [if_pos e, if_pos (show kOf d = some k by rw [← e]; exact h1)]
      exact ⟨h1, h2, h3, u, rx, rv⟩
    · rw [if_neg e, if_neg (show ¬ kOf d = some k from fun z => e (Option.some.inj (h1.symm.trans z)))]
      exact ⟨h1, h2, h3, h4⟩
theorem XRel.snoc {d x : D} {z : NestedKey × Addr × Value} (hz : kOf d = some z.1 ∧ z.1.depth ≤ 8 ∧ Rep G F d (.ref z.2.1) ∧ ∃ u, Rep G F x u ∧ RelV u z.2.2) : ∀ {l : List (D × D)} {xs : List (NestedKey × Addr × Value)}, XRel G F l xs → XRel G F (l ++ [(d, x)]) (xs ++ [z])
  | [], xs, h => by
    rw [show xs = [] from h]
    exact ⟨z, [], rfl, hz, rfl⟩
  | (d', y) :: l, xs, h => by
    obtain ⟨z', xs', rfl, h1, h6⟩ := h
    exact ⟨z', xs' ++ [z], rfl, h1, XRel.snoc hz h6⟩
theorem XRel.put {k : NestedKey} {d x : D} {a : Addr} {u : V} {w : Value} {l : List (D × D)} {xs : List (NestedKey × Addr × Value)} (h : XRel G F l xs) (hk : kOf d = some k) (hd : k.depth ≤ 8) (ra : Rep G F d (.ref a)) (rx : Rep G F x u) (rv : RelV u w) :
    XRel G F (dput l d k x) (storedH xs k a w) := by
  unfold dput storedH
  rw [h.at_is]
  split
  · exact h.repl rx rv
  · exact h.snoc ⟨hk, hd, ra, u, rx, rv⟩
theorem dict_of (i : InH X pp σ H s G F) {p : Addr} {o : Obj} {es : List DictEntry} {l : List (D × D)} (hp : H p = some (rawD p o)) (h0 : DO o es) (r : RepE G F l es) (hn : KN l) (hl : KAll l = true) :
    (p == sysModules) = false ∧ ∃ xs, XRel G F l xs ∧ s.heap.DictOfH (nk X) p xs := by
  obtain ⟨⟨hg, hs⟩, _⟩ := i.J.hok p _ hp
  obtain ⟨xs, e1, e2, e3⟩ := ents_of i r hl
  obtain ⟨ep, hd⟩ := h0.dat
  exact ⟨hs, xs, e3, o, es.toArray, ep, hg, h0.ex, hd, e1, e2, e3.nodup hn⟩
theorem rawD_ok {P : Program} {w : World} {H : Hp} {h : Heap} {p : Addr} {o : Obj} (hg : h.get? p = some o) (hs : (p == sysModules) = false) : ObjOk P w H h p (rawD p o) :=
  ⟨⟨hg, hs⟩, ⟨o, hg⟩, fun h1 h2 q k => ⟨k _ q.1, q.2⟩⟩
end
def rInN (G : Gm) (f : Bool → Bool) : R2 := fun x y H Q => ∃ F d k p o es l, Same F H ∧ Rep G F d x ∧ kTup d = some k ∧ y = .ref p ∧ H p = some (rawD p o) ∧ DO o es ∧ RepE G F l es ∧ KN l ∧ KAll l = true ∧ Q (.bl (f (fnd l k).isSome)) H
def D.inK (f : Bool → Bool) : D → D → Option D := fun x y => match y with
  | .dct l => match kTup x with
    | some k => if KAll l = true then some (.bl (f (fnd l k).isSome)) else none
    | none => none
  | _ => none
section
variable {G : Gm} {kd : Kd} {k : Nat} {W : WX} {N : List Str} {sc : Scope} {e a b c o : Expr} {es : List Expr} {f fa fb fc : En → M D} {fs : En → M (List D)} {ga gb : En → M Bool} {pos apos cpos : Pos} {F B H : Hp} {Z : Zn} {σ : L2.St} {ρ : En} {v w : V} {X : Cx}
theorem CnE.room8 (c : CnE G k W N sc X) : X.A.in1.units + 8 < cLine := by
  have := hu65 c
  show X.A.units + 1 + 8 < cLine
  omega
theorem CnE.room8' (c : CnE G k W N sc X) : X.A.units + 8 < cLine := by
  have := hu65 c
  omega
theorem op_inK (c : CnE G k W N sc X) : OpR X (compareOp .In) (rInN G id) := by
  intro pp s σ H x y v u Q J rx ry h
  obtain ⟨F, d, kk, p, o, es, l, fh, r, hk, rfl, hp, h0, re, hn, hl, q⟩ := h
  have i : InH X pp σ H s G F := ⟨J, c.hK, c.hP, c.hw, fh⟩
  cases ry
  obtain ⟨a, rfl, rfl, hi⟩ := key_is i hk r rx
  obtain ⟨hs, xs, xr, hd⟩ := dict_of i hp h0 re hn hl
  refine wpAny_in_heap (show (nk X).room X.A.in1 from c.room8) hi hs hd ?_
  rw [xr.at_is]
  exact ⟨.bl (fnd l kk).isSome, H, J.tok _, rfl, q⟩
theorem topD {l : List (D × D)} (h : Top G F H (.dct l) v) : ∃ p o es, v = .ref p ∧ H p = some (rawD p o) ∧ DO o es ∧ RepE G F l es ∧ KN l := by
  obtain ⟨p, rfl, o, es, h1, h2, h3, h4⟩ := h
  exact ⟨p, o, es, rfl, h1, h2, h3, h4⟩
theorem top_tup {d : D} (hd : isTp d = true) (h : Top G F H d v) : Rep G F d v := by
  cases d <;> first | (cases hd; done) | exact h
theorem s_inK (g : Bool → Bool) : OpS G kd (rInN G g) (D.inK g) := by
  intro F B H fb bh x y v w hx hy d hd Q q
  unfold D.inK at hd
  split at hd
  · rename_i l
    split at hd
    · rename_i kk ek
      split at hd
      · rename_i hl
        have e := Option.some.inj hd
        subst e
        obtain ⟨p, o, es, rfl, h1, h2, h3, h4⟩ := topD hy
        exact ⟨F, x, kk, p, o, es, l, fb.trans bh, top_tup (kTup_some ek).1 hx, ek, rfl, h1, h2, h3, h4, hl, q.here fb bh rfl rfl⟩
      · cases hd
    · cases hd
  · cases hd
theorem je_inK (ha : JE G k W N sc .peek a fa) (hb : JE G k W N sc .peek b fb) (hm : behindInMarks .In b = false) : JE G k W N sc kd (.Compare a [.In] [b] pos) (Az (D.inK id) fa fb) := je_cmp (fun X c => op_inK c) (s_inK id) ha hb hm
end
end DL
namespace DL
open PySem PySem.Spec L2
abbrev emptyD : Obj := { cls := .type "dict", data := .dict #[] }
theorem DO.empty : DO emptyD [] := ⟨⟨rfl, rfl, rfl⟩, ⟨_, rfl⟩, Nat.zero_le _⟩
section
variable {X : Cx} {pp : List (Addr × Obj)} {σ : L2.St} {H : Hp} {s : Shared} {G : Gm} {F : Hp}
theorem size_ne (J : Inv X pp σ H s) : (s.heap.objs.size == sysModules) = false := beq_eq_false_iff_ne.mpr (Ne.symm (Nat.ne_of_lt J.big))
theorem DO.of {P : Program} {w : World} {K : Type} [DecidableEq K] {knd : HeapKind P w K} {h : Heap} {d : Addr} {xs : List (K × Addr × Value)} (x : h.DictOfH knd d xs) (hl : xs.length ≤ 16000000) : ∃ o, h.get? d = some o ∧ DO o (xs.map (entryOfKey knd)) := by
  obtain ⟨o, es, ep, h1, h2, h3, h4, _⟩ := x
  exact ⟨o, h1, h2, ⟨ep, by rw [h3, ← h4]⟩, by rw [List.length_map]; exact hl⟩
end
def tDNewN : TE := fun _ H Q => ∀ p, H p = none → Q (.ref p) (upd H p (rawD p emptyD))
section
variable {G : Gm} {kd : Kd} {k : Nat} {W : WX} {N : List Str} {sc : Scope} {e a b c o : Expr} {es : List Expr} {f fa fb fc fk fv : En → M D} {fs : En → M (List D)} {ga gb : En → M Bool} {pos apos cpos : Pos} {F B H F' B' H' : Hp} {Z : Zn} {σ : L2.St} {ρ : En} {v w : V} {X : Cx}
theorem pe_dnewN : PE X (.Dict [] [] pos) tDNewN := ⟨fun pins s σ H Q I h =>
  wpAny_Dict_empty ⟨.ref s.heap.objs.size, _, I.laid (a := s.heap.objs.size) (o := rawD s.heap.objs.size emptyD) (t' := s.toks) (fun _ _ q => Heap.get?_push_of_some _ q) (Nat.le_refl _) (rawD_ok (Heap.get?_push_size _ rfl) (size_ne I)), rfl, h _ (I.hok.fresh (Nat.le_refl _))⟩⟩
theorem KN.nil : KN [] := List.nodup_nil
theorem je_dnew : JE G k W N sc .fresh (.Dict [] [] pos) (fC (.dct [])) := by
  refine ⟨tDNewN, fun X c => pe_dnewN, fun Z F B H σ ρ s r hr Q q => ?_⟩
  have e := Option.some.inj hr
  subst e
  intro p hp
  exact q F B _ _ (Up.new s.fb s.bh hp) ⟨p, rfl, hp, s.bh.free hp, emptyD, [], upd_same, DO.empty, rfl, KN.nil⟩
theorem Up.over {p : Addr} {o : HO} (u : Up F B H F' B' H') (hp : H p = none) (hb : B' p = none) : Up F B H F' B' (upd H' p o) :=
  ⟨u.f, u.b, fun a x e => by rw [upd_ne (ne_of_none e hp)]; exact u.h a x e, u.fb, fun a x e => by rw [upd_ne (ne_of_none e hb)]; exact u.bh a x e, u.old⟩
def dOne (d z : D) : Option D := if (kTup d).isSome = true then some (.dct [(d, z)]) else none
def rSetN (G : Gm) : V → V → V → Hp → (Hp → Prop) → Prop := fun o i v H Q => ∃ F d k p ob es l x, Same F H ∧ o = .ref p ∧ H p = some (rawD p ob) ∧ DO ob es ∧ RepE G F l es ∧ KN l ∧ KAll l = true ∧ Rep G F d i ∧ kTup d = some k ∧ l.length < LIM ∧ Rep G F x v ∧
  ∀ ob' es', DO ob' es' → RepE G F (dput l d k x) es' → Q (upd H p (rawD p ob'))
def uPut (y d : D) : D → Option D
  | .dct l => match kTup d with
    | some k => if KAll l = true ∧ l.length < LIM then some (.dct (dput l d k y)) else none
    | none => none
  | _ => none
def Cs : Option Sl → Bool
  | some (.ow (.dct _)) => true
  | some (.mu (.dct _)) => true
  | _ => false
def Cu (s : Nat) (fi f : En → M D) : SO := Cw f fun y ρ => if Cs ρ[s]? = true then Cw fi (fun i ρ => (Ah s (uPut y i) ρ).map .nx) ρ else none
def Itdk (a : Addr) (o : Obj) (vs : List V) : It :=
  ⟨fun i H => H a = some (rawD a o) ∧ (∃ es, DO o es ∧ Vals vs (es.map (·.key))) ∧ i < vs.length, fun i H x H' => H' = H ∧ vs[i]? = some x, fun i H => H a = some (rawD a o) ∧ (∃ es, DO o es ∧ Vals vs (es.map (·.key))) ∧ vs.length ≤ i⟩
theorem DO.same {o : Obj} {es : List DictEntry} {ea : Array DictEntry} {ep : Nat} (h : DO o es) (hod : o.data = .dict ea ep) : ea = es.toArray := by
  obtain ⟨ep', h⟩ := h.dat
  exact (dict_ep h hod).1
theorem turn_dk {P : Program} {w : World} {K : PySem.W.Frag} {tg : Expr} {d it : Addr} {o : Obj} {ea : Array DictEntry} {ep : Nat} {vs : List V} (hod : o.data = .dict ea ep) : Turn P w K tg (Itdk d o vs) [it] it (fun i h => h.IsKeyIter it d i vs.length ep) where
  mem := by simp
  obj := fun i h st b hb => by
    have e : b = it := by simpa using hb
    subst e
    obtain ⟨oi, e, c, dd⟩ := st
    exact ⟨oi, e, fun v z => by rw [dd] at z; cases z⟩
  keep := fun i h h' st k => st.at fun oi e => k it (by simp) oi e
  item := by
    intro X hP hw hK hc i pins s σ H E I hf st hg
    subst hP hw hK
    obtain ⟨hd, ⟨es, hdo, hv⟩, hi⟩ := hg
    obtain ⟨f0, f1, f2, f3, f4, f5⟩ := hf it (by simp)
    obtain ⟨⟨hgd, _⟩, _⟩ := I.hok d _ hd
    have hea := hdo.same hod
    have hlen := hv.length
    rw [List.length_map] at hlen
    obtain ⟨x, hx⟩ : ∃ x, vs[i]? = some x := ⟨vs[i], List.getElem?_eq_getElem hi⟩
    obtain ⟨u, hu, ru⟩ := hv.get hx
    rw [List.getElem?_map] at hu
    obtain ⟨en, hen, rfl⟩ := Option.map_eq_some_iff.mp hu
    refine next_key_item st hgd hod (by rw [hea, List.size_toArray, hlen]) (en := en) (by rw [hea]; simpa using hen) fun h' st' sb => ?_
    have I1 : Inv X pins σ H { s with heap := h' } := I.turned (t' := s.toks) (fun b ob hb e => (sb.2 b hb).trans e) f0 f1 f3 f4 f5
    obtain ⟨oi, e, c, dd⟩ := id st'
    exact ⟨en.key, rfl, go_of (s := { s with heap := h' }) e c dd (by decide) ⟨x, H, I1, ru, ⟨rfl, hx⟩, st', fun b hb => (hf b hb).1⟩⟩
  done := by
    intro X hP hw hK hc i pins s σ H E I hf st hg
    subst hP hw hK
    obtain ⟨hd, ⟨es, hdo, hv⟩, hi⟩ := hg
    obtain ⟨f0, f1, f2, f3, f4, f5⟩ := hf it (by simp)
    obtain ⟨⟨hgd, _⟩, _⟩ := I.hok d _ hd
    have hea := hdo.same hod
    have hlen := hv.length
    rw [List.length_map] at hlen
    exact next_key_end (I.ok.hd hc) st hgd hod (by rw [hea, List.size_toArray, hlen]) hi fun h' eb => ⟨rfl, I.turned (t' := s.toks) (fun b ob hb e => eb b ob hb e) f0 f1 f3 f4 f5⟩
  self := fun A i s Q E st h => by
    refine wpAny_pyIter_slot st.typeIs PySem.F.slot_dict_keyiterator_iter (wpAny_call_entry PySem.F.slot_dict_keyiterator_iter st.typeIs PySem.F.entry_dict_keyiterator_iter ?_ (PySem.F.args_dict_keyiterator_iter_1 _))
    show wpAny _ _ (ret (.ref it)) _ _ s
    exact wpAny_pure ⟨_, rfl, "dict_keyiterator", _, st.typeIs, PySem.F.slot_dict_keyiterator_next.lookup, h⟩
def iDk (te : TE) : TI := fun σ H R => te σ H fun x H1 => ∃ a o vs, x = .ref a ∧ H1 a = some (rawD a o) ∧ (∃ es, DO o es ∧ Vals vs (es.map (·.key))) ∧ R (Itdk a o vs) H1
theorem pi_dk {tg : Expr} {te : TE} (he : PE X e te) : PI X tg e (iDk te) := by
  refine ⟨fun pins s σ H R I h => ?_⟩
  refine thn (he.run pins s σ H _ I h) fun v s1 ⟨x, H1, I1, r1, a, o, vs, ex, hp, ⟨es, hdo, hv⟩, q⟩ => ?_
  subst ex
  obtain rfl : v = .ref a := r1
  obtain ⟨⟨hg, hs⟩, _⟩ := I1.hok a _ hp
  obtain ⟨ep, hd⟩ := hdo.dat
  have hlen := hv.length
  rw [List.length_map] at hlen
  refine iter_keys hs hg hdo.ex hd (pi_one (tk := s1.toks) I1 _ (turn_dk hd) ⟨_, Heap.get?_push_size _ rfl, rfl, ?_⟩ q)
  rw [List.size_toArray, ← hlen]
  rfl
theorem RepE.keys : ∀ {l : List (D × D)} {es : List DictEntry}, RepE G F l es → ∃ vs, RepL G F (l.map (·.1)) vs ∧ Vals vs (es.map (·.key))
  | [], es, h => by
    rw [show es = [] from h]
    exact ⟨[], rfl, .nil⟩
  | (d, x) :: l, es, h => by
    obtain ⟨e, es', rfl, ⟨_, ⟨v, h1, h2⟩, _⟩, h4⟩ := h
    obtain ⟨vs, h5, h6⟩ := RepE.keys h4
    exact ⟨v :: vs, ⟨v, vs, rfl, h1, h5⟩, .cons h2 h6⟩
theorem itr_dk {p : Addr} {o : Obj} {es : List DictEntry} {vs : List V} {l : List D} (h : B p = some (rawD p o)) (hdo : DO o es) (hv : Vals vs (es.map (·.key))) (r : RepL G F l vs) : ItR G F B (Itdk p o vs) l where
  goes := fun i H hi hb => ⟨hb _ _ h, ⟨es, hdo, hv⟩, by rw [r.length]; exact hi⟩
  stops := fun H hb => ⟨hb _ _ h, ⟨es, hdo, hv⟩, by rw [r.length]; exact Nat.le_refl _⟩
  yields := fun i H x H1 hi hb y F1 B1 gr fb bh => by
    obtain ⟨rfl, y⟩ := y
    obtain ⟨d, e1, e2⟩ := r.getV y
    exact ⟨F1, B1, d, e1, Up.refl fb bh, e2.mono gr.f⟩
def keysD : D → Option (List D)
  | .dct l => some (l.map (·.1))
  | _ => none
def fIk (f : En → M D) : En → M (List D) := fun ρ => (f ρ).bnd fun x => up1 (keysD x)
theorem ji_dk {tg : Expr} (h : JE G k W N sc .borrow e f) : JI G k W N sc tg e (fIk f) := by
  obtain ⟨te, a1, a2⟩ := h
  refine ⟨iDk te, fun X c => pi_dk (a1 X c), fun Z F B H σ ρ s r hr R q => ?_⟩
  rcases bnd_some hr with ⟨x, ex, hr⟩ | ⟨x, ex, rfl⟩
  · refine a2 Z F B H σ ρ s _ ex _ fun F1 B1 H1 v1 u1 k1 => ?_
    obtain ⟨items, ei, rfl⟩ := up1_ok hr
    unfold keysD at ei
    split at ei
    · have e := Option.some.inj ei
      subst e
      obtain ⟨p, o, es, rfl, h1, h2, h3, h4⟩ := topD (show Top G F1 B1 _ v1 from k1)
      obtain ⟨vs, g1, g2⟩ := h3.keys
      exact ⟨p, o, vs, rfl, u1.bh _ _ h1, ⟨es, h2, g2⟩, q F1 B1 H1 _ u1 (itr_dk h1 h2 g2 g1)⟩
    · cases ei
  · exact a2 Z F B H σ ρ s _ ex _ q
end
end DL
namespace DL
open PySem PySem.Spec L2
section
variable {G : Gm} {kd : Kd} {k : Nat} {W : WX} {N : List Str} {sc : Scope} {e a b c o : Expr} {f fa fb fc : En → M D} {pos p : Pos} {F B H : Hp} {X : Cx} {x : Str} {i : Nat}
def D.addI : D → D → Option D := Er fun i j => .int (i + j)
def D.subI : D → D → Option D := Er fun i j => .int (i - j)
end
end DL
namespace DL
open PySem PySem.Spec L2
section
variable {G : Gm} {kd : Kd} {k : Nat} {W : WX} {N : List Str} {sc : Scope} {e a b c o : Expr} {f fa fb fc : En → M D} {pos p : Pos} {F B H : Hp} {X : Cx} {x : Str} {i : Nat}
def rLtDD (K : PySem.W.Frag) : R2 := fun x y H Q => ∃ d e, Dp K H x d ∧ Dp K H y e ∧ PySem.W.alike d e = true ∧ d ≠ .none ∧ d.depth ≤ 64 ∧ Q (.bl (PySem.W.dataLt d e)) H
theorem op_ltDD (hu : X.A.units + 64 < cLine) : OpR X (compareOp .Lt) (rLtDD X.K) := by
  intro pins s σ H x y v u Q I rx ry h
  obtain ⟨d, e, hd, he, sd, se, hz, q⟩ := h
  obtain ⟨as, r1⟩ := Dp.reads I d x v hd rx
  obtain ⟨bs, r2⟩ := Dp.reads I e y u he ry
  exact PySem.W.lt_data r1 r2 sd se (by omega) ⟨.bl _, H, I, rfl, q⟩
def isNoP : PyData → Bool
  | .none => true
  | _ => false
def ltDat (x y : D) : Option D := match toP x, toP y with
  | some a, some b => if PySem.W.alike a b = true ∧ isNoP a = false ∧ a.depth ≤ 64 then some (.bl (PySem.W.dataLt a b)) else none
  | _, _ => none
theorem s_ltDat : OpS G kd (rLtDD G.K) ltDat := by
  intro F B H fb bh x y v w hx hy d hd Q q
  unfold ltDat at hd
  split at hd
  · rename_i a c e1 e2
    split at hd
    · rename_i hs
      have e := Option.some.inj hd
      subst e
      exact ⟨a, c, toP_top (fb.trans bh) x v a e1 hx, toP_top (fb.trans bh) y w c e2 hy, hs.1, (fun e => by
        have := hs.2.1
        rw [e] at this
        cases this), hs.2.2, q.here fb bh rfl rfl⟩
    · cases hd
  · cases hd
def D.ltN : D → D → Option D := orO D.lt ltDat
theorem s_ltN : OpS G kd (fun x y H Q => (rI0 (fun i j => .bl (decide (i < j))) x y H Q ∨ rLtT G.K x y H Q) ∨ rLtDD G.K x y H Q) D.ltN := s_lt.or s_ltDat
theorem op_ltN {X : Cx} (c : CnE G k W N sc X) : OpR X (compareOp .Lt) (fun x y H Q => (rI0 (fun i j => .bl (decide (i < j))) x y H Q ∨ rLtT G.K x y H Q) ∨ rLtDD G.K x y H Q) := (op_ltD c).or (by rw [← c.hK]; exact op_ltDD (hu64 c))
theorem jt_ltN (ha : JE G k W N sc .peek a fa) (hb : JE G k W N sc .peek b fb) : JT G k W N sc (.Compare a [.Lt] [b] pos) (Cc (Az D.ltN fa fb)) := jt_cmp (fun X c => op_ltN c) s_ltN ha hb (nomark _)
end
structure OrdEnc {α : Type} [DecidableEq α] (enc : α → D) (lt : α → α → Bool) : Prop where
  lt : ∀ a b, D.ltN (enc a) (enc b) = some (.bl (lt a b))
  ne : ∀ a b, D.ne (enc a) (enc b) = some (.bl (decide (a ≠ b)))
structure Sto {α : Type} (lt : α → α → Bool) : Prop where
  irr : ∀ a, lt a a = false
  tr : ∀ a b c, lt a b = true → lt b c = true → lt a c = true
  tri : ∀ a b, lt a b = false → lt b a = false → a = b
theorem Sto.asym {α : Type} {lt : α → α → Bool} (h : Sto lt) {a b : α} (e : lt a b = true) : lt b a = false := by
  cases e2 : lt b a with
  | false => rfl
  | true => have := h.tr _ _ _ e e2; rw [h.irr] at this; cases this
theorem sto_int : Sto (fun a b : Int => decide (a < b)) := ⟨by simp, by simp only [decide_eq_true_eq]; omega, by simp only [decide_eq_false_iff_not]; omega⟩
theorem sto_lex : Sto HT.lexLt where
  irr := fun a => by
    induction a with
    | nil => rfl
    | cons x a ih => rw [HT.lexLt_cons, if_pos rfl]; exact ih
  tr := fun a => by
    induction a with
    | nil =>
      intro b c h1 h2
      cases b with
      | nil => cases h1
      | cons y b => cases c with
        | nil => cases h2
        | cons z c => rfl
    | cons x a ih =>
      intro b c h1 h2
      cases b with
      | nil => cases h1
      | cons y b => cases c with
        | nil => cases h2
        | cons z c =>
          rw [HT.lexLt_cons] at h1 h2 ⊢
          by_cases e1 : x = y
          · rw [if_pos e1] at h1
            by_cases e2 : y = z
            · rw [if_pos e2] at h2
              rw [if_pos (e1.trans e2)]
              exact ih b c h1 h2
            · rw [if_neg e2] at h2
              rw [if_neg (by rw [e1]; exact e2), e1]
              exact h2
          · rw [if_neg e1] at h1
            by_cases e2 : y = z
            · rw [← e2, if_neg e1]
              exact h1
            · rw [if_neg e2] at h2
              have h1 := of_decide_eq_true h1
              have h2 := of_decide_eq_true h2
              rw [if_neg (by omega)]
              exact decide_eq_true (by omega)
  tri := fun a => by
    induction a with
    | nil =>
      intro b h1 h2
      cases b with
      | nil => rfl
      | cons y b => cases h1
    | cons x a ih =>
      intro b h1 h2
      cases b with
      | nil => cases h2
      | cons y b =>
        rw [HT.lexLt_cons] at h1 h2
        by_cases e : x = y
        · rw [if_pos e] at h1
          rw [if_pos e.symm] at h2
          rw [e, ih b h1 h2]
        · rw [if_neg e] at h1
          rw [if_neg (Ne.symm e)] at h2
          have h1 := of_decide_eq_false h1
          have h2 := of_decide_eq_false h2
          omega
def pairLt {α β : Type} [DecidableEq α] (l1 : α → α → Bool) (l2 : β → β → Bool) (p q : α × β) : Bool := if p.1 = q.1 then l2 p.2 q.2 else l1 p.1 q.1
theorem sto_pair {α β : Type} [DecidableEq α] {l1 : α → α → Bool} {l2 : β → β → Bool} (h1 : Sto l1) (h2 : Sto l2) : Sto (pairLt l1 l2) where
  irr := fun a => by unfold pairLt; rw [if_pos rfl]; exact h2.irr _
  tr := fun a b c e1 e2 => by
    unfold pairLt at e1 e2 ⊢
    by_cases g1 : a.1 = b.1
    · rw [if_pos g1] at e1
      by_cases g2 : b.1 = c.1
      · rw [if_pos g2] at e2
        rw [if_pos (g1.trans g2)]
        exact h2.tr _ _ _ e1 e2
      · rw [if_neg g2] at e2
        rw [if_neg (by rw [g1]; exact g2), g1]
        exact e2
    · rw [if_neg g1] at e1
      by_cases g2 : b.1 = c.1
      · rw [← g2, if_neg g1]
        exact e1
      · rw [if_neg g2] at e2
        have h := h1.tr _ _ _ e1 e2
        rw [if_neg]
        · exact h
        · intro e
          rw [e, h1.irr] at h
          cases h
  tri := fun a b e1 e2 => by
    unfold pairLt at e1 e2
    by_cases g : a.1 = b.1
    · rw [if_pos g] at e1
      rw [if_pos g.symm] at e2
      exact Prod.ext g (h2.tri _ _ e1 e2)
    · rw [if_neg g] at e1
      rw [if_neg (Ne.symm g)] at e2
      exact absurd (h1.tri _ _ e1 e2) g
def cfgLt : Int × List Int → Int × List Int → Bool := pairLt (fun a b => decide (a < b)) HT.lexLt
theorem sto_cfg : Sto cfgLt := sto_pair sto_int sto_lex
def insR {α : Type} [DecidableEq α] (lt : α → α → Bool) (l : List α) (x : α) : List α :=
  l.takeWhile (fun y => lt y x) ++ (if (l.dropWhile fun y => lt y x).head? = some x then [] else [x]) ++ l.dropWhile fun y => lt y x
def sortR {α : Type} [DecidableEq α] (lt : α → α → Bool) (l : List α) : List α := l.foldl (insR lt) []
section
variable {α : Type} [DecidableEq α] {lt : α → α → Bool}
def Asc (lt : α → α → Bool) (l : List α) : Prop := l.Pairwise fun a b => lt a b = true
theorem mem_split {p : α → Bool} {l : List α} {x : α} : x ∈ l ↔ x ∈ l.takeWhile p ∨ x ∈ l.dropWhile p := by
  conv => lhs; rw [← List.takeWhile_append_dropWhile (p := p) (l := l)]
  exact List.mem_append
theorem mem_ins {l : List α} {x y : α} : y ∈ insR lt l x ↔ y = x ∨ y ∈ l := by
  unfold insR
  rw [List.mem_append, List.mem_append, mem_split (p := fun y => lt y x) (l := l)]
  split
  · rename_i h
    have hx : x ∈ l.dropWhile fun y => lt y x := List.mem_of_mem_head? h
    constructor
    · rintro ((h | h) | h)
      · exact .inr (.inl h)
      · cases h
      · exact .inr (.inr h)
    · rintro (rfl | h | h)
      · exact .inr hx
      · exact .inl (.inl h)
      · exact .inr h
  · rw [List.mem_singleton]
    constructor
    · rintro ((h | h) | h)
      · exact .inr (.inl h)
      · exact .inl h
      · exact .inr (.inr h)
    · rintro (rfl | h | h)
      · exact .inl (.inr rfl)
      · exact .inl (.inl h)
      · exact .inr h
theorem take_all {p : α → Bool} : ∀ {l : List α} {y : α}, y ∈ l.takeWhile p → p y = true
  | [], y, h => nomatch h
  | x :: l, y, h => by
    rw [List.takeWhile_cons] at h
    split at h
    · rename_i hp
      rcases List.mem_cons.mp h with rfl | h
      · exact hp
      · exact take_all h
    · cases h
theorem asc_ins (hs : Sto lt) {l : List α} (h : Asc lt l) (x : α) : Asc lt (insR lt l x) := by
  have e := List.takeWhile_append_dropWhile (p := fun y => lt y x) (l := l)
  have h2 : Asc lt (l.takeWhile (fun y => lt y x) ++ l.dropWhile fun y => lt y x) := by rw [e]; exact h
  obtain ⟨h3, h4, h5⟩ := List.pairwise_append.mp h2
  have h6 : ∀ y ∈ l.dropWhile fun y => lt y x, y = x ∨ lt x y = true := by
    cases e2 : l.dropWhile fun y => lt y x with
    | nil => intro y hy; cases hy
    | cons z r =>
      rw [e2] at h4
      have hz : lt z x = false := by
        have := List.head?_dropWhile_not (fun y => lt y x) l
        rw [e2] at this
        simpa using this
      have hzx : z = x ∨ lt x z = true := by
        cases e3 : lt x z with
        | true => exact .inr rfl
        | false => exact .inl (hs.tri _ _ hz e3)
      intro y hy
      rcases List.mem_cons.mp hy with rfl | hy
      · exact hzx
      · have hzy := (List.pairwise_cons.mp h4).1 y hy
        rcases hzx with rfl | hzx
        · exact .inr hzy
        · exact .inr (hs.tr _ _ _ hzx hzy)
  unfold insR
  split
  · rw [List.append_nil]
    exact h2
  · rename_i hn
    rw [List.append_assoc]
    refine List.pairwise_append.mpr ⟨h3, List.pairwise_cons.mpr ⟨fun y hy => ?_, h4⟩, fun a ha b hb => ?_⟩
    · rcases h6 y hy with rfl | h
      · cases e2 : l.dropWhile fun z => lt z y with
        | nil => rw [e2] at hy; cases hy
        | cons z r =>
          rw [e2] at hn hy h4
          have hz : lt z y = false := by
            have := List.head?_dropWhile_not (fun z => lt z y) l
            rw [e2] at this
            simpa using this
          rcases List.mem_cons.mp hy with rfl | hy
          · exact absurd rfl hn
          · have := (List.pairwise_cons.mp h4).1 y hy
            rw [hz] at this
            cases this
      · exact h
    · rcases List.mem_cons.mp hb with e | hb
      · rw [e]
        exact take_all (p := fun y => lt y x) ha
      · exact h5 a ha b hb
theorem mem_sort_aux {l : List α} : ∀ (acc : List α) (y : α), y ∈ l.foldl (insR lt) acc ↔ y ∈ l ∨ y ∈ acc := by
  induction l with
  | nil => intro acc y; simp
  | cons x l ih =>
    intro acc y
    rw [List.foldl_cons, ih, mem_ins, List.mem_cons]
    constructor
    · rintro (h | h | h)
      · exact .inl (.inr h)
      · exact .inl (.inl h)
      · exact .inr h
    · rintro ((h | h) | h)
      · exact .inr (.inl h)
      · exact .inl h
      · exact .inr (.inr h)
theorem mem_sort {l : List α} {y : α} : y ∈ sortR lt l ↔ y ∈ l := by
  unfold sortR
  rw [mem_sort_aux]
  simp
theorem asc_sort_aux (hs : Sto lt) {l : List α} : ∀ (acc : List α), Asc lt acc → Asc lt (l.foldl (insR lt) acc) := by
  induction l with
  | nil => intro acc h; exact h
  | cons x l ih => intro acc h; exact ih _ (asc_ins hs h x)
theorem asc_sort (hs : Sto lt) (l : List α) : Asc lt (sortR lt l) := asc_sort_aux hs [] List.Pairwise.nil
theorem Asc.nodup (hs : Sto lt) {l : List α} (h : Asc lt l) : l.Nodup := by
  refine List.Pairwise.imp (fun {a b} h e => ?_) h
  rw [e, hs.irr] at h
  cases h
theorem asc_unique (hs : Sto lt) : ∀ {l m : List α}, Asc lt l → Asc lt m → (∀ x, x ∈ l ↔ x ∈ m) → l = m
  | [], [], _, _, _ => rfl
  | [], y :: m, _, _, h => absurd ((h y).mpr List.mem_cons_self) (by simp)
  | x :: l, [], _, _, h => absurd ((h x).mp List.mem_cons_self) (by simp)
  | x :: l, y :: m, hl, hm, h => by
    obtain ⟨l1, l2⟩ := List.pairwise_cons.mp hl
    obtain ⟨m1, m2⟩ := List.pairwise_cons.mp hm
    have e : x = y := by
      rcases List.mem_cons.mp ((h x).mp List.mem_cons_self) with e | hx
      · exact e
      · rcases List.mem_cons.mp ((h y).mpr List.mem_cons_self) with e | hy
        · exact e.symm
        · have := hs.asym (m1 x hx)
          rw [l1 y hy] at this
          cases this
    subst e
    have hx1 : ∀ z ∈ l, z ≠ x := fun z hz e => by
      have := l1 z hz
      rw [e, hs.irr] at this
      cases this
    have hx2 : ∀ z ∈ m, z ≠ x := fun z hz e => by
      have := m1 z hz
      rw [e, hs.irr] at this
      cases this
    rw [asc_unique hs l2 m2 fun z => ⟨fun hz => ?_, fun hz => ?_⟩]
    · rcases List.mem_cons.mp ((h z).mp (List.mem_cons_of_mem _ hz)) with e | h
      · exact absurd e (hx1 z hz)
      · exact h
    · rcases List.mem_cons.mp ((h z).mpr (List.mem_cons_of_mem _ hz)) with e | h
      · exact absurd e (hx2 z hz)
      · exact h
theorem ins_length (l : List α) (x : α) : (insR lt l x).length ≤ l.length + 1 := by
  unfold insR
  have e := congrArg List.length (List.takeWhile_append_dropWhile (p := fun y => lt y x) (l := l))
  rw [List.length_append] at e
  rw [List.length_append, List.length_append]
  split <;> simp <;> omega
theorem sort_le_aux {l : List α} : ∀ acc : List α, (l.foldl (insR lt) acc).length ≤ acc.length + l.length := by
  induction l with
  | nil => intro acc; simp
  | cons x l ih =>
    intro acc
    rw [List.foldl_cons, List.length_cons]
    have := ih (insR lt acc x)
    have := ins_length (lt := lt) acc x
    omega
theorem sort_le (l : List α) : (sortR lt l).length ≤ l.length := by
  have := sort_le_aux (lt := lt) (l := l) []
  rw [List.length_nil] at this
  unfold sortR
  omega
end
structure KeyEnc {α : Type} (enc : α → D) : Prop where
  ex : ∀ a, ∃ k, kTup (enc a) = some k
  inj : ∀ a b, kOf (enc a) = kOf (enc b) → a = b
section
variable {α β : Type} [DecidableEq α] {enc : α → D} {ev : β → D}
def encq (enc : α → D) (ev : β → D) (q : α × β) : D × D := (enc q.1, ev q.2)
def alook (l : List (α × β)) (a : α) : Option β := (l.find? fun q => decide (q.1 = a)).map (·.2)
def aput (l : List (α × β)) (a : α) (b : β) : List (α × β) := if (alook l a).isSome = true then l.map fun q => if q.1 = a then (q.1, b) else q else l ++ [(a, b)]
theorem alook_cons (q : α × β) (l : List (α × β)) (a : α) : alook (q :: l) a = if q.1 = a then some q.2 else alook l a := by
  unfold alook
  rw [List.find?_cons]
  by_cases h : q.1 = a <;> simp [h]
theorem alook_some {l : List (α × β)} {a : α} {b : β} (h : alook l a = some b) : (a, b) ∈ l := by
  induction l with
  | nil => cases h
  | cons q l ih =>
    rw [alook_cons] at h
    split at h
    · rename_i e
      cases h
      rw [← e]
      exact List.mem_cons_self
    · exact List.mem_cons_of_mem _ (ih h)
theorem alook_none {l : List (α × β)} {a : α} : alook l a = none ↔ a ∉ l.map (·.1) := by
  induction l with
  | nil => simp [alook]
  | cons q l ih =>
    rw [alook_cons, List.map_cons, List.mem_cons]
    by_cases e : q.1 = a
    · rw [if_pos e]
      simp [e]
    · rw [if_neg e, ih]
      constructor
      · rintro h (h2 | h2)
        · exact e h2.symm
        · exact h h2
      · intro h h2
        exact h (.inr h2)
theorem alook_is {l : List (α × β)} {a : α} : (alook l a).isSome = decide (a ∈ l.map (·.1)) := by
  rw [Bool.eq_iff_iff, decide_eq_true_eq]
  constructor
  · intro h
    by_cases h2 : a ∈ l.map (·.1)
    · exact h2
    · rw [alook_none.mpr h2] at h; cases h
  · intro h
    cases e : alook l a with
    | some b => rfl
    | none => exact absurd h (alook_none.mp e)
theorem aput_keys (l : List (α × β)) (a : α) (b : β) : (aput l a b).map (·.1) = if a ∈ l.map (·.1) then l.map (·.1) else l.map (·.1) ++ [a] := by
  unfold aput
  rw [alook_is]
  by_cases h : a ∈ l.map (·.1)
  · rw [if_pos (decide_eq_true h), if_pos h, List.map_map]
    refine List.map_congr_left fun q _ => ?_
    show (if q.1 = a then (q.1, b) else q).1 = q.1
    split <;> rfl
  · rw [if_neg (by rw [decide_eq_false h]; decide), if_neg h, List.map_append]
    rfl
theorem aput_nodup {l : List (α × β)} (h : (l.map (·.1)).Nodup) (a : α) (b : β) : ((aput l a b).map (·.1)).Nodup := by
  rw [aput_keys]
  split
  · exact h
  · rename_i hn
    exact List.nodup_append.mpr ⟨h, by simp, fun x hx y hy e => by rw [List.mem_singleton.mp hy] at e; exact hn (e ▸ hx)⟩
theorem aput_new {l : List (α × β)} {a : α} (h : a ∉ l.map (·.1)) (b : β) : aput l a b = l ++ [(a, b)] := by
  unfold aput
  rw [if_neg (by rw [alook_is, decide_eq_false h]; decide)]
theorem aput_length_le (l : List (α × β)) (a : α) (b : β) : (aput l a b).length ≤ l.length + 1 := by
  unfold aput
  split
  · rw [List.length_map]; omega
  · rw [List.length_append, List.length_singleton]; omega
theorem KeyEnc.all (h : KeyEnc enc) (l : List (α × β)) : KAll (l.map (encq enc ev)) = true := by
  unfold KAll
  rw [List.all_eq_true]
  intro q hq
  obtain ⟨p, _, rfl⟩ := List.mem_map.mp hq
  obtain ⟨k, hk⟩ := h.ex p.1
  exact (kTup_some hk).1
theorem KeyEnc.key_eq (h : KeyEnc enc) {a b : α} {k : NestedKey} (hk : kTup (enc a) = some k) : kOf (enc b) = some k ↔ b = a := by
  obtain ⟨_, h2, _⟩ := kTup_some hk
  constructor
  · intro e
    exact h.inj _ _ (e.trans h2.symm)
  · rintro rfl
    exact h2
theorem KeyEnc.fnd (h : KeyEnc enc) {a : α} {k : NestedKey} (hk : kTup (enc a) = some k) : ∀ l : List (α × β), DL.fnd (l.map (encq enc ev)) k = (alook l a).map ev
  | [] => rfl
  | q :: l => by
    rw [List.map_cons, alook_cons]
    by_cases e : q.1 = a
    · rw [if_pos e, fnd_pos ((h.key_eq hk).mpr e)]
      rfl
    · rw [if_neg e, fnd_neg (fun e2 => e ((h.key_eq hk).mp e2)), h.fnd hk l]
theorem KeyEnc.inK (h : KeyEnc enc) (ev : β → D) (f : Bool → Bool) (a : α) (l : List (α × β)) : D.inK f (enc a) (.dct (l.map (encq enc ev))) = some (.bl (f (decide (a ∈ l.map (·.1))))) := by
  obtain ⟨k, hk⟩ := h.ex a
  unfold D.inK
  simp only [hk, h.all l, h.fnd hk l, Option.isSome_map, alook_is, if_true]
theorem KeyEnc.put (h : KeyEnc enc) (ev : β → D) (a : α) (b : β) {l : List (α × β)} (hl : l.length < 16000000) : uPut (ev b) (enc a) (.dct (l.map (encq enc ev))) = some (.dct ((aput l a b).map (encq enc ev))) := by
  obtain ⟨k, hk⟩ := h.ex a
  have e : dput (l.map (encq enc ev)) (enc a) k (ev b) = (aput l a b).map (encq enc ev) := by
    unfold dput aput
    rw [h.fnd hk l, Option.isSome_map]
    split
    · rw [List.map_map, List.map_map]
      refine List.map_congr_left fun q _ => ?_
      show (if kOf (enc q.1) = some k then (enc q.1, ev b) else encq enc ev q) = encq enc ev (if q.1 = a then (q.1, b) else q)
      by_cases e : q.1 = a
      · rw [if_pos e, if_pos ((h.key_eq hk).mpr e)]
        rfl
      · rw [if_neg e, if_neg fun e2 => e ((h.key_eq hk).mp e2)]
    · rw [List.map_append]
      rfl
  unfold uPut
  simp only [hk, h.all l, List.length_map, true_and]
  rw [if_pos hl, e]
theorem KeyEnc.one (h : KeyEnc enc) (ev : β → D) (a : α) (b : β) : dOne (enc a) (ev b) = some (.dct ([(a, b)].map (encq enc ev))) := by
  obtain ⟨k, hk⟩ := h.ex a
  unfold dOne
  rw [hk]
  rfl
end
section
variable {α : Type} [DecidableEq α] {enc : α → D}
def setq (enc : α → D) (a : α) : D × D := (enc a, .bl true)
theorem set_as (enc : α → D) (l : List α) : l.map (setq enc) = (l.map fun a => (a, ())).map (encq enc fun _ : Unit => .bl true) := by
  rw [List.map_map]
  rfl
theorem set_fst (l : List α) : (l.map fun a => (a, ())).map (·.1) = l := by
  rw [List.map_map]
  exact List.map_id l
theorem KeyEnc.inS (h : KeyEnc enc) (f : Bool → Bool) (a : α) (l : List α) : D.inK f (enc a) (.dct (l.map (setq enc))) = some (.bl (f (decide (a ∈ l)))) := by
  rw [set_as, h.inK, set_fst]
theorem KeyEnc.putS (h : KeyEnc enc) {a : α} {l : List α} (hn : a ∉ l) (hl : l.length < 16000000) : uPut (.bl true) (enc a) (.dct (l.map (setq enc))) = some (.dct ((l ++ [a]).map (setq enc))) := by
  rw [set_as, set_as]
  have := h.put (fun _ : Unit => .bl true) a () (l := l.map fun a => (a, ())) (by rw [List.length_map]; exact hl)
  rw [this, aput_new (by rw [set_fst]; exact hn), List.map_append, List.map_append, List.map_append]
  rfl
theorem keys_set (enc : α → D) (l : List α) : keysD (.dct (l.map (setq enc))) = some (l.map enc) := by
  show some ((l.map (setq enc)).map (·.1)) = _
  rw [List.map_map]
  rfl
end
def Sl.free : Sl → Bool
  | .mu _ => false
  | _ => true
def oFree : Option Sl → Bool
  | some s => s.free
  | none => false
theorem Ab (s : Sl) : oFree (some s) = s.free := rfl
theorem Bt (i : Nat) (q : Sl) (ρ : En) : put i q ρ = if oFree ρ[i]? = true then some (ρ.set i q) else none := by
  unfold put
  cases h : ρ[i]? with
  | none => rfl
  | some s => cases s <;> rfl
theorem at_0 {α : Type} (a : α) (l : List α) : atI (a :: l) 0 = some a := atI_nat (l := a :: l) (k := 0) (by simp)
theorem at_1 {α : Type} (a b : α) (l : List α) : atI (a :: b :: l) 1 = some b := atI_nat (l := a :: b :: l) (k := 1) (by simp)
theorem at_2 {α : Type} (a b c : α) (l : List α) : atI (a :: b :: c :: l) 2 = some c := atI_nat (l := a :: b :: c :: l) (k := 2) (by simp)
theorem at_3 {α : Type} (a b c d : α) (l : List α) : atI (a :: b :: c :: d :: l) 3 = some d := atI_nat (l := a :: b :: c :: d :: l) (k := 3) (by simp)
end DL
namespace DL
open PySem PySem.Spec L2
abbrev encR (row : List Int) : D := .tup (row.map D.int)
def crD (row : List Int) : D := .obj 0 [.tup (row.map D.int)]
def subE (a b : List Int) : Bool := a.all fun x => decide (a.count x ≤ b.count x)
theorem subE_iff {a b : List Int} : subE a b = true ↔ ∀ x, a.count x ≤ b.count x := by
  unfold subE
  rw [List.all_eq_true]
  constructor
  · intro h x
    by_cases hx : x ∈ a
    · exact of_decide_eq_true (h x hx)
    · rw [List.count_eq_zero_of_not_mem hx]
      omega
  · intro h x _
    exact decide_eq_true (h x)
theorem srt_count (l : List Int) (x : Int) : (srt l).count x = l.count x := (srt_perm l).count_eq x
theorem srt_congr {a b : List Int} (h : a.Perm b) : srt a = srt b := srt_eq ((srt_perm a).trans h) (srt_sorted a)
theorem inV_tI (x : Int) : ∀ l : List Int, inV (.int x) (l.map V.int) = decide (x ∈ l)
  | [] => by simp [inV]
  | y :: l => by
    have ih := inV_tI x l
    rw [List.map_cons]
    unfold inV at ih ⊢
    rw [List.any_cons, ih]
    have e : eqV (.int y) (.int x) = decide (y = x) := by
      show (y == x) = _
      by_cases h : y = x <;> simp [h]
    rw [e]
    by_cases h1 : y = x
    · subst h1; simp
    · have h2 : ¬ x = y := fun e => h1 e.symm
      by_cases h3 : x ∈ l <;> simp [h1, h2, h3]
theorem flatDs_I : ∀ l : List Int, flatDs (l.map D.int) = some (l.map V.int)
  | [] => by unfold List.map flatDs; rfl
  | y :: l => by
    rw [List.map_cons]
    unfold flatDs
    rw [flatDs_I l]
    rfl
theorem inT_I (x : Int) (l : List Int) : inB (.int x) (.tup (l.map D.int)) = some (decide (x ∈ l)) := by
  have e : inT (.int x) (.tup (l.map D.int)) = some (decide (x ∈ l)) := by
    show (match flatD (.int x), flatDs (l.map D.int) with
      | some v, some vs => some (inV v vs)
      | _, _ => none) = _
    rw [flatDs_I l]
    show some (inV (.int x) (l.map V.int)) = _
    rw [inV_tI]
  show ((none : Option Bool).or _) = _
  rw [e]
  rfl
theorem nin_tI (x : Int) (l : List Int) : D.nin (.int x) (.tup (l.map D.int)) = some (.bl (!decide (x ∈ l))) := by
  unfold D.nin
  rw [inT_I]
  rfl
theorem inn_tI (x : Int) (l : List Int) : D.inn (.int x) (.tup (l.map D.int)) = some (.bl (decide (x ∈ l))) := by
  unfold D.inn
  rw [inT_I]
  rfl
theorem cut_take (l : List D) (n : Nat) (h : n ≤ l.length) : cutD l none (some (n : Int)) = l.take n := by
  have e : HT.sIx l.length l.length (some (n : Int)) = n := by
    show (if (n : Int) < 0 then ((n : Int) + (l.length : Int)).toNat else min (n : Int).toNat l.length) = n
    rw [if_neg (by omega)]
    omega
  have e0 : HT.sIx l.length 0 none = 0 := by simp [HT.sIx]
  unfold cutD
  rw [e, e0]
  simp
theorem EqEnc.bl : EqEnc D.bl 1 where
  ex := fun a => ⟨.bool a, by unfold toP; rfl, by unfold PyData.canLay0; rfl, by unfold PyData.depth; omega⟩
  eq := fun a b p q hp hq => by
    unfold toP at hp hq
    cases hp
    cases hq
    cases a <;> cases b <;> kernel_rfl
theorem no_false {α : Type} (l : List α) : D.inn (.bl false) (.lst (l.map fun _ => D.bl true)) = some (.bl false) := by
  have := EqEnc.bl.inn (by decide) false (l.map fun _ => true)
  rw [List.map_map] at this
  refine this.trans ?_
  congr 2
  exact decide_eq_false (by simp)
theorem isi_tt (l : List D) : D.isi [.tup l, .typ "tuple"] = some (.bl true) := by
  show (isiT (.b "tuple") (.b "tuple")).map D.bl = _
  kernel_rfl
theorem map_rep (l : List Int) : ∀ n : Nat, (List.replicate n (l.map D.int)).flatten = ((List.replicate n l).flatten).map D.int
  | 0 => rfl
  | n + 1 => by
    rw [List.replicate_succ, List.replicate_succ, List.flatten_cons, List.flatten_cons, map_rep l n, List.map_append]
theorem srt_cnt {a b : List Int} (h : ∀ x, a.count x = b.count x) : srt a = srt b := srt_congr (List.perm_iff_count.mpr h)
theorem isO (a : List Int) : isObj 0 (crD a) = true := rfl
structure Good (S P : Int) (r : List Int) : Prop where
  ex : ∃ h o t n, r = [h, o, t, n] ∧ 0 ≤ h ∧ h < S ∧ 0 ≤ o ∧ o < P ∧ 0 ≤ t ∧ t < S ∧ 0 ≤ n ∧ n < P
def prD (S P : Int) (rows : List (List Int)) (s0 s1 : Int) : D := .obj 1 [.int S, .int P, .tup (rows.map encR), .tup [.int s0, .int s1]]
def inR (n x : Int) : Bool := decide (0 ≤ x) && decide (x < n)
def okR (S P : Int) (done : List (List Int)) (r : List Int) : Bool := ((inR S (r.getD 0 0) && inR S (r.getD 2 0)) && (inR P (r.getD 1 0) && inR P (r.getD 3 0))) && !decide (r ∈ done)
def fb (S P : Int) : List (List Int) → List (List Int) → Option Nat
  | _, [] => none
  | done, r :: rest => if okR S P done r = true then fb S P (done ++ [r]) rest else some done.length
def selR (st : Int) (M : List Int) (r : List Int) : Bool := decide (r.getD 0 0 = st) && decide (r.getD 1 0 ∈ M)
theorem rep_one (x : Int) : ∀ n : Nat, (List.replicate n [x]).flatten = List.replicate n x
  | 0 => rfl
  | n + 1 => by rw [List.replicate_succ, List.flatten_cons, rep_one x n, List.replicate_succ]; rfl
theorem nin_of {x y : D} {b : Bool} (h : D.inn x y = some (.bl b)) : D.nin x y = some (.bl (!b)) := by
  unfold D.inn at h
  unfold D.nin
  cases e : inB x y with
  | none => rw [e] at h; cases h
  | some t =>
    rw [e] at h
    cases h
    rfl
def keyD (c : Int × List Int) : D := .tup [.int c.1, .tup (c.2.map D.int)]
def encC (c : Int × List Int) : D := .tup [.int c.1, crD c.2]
def readyR (rows : List (List Int)) (c : Int × List Int) : List Nat := (List.range rows.length).filter fun j => selR c.1 c.2 (rows.getD j [])
theorem mem_ready {rows : List (List Int)} {c : Int × List Int} {j : Nat} : j ∈ readyR rows c ↔ j < rows.length ∧ selR c.1 c.2 (rows.getD j []) = true := by
  unfold readyR
  rw [List.mem_filter, List.mem_range]
def afterR (M : List Int) (r : List Int) : List Int := srt (M.erase (r.getD 1 0) ++ [r.getD 3 0])
def nextR (rows : List (List Int)) (c : Int × List Int) (j : Nat) : Int × List Int := ((rows.getD j []).getD 2 0, afterR c.2 (rows.getD j []))
theorem isi_c0 (a : List Int) : D.isi [crD a, .cls 0] = some (.bl true) := by
  show (isiT (.o 0) (.o 0)).map D.bl = _
  kernel_rfl
def okB (row : List Int) (x : Int) : Bool := match row.getLast? with
  | some y => decide (y ≤ x)
  | none => true
def BL (L : List Int) : Nat → List (List Int)
  | 0 => [[]]
  | t + 1 => (BL L t).flatMap fun row => (L.filter (okB row)).map fun x => row ++ [x]
def LMs (M K : List Int) : Nat → List (List Int)
  | 0 => [[]]
  | t + 1 => (LMs M K t).flatMap fun row => (K.filter fun x => okB row x && decide (row.count x < M.count x)).map fun x => row ++ [x]
theorem count_snoc (row : List Int) (x y : Int) : (row ++ [x]).count y = row.count y + if x = y then 1 else 0 := by
  rw [List.count_append]
  congr 1
  by_cases h : x = y
  · rw [if_pos h, h]; simp
  · rw [if_neg h]; simp [List.count_cons, h]
theorem sub_snoc {row M : List Int} {x : Int} : subE (row ++ [x]) M = (subE row M && decide (row.count x < M.count x)) := by
  rw [Bool.eq_iff_iff, Bool.and_eq_true, subE_iff, subE_iff, decide_eq_true_eq]
  constructor
  · intro h
    refine ⟨fun y => ?_, ?_⟩
    · have := h y
      rw [count_snoc] at this
      omega
    · have := h x
      rw [count_snoc, if_pos rfl] at this
      omega
  · rintro ⟨h, h2⟩ y
    rw [count_snoc]
    by_cases hy : x = y
    · subst hy
      rw [if_pos rfl]
      omega
    · rw [if_neg hy]
      have := h y
      omega
theorem flat_filter {α β : Type} (l : List α) (p : α → Bool) (f g : α → List β) (h1 : ∀ a ∈ l, p a = true → f a = g a) (h2 : ∀ a ∈ l, p a = false → g a = []) : (l.filter p).flatMap f = l.flatMap g := by
  induction l with
  | nil => rfl
  | cons a l ih =>
    have ih := ih (fun b hb => h1 b (List.mem_cons_of_mem _ hb)) (fun b hb => h2 b (List.mem_cons_of_mem _ hb))
    cases hp : p a with
    | true => rw [List.filter_cons_of_pos hp, List.flatMap_cons, List.flatMap_cons, ih, h1 a List.mem_cons_self hp]
    | false =>
      have hn : ¬ p a = true := by rw [hp]; decide
      rw [List.filter_cons_of_neg hn, List.flatMap_cons, ih, h2 a List.mem_cons_self hp]
      rfl
theorem LM_eq (M L : List Int) : ∀ t, LMs M (L.filter fun x => decide (x ∈ M)) t = (BL L t).filter fun row => subE row M
  | 0 => by
    show [[]] = List.filter _ [[]]
    rfl
  | t + 1 => by
    show (LMs M (L.filter fun x => decide (x ∈ M)) t).flatMap _ = List.filter _ ((BL L t).flatMap _)
    rw [LM_eq M L t, List.filter_flatMap]
    refine flat_filter _ _ _ _ (fun row hr hs => ?_) (fun row hr hs => ?_)
    · rw [List.filter_map, List.filter_filter, List.filter_filter]
      congr 1
      refine List.filter_congr fun x hx => ?_
      show (okB row x && decide (row.count x < M.count x) && decide (x ∈ M)) = (subE (row ++ [x]) M && okB row x)
      rw [sub_snoc, hs, Bool.true_and]
      by_cases h : row.count x < M.count x
      · have : x ∈ M := List.count_pos_iff.mp (by omega)
        simp [h, this]
      · simp [h]
    · rw [List.filter_map, List.filter_eq_nil_iff.mpr, List.map_nil]
      intro x hx
      show ¬ subE (row ++ [x]) M = true
      rw [sub_snoc, hs]
      simp
theorem BL_len (L : List Int) : ∀ t, (BL L t).length ≤ L.length ^ t
  | 0 => Nat.le_refl _
  | t + 1 => by
    show ((BL L t).flatMap _).length ≤ _
    rw [List.length_flatMap]
    have h := BL_len L t
    have : ∀ l : List (List Int), (l.map fun row => ((L.filter (okB row)).map fun x => row ++ [x]).length).sum ≤ l.length * L.length := by
      intro l
      induction l with
      | nil => simp
      | cons a l ih =>
        rw [List.map_cons, List.sum_cons, List.length_cons, Nat.add_mul, Nat.one_mul, List.length_map]
        have := List.length_filter_le (okB a) L
        omega
    refine Nat.le_trans (this _) ?_
    rw [Nat.pow_succ]
    exact Nat.mul_le_mul_right _ h
structure RowOf (L : List Int) (t : Nat) (row : List Int) : Prop where
  len : row.length = t
  mem : ∀ x ∈ row, x ∈ L
  asc : row.Pairwise (· ≤ ·)
theorem last_le {row : List Int} (h : row.Pairwise (· ≤ ·)) {x : Int} (hx : okB row x = true) : ∀ y ∈ row, y ≤ x := by
  intro y hy
  unfold okB at hx
  cases e : row.getLast? with
  | none => rw [List.getLast?_eq_none_iff.mp e] at hy; cases hy
  | some z =>
    rw [e] at hx
    have hx : z ≤ x := of_decide_eq_true hx
    obtain ⟨ini, rfl⟩ := List.getLast?_eq_some_iff.mp e
    rcases List.mem_append.mp hy with h1 | h1
    · have := (List.pairwise_append.mp h).2.2 y h1 z (by simp)
      omega
    · rw [List.mem_singleton.mp h1]
      exact hx
theorem BL_row {L : List Int} : ∀ {t : Nat} {row : List Int}, row ∈ BL L t → RowOf L t row
  | 0, row, h => by
    obtain rfl := List.mem_singleton.mp h
    exact ⟨rfl, by simp, List.Pairwise.nil⟩
  | t + 1, row, h => by
    obtain ⟨r, hr, h2⟩ := List.mem_flatMap.mp h
    obtain ⟨x, hx, rfl⟩ := List.mem_map.mp h2
    obtain ⟨hx1, hx2⟩ := List.mem_filter.mp hx
    have R := BL_row hr
    refine ⟨by rw [List.length_append, R.len]; rfl, fun y hy => ?_, ?_⟩
    · rcases List.mem_append.mp hy with h1 | h1
      · exact R.mem y h1
      · rw [List.mem_singleton.mp h1]; exact hx1
    · refine List.pairwise_append.mpr ⟨R.asc, by simp, fun y hy z hz => ?_⟩
      rw [List.mem_singleton.mp hz]
      exact last_le R.asc hx2 y hy
theorem BL_all {L : List Int} : ∀ (t : Nat) (row : List Int), RowOf L t row → row ∈ BL L t
  | 0, row, R => by
    obtain rfl := List.length_eq_zero_iff.mp R.len
    exact List.mem_singleton.mpr rfl
  | t + 1, row, R => by
    have hne : row ≠ [] := by rintro rfl; cases R.len
    have e := (List.dropLast_concat_getLast hne).symm
    obtain ⟨x, hx⟩ : ∃ x, x = row.getLast hne := ⟨_, rfl⟩
    obtain ⟨ini, hi⟩ : ∃ ini, ini = row.dropLast := ⟨_, rfl⟩
    rw [← hx, ← hi] at e
    obtain ⟨L1, M1, A1⟩ := R
    rw [e] at L1 M1 A1
    obtain ⟨p1, p2, p3⟩ := List.pairwise_append.mp A1
    rw [e]
    refine List.mem_flatMap.mpr ⟨ini, BL_all t ini ⟨by simpa using L1, fun y hy => M1 y (List.mem_append_left _ hy), p1⟩, List.mem_map.mpr ⟨x, List.mem_filter.mpr ⟨M1 x (by simp), ?_⟩, rfl⟩⟩
    unfold okB
    cases el : ini.getLast? with
    | none => rfl
    | some z => exact decide_eq_true (p3 z (List.mem_of_getLast? el) x (by simp))
theorem BL_nodup {L : List Int} (hL : L.Nodup) : ∀ t, (BL L t).Nodup
  | 0 => by simp [BL]
  | t + 1 => by
    show List.Pairwise _ ((BL L t).flatMap _)
    refine List.pairwise_flatMap.mpr ⟨fun row _ => ?_, ?_⟩
    · refine List.pairwise_map.mpr ((hL.filter _).imp fun {x y} h e => ?_)
      exact h (by simpa using e)
    · refine (BL_nodup hL t).imp fun {r s} h a ha b hb e => ?_
      obtain ⟨x, _, rfl⟩ := List.mem_map.mp ha
      obtain ⟨y, _, rfl⟩ := List.mem_map.mp hb
      exact h (List.append_inj_left' e rfl)
theorem one_only {α : Type} {l : List α} {a : α} (hn : l.Nodup) (h : ∀ b ∈ l, b = a) (ha : a ∈ l) : l = [a] := by
  match l with
  | [] => cases ha
  | [b] => rw [h b (by simp)]
  | b :: c :: l =>
    have e1 := h b (by simp)
    have e2 := h c (by simp)
    have := (List.nodup_cons.mp hn).1
    rw [e1, e2] at this
    exact absurd List.mem_cons_self this
theorem perm_counts : ∀ (a b : List Int), (∀ x, a.count x ≤ b.count x) → b.length ≤ a.length → a.Perm b
  | [], b, _, h => by
    have : b = [] := List.length_eq_zero_iff.mp (Nat.le_zero.mp h)
    rw [this]
  | x :: a, b, hc, h => by
    have hx : x ∈ b := List.count_pos_iff.mp (by
      have := hc x
      rw [List.count_cons_self] at this
      omega)
    have p := List.perm_cons_erase hx
    refine ((perm_counts a (b.erase x) (fun y => ?_) ?_).cons x).trans p.symm
    · have h1 := hc y
      rw [p.count_eq y, List.count_cons, List.count_cons] at h1
      omega
    · rw [List.length_erase_of_mem hx]
      rw [List.length_cons] at h
      omega
theorem whole (L M : List Int) (hL : L.Nodup) (hM : M.Pairwise (· ≤ ·)) (hm : ∀ x ∈ M, x ∈ L) (same : ∀ row : List Int, row.Perm M → row.Pairwise (· ≤ ·) → row = M) : ((BL L M.length).filter fun row => subE row M) = [M] := by
  refine one_only ((BL_nodup hL _).filter _) (fun row hr => ?_) ?_
  · obtain ⟨h1, h2⟩ := List.mem_filter.mp hr
    have R := BL_row h1
    refine same row ?_ R.asc
    exact perm_counts row M (subE_iff.mp h2) (by rw [R.len]; exact Nat.le_refl _)
  · refine List.mem_filter.mpr ⟨BL_all _ _ ⟨rfl, hm, hM⟩, subE_iff.mpr fun x => Nat.le_refl _⟩
def kindsA : List Int → List Int → List Int
  | _, [] => []
  | pre, x :: xs => if x ∈ pre then kindsA (pre ++ [x]) xs else x :: kindsA (pre ++ [x]) xs
theorem kindsA_mem : ∀ (xs pre : List Int) (y : Int), y ∈ kindsA pre xs ↔ y ∈ xs ∧ y ∉ pre
  | [], pre, y => by simp [kindsA]
  | x :: xs, pre, y => by
    unfold kindsA
    split
    · rw [kindsA_mem xs (pre ++ [x]) y]
      simp only [List.mem_append, List.mem_cons, List.not_mem_nil, or_false]
      constructor
      · rintro ⟨h1, h2⟩; exact ⟨.inr h1, fun h => h2 (.inl h)⟩
      · rintro ⟨h1, h2⟩
        have hy : y ≠ x := by rintro rfl; contradiction
        exact ⟨h1.resolve_left hy, fun h => h.elim h2 hy⟩
    · rw [List.mem_cons, kindsA_mem xs (pre ++ [x]) y]
      simp only [List.mem_append, List.mem_cons, List.not_mem_nil, or_false]
      rename_i hx
      constructor
      · rintro (rfl | ⟨h1, h2⟩)
        · exact ⟨.inl rfl, hx⟩
        · exact ⟨.inr h1, fun h => h2 (.inl h)⟩
      · rintro ⟨h1, h2⟩
        by_cases hy : y = x
        · exact .inl hy
        · exact .inr ⟨h1.resolve_left hy, fun h => h.elim h2 hy⟩
theorem kindsA_asc : ∀ (xs pre : List Int), xs.Pairwise (· ≤ ·) → (kindsA pre xs).Pairwise (· < ·)
  | [], pre, _ => List.Pairwise.nil
  | x :: xs, pre, h => by
    obtain ⟨h1, h2⟩ := List.pairwise_cons.mp h
    unfold kindsA
    split
    · exact kindsA_asc xs _ h2
    · refine List.pairwise_cons.mpr ⟨fun y hy => ?_, kindsA_asc xs _ h2⟩
      obtain ⟨a1, a2⟩ := (kindsA_mem xs _ y).mp hy
      have := h1 y a1
      have hne : y ≠ x := fun e => a2 (by simp [e])
      omega
def kn (l : List Int) : List Int := ((List.range 48).filter fun j : Nat => decide ((j : Int) ∈ l)).map fun j : Nat => (j : Int)
theorem mem_kn {l : List Int} {x : Int} : x ∈ kn l ↔ x ∈ l ∧ 0 ≤ x ∧ x < 48 := by
  unfold kn
  rw [List.mem_map]
  constructor
  · rintro ⟨j, hj, rfl⟩
    obtain ⟨h1, h2⟩ := List.mem_filter.mp hj
    have := List.mem_range.mp h1
    exact ⟨of_decide_eq_true h2, by omega, by omega⟩
  · rintro ⟨h1, h2, h3⟩
    refine ⟨x.toNat, List.mem_filter.mpr ⟨List.mem_range.mpr (by omega), ?_⟩, by omega⟩
    rw [show ((x.toNat : Nat) : Int) = x by omega]
    exact decide_eq_true h1
theorem kn_len (l : List Int) : (kn l).length ≤ 48 := by
  unfold kn
  rw [List.length_map]
  exact Nat.le_trans (List.length_filter_le _ _) (by rw [List.length_range]; omega)
def seqD (b : Bool) (l : List Int) : D := if b = true then .tup (l.map D.int) else .lst (l.map D.int)
def stD : Option (List Int) → D
  | none => .non
  | some ks => .tup (ks.map D.int)
def bnD (m : List Int) (st : Option (List Int)) : D := .obj 2 [crD m, stD st]
theorem isO0 (m : List Int) : isObj 0 (crD m) = true := rfl
def okSt (l : List Int) : Bool := decide (kn l ≠ []) && l.all fun x => decide (x ∈ kn l)
end DL
namespace DL
open PySem PySem.Spec L2
abbrev Cfg := Int × List Int
def ivl (n : Nat) : List Int := (List.range n).map fun i : Nat => (i : Int)
theorem mem_ivl {n : Nat} {x : Int} : x ∈ ivl n ↔ 0 ≤ x ∧ x < n := by
  unfold ivl
  rw [List.mem_map]
  constructor
  · rintro ⟨i, hi, rfl⟩
    have := List.mem_range.mp hi
    omega
  · rintro ⟨h1, h2⟩
    exact ⟨x.toNat, List.mem_range.mpr (by omega), by omega⟩
theorem ivl_len (n : Nat) : (ivl n).length = n := by unfold ivl; rw [List.length_map, List.length_range]
theorem ivl_lt (n : Nat) : (ivl n).Pairwise (· < ·) := by
  unfold ivl
  refine List.pairwise_map.mpr ?_
  exact (List.pairwise_lt_range (n := n)).imp fun h => by omega
theorem ivl_map (n : Nat) : (ivl n).map D.int = rngD 0 n := by
  rw [rngD_map]
  unfold ivl
  rw [List.map_map]
  rfl
theorem lexLt_pre (a c d : List Int) : HT.lexLt (a ++ c) (a ++ d) = HT.lexLt c d := by
  induction a with
  | nil => rfl
  | cons x a ih => rw [List.cons_append, List.cons_append, HT.lexLt_cons, if_pos rfl]; exact ih
theorem lexLt_app : ∀ {a b : List Int}, a.length = b.length → HT.lexLt a b = true → ∀ c d : List Int, HT.lexLt (a ++ c) (b ++ d) = true
  | [], [], _, h, _, _ => by cases h
  | [], _ :: _, hl, _, _, _ => by cases hl
  | _ :: _, [], hl, _, _, _ => by cases hl
  | x :: a, y :: b, hl, h, c, d => by
    rw [HT.lexLt_cons] at h
    rw [List.cons_append, List.cons_append, HT.lexLt_cons]
    by_cases e : x = y
    · rw [if_pos e] at h ⊢
      exact lexLt_app (by simpa using hl) h c d
    · rw [if_neg e] at h ⊢
      exact h
theorem BL_asc {L : List Int} (hL : L.Pairwise (· < ·)) : ∀ t, Asc HT.lexLt (BL L t)
  | 0 => by simp [BL, Asc]
  | t + 1 => by
    show List.Pairwise _ ((BL L t).flatMap _)
    refine List.pairwise_flatMap.mpr ⟨fun row _ => ?_, ?_⟩
    · refine List.pairwise_map.mpr ((hL.filter _).imp fun {x y} h => ?_)
      rw [lexLt_pre, HT.lexLt_cons, if_neg (by omega)]
      exact decide_eq_true h
    · refine List.Pairwise.imp_of_mem (fun {r s} hr hs h a ha b hb => ?_) (BL_asc hL t)
      obtain ⟨x, _, rfl⟩ := List.mem_map.mp ha
      obtain ⟨y, _, rfl⟩ := List.mem_map.mp hb
      exact lexLt_app (by rw [(BL_row hr).len, (BL_row hs).len]) h _ _
def bagsR (Q n : Nat) : List (List Int) := BL (ivl Q) n
def uniR (S Q n : Nat) : List Cfg := (ivl S).flatMap fun s => (bagsR Q n).map fun b => (s, b)
theorem bags_asc (Q n : Nat) : Asc HT.lexLt (bagsR Q n) := BL_asc (ivl_lt Q) n
theorem uni_asc (S Q n : Nat) : Asc cfgLt (uniR S Q n) := by
  unfold uniR
  refine List.pairwise_flatMap.mpr ⟨fun s _ => ?_, ?_⟩
  · refine List.pairwise_map.mpr ((bags_asc Q n).imp fun {a b} h => ?_)
    unfold cfgLt pairLt
    rw [if_pos rfl]
    exact h
  · refine (ivl_lt S).imp fun {s t} h a ha b hb => ?_
    obtain ⟨x, _, rfl⟩ := List.mem_map.mp ha
    obtain ⟨y, _, rfl⟩ := List.mem_map.mp hb
    unfold cfgLt pairLt
    rw [if_neg (show ¬ s = t by omega)]
    exact decide_eq_true h
structure OkC (S Q n : Nat) (c : Cfg) : Prop where
  s0 : 0 ≤ c.1
  s1 : c.1 < S
  row : RowOf (ivl Q) n c.2
theorem mem_uni {S Q n : Nat} {c : Cfg} : c ∈ uniR S Q n ↔ OkC S Q n c := by
  unfold uniR
  rw [List.mem_flatMap]
  constructor
  · rintro ⟨s, hs, h⟩
    obtain ⟨b, hb, rfl⟩ := List.mem_map.mp h
    exact ⟨(mem_ivl.mp hs).1, (mem_ivl.mp hs).2, BL_row hb⟩
  · rintro ⟨h1, h2, h3⟩
    exact ⟨c.1, mem_ivl.mpr ⟨h1, h2⟩, List.mem_map.mpr ⟨c.2, BL_all _ _ h3, rfl⟩⟩
theorem OkC.len {S Q n : Nat} {c : Cfg} (h : OkC S Q n c) : c.2.length = n := h.row.len
theorem srt_id {l : List Int} (h : l.Pairwise (· ≤ ·)) : srt l = l := (srt_eq (List.Perm.refl l) h).symm
def succsR (rows : List (List Int)) (c : Cfg) : List Cfg := (readyR rows c).map (nextR rows c)
inductive Reach (rows : List (List Int)) (c0 : Cfg) : Cfg → Prop
  | start : Reach rows c0 c0
  | step {c d : Cfg} : Reach rows c0 c → d ∈ succsR rows c → Reach rows c0 d
theorem Reach.closed {rows : List (List Int)} {c0 : Cfg} {P : Cfg → Prop} (h0 : P c0) (hs : ∀ c, P c → ∀ d ∈ succsR rows c, P d) {c : Cfg} (h : Reach rows c0 c) : P c := by
  induction h with
  | start => exact h0
  | step _ hd ih => exact hs _ ih _ hd
theorem next_ok {S Q n : Nat} {rows : List (List Int)} (hg : ∀ r ∈ rows, Good S Q r) {c : Cfg} (h : OkC S Q n c) {d : Cfg} (hd : d ∈ succsR rows c) : OkC S Q n d := by
  obtain ⟨j, hj, rfl⟩ := List.mem_map.mp hd
  obtain ⟨h1, h2⟩ := mem_ready.mp hj
  have hr : rows[j] ∈ rows := List.getElem_mem h1
  have hgd : rows.getD j [] = rows[j] := by rw [List.getD_eq_getElem?_getD, List.getElem?_eq_getElem h1]; rfl
  obtain ⟨a, o, t, m, er, g1, g2, g3, g4, g5, g6, g7, g8⟩ := (hg _ hr).ex
  have e : nextR rows c j = (t, srt (c.2.erase o ++ [m])) := by
    unfold nextR afterR
    rw [hgd, er]
    rfl
  have ho : o ∈ c.2 := by
    rw [hgd, er] at h2
    unfold selR at h2
    rw [Bool.and_eq_true] at h2
    simpa using h2.2
  rw [e]
  refine ⟨g5, g6, ?_, fun x hx => ?_, srt_sorted _⟩
  · show (srt (c.2.erase o ++ [m])).length = n
    rw [srt_length, List.length_append, List.length_erase_of_mem ho, List.length_singleton, h.len]
    have := List.length_pos_of_mem ho
    rw [h.len] at this
    omega
  · have hx := (srt_perm _).mem_iff.mp hx
    rcases List.mem_append.mp hx with hx | hx
    · exact h.row.mem x ((List.erase_sublist ..).subset hx)
    · rw [List.mem_singleton.mp hx]
      exact mem_ivl.mpr ⟨g7, g8⟩
abbrev XRow := Cfg × Option (Nat × Nat)
def addMv (i : Nat) (R : List XRow) (mv : Nat × Cfg) : List XRow := if mv.2 ∈ R.map (·.1) then R else R ++ [(mv.2, some (i, mv.1))]
def mvsR (rows : List (List Int)) (c : Cfg) : List (Nat × Cfg) := (readyR rows c).map fun j => (j, nextR rows c j)
def expandR (rows : List (List Int)) (i : Nat) (R : List XRow) (c : Cfg) : List XRow := (mvsR rows c).foldl (addMv i) R
theorem addMv_pre (i : Nat) (R : List XRow) (mv : Nat × Cfg) : R <+: addMv i R mv := by
  unfold addMv
  split
  · exact List.prefix_refl _
  · exact List.prefix_append _ _
theorem fold_pre (i : Nat) : ∀ (mvs : List (Nat × Cfg)) (R : List XRow), R <+: mvs.foldl (addMv i) R
  | [], R => List.prefix_refl _
  | mv :: mvs, R => (addMv_pre i R mv).trans (fold_pre i mvs _)
theorem fold_mem (i : Nat) : ∀ (mvs : List (Nat × Cfg)) (R : List XRow) (c : Cfg), c ∈ (mvs.foldl (addMv i) R).map (·.1) ↔ c ∈ R.map (·.1) ∨ c ∈ mvs.map (·.2)
  | [], R, c => by simp
  | mv :: mvs, R, c => by
    rw [List.foldl_cons, fold_mem i mvs, List.map_cons, List.mem_cons]
    have : c ∈ (addMv i R mv).map (·.1) ↔ c ∈ R.map (·.1) ∨ c = mv.2 := by
      unfold addMv
      split
      · rename_i h
        constructor
        · exact .inl
        · rintro (h2 | rfl)
          · exact h2
          · exact h
      · rw [List.map_append, List.mem_append]
        simp
    rw [this]
    constructor
    · rintro ((h | h) | h)
      · exact .inl h
      · exact .inr (.inl h)
      · exact .inr (.inr h)
    · rintro (h | h | h)
      · exact .inl (.inl h)
      · exact .inl (.inr h)
      · exact .inr h
theorem fold_nodup (i : Nat) : ∀ (mvs : List (Nat × Cfg)) (R : List XRow), (R.map (·.1)).Nodup → ((mvs.foldl (addMv i) R).map (·.1)).Nodup
  | [], R, h => h
  | mv :: mvs, R, h => by
    refine fold_nodup i mvs _ ?_
    unfold addMv
    split
    · exact h
    · rename_i hn
      rw [List.map_append]
      exact List.nodup_append.mpr ⟨h, by simp, fun x hx y hy e => by
        rw [show y = mv.2 by simpa using hy] at e
        exact hn (e ▸ hx)⟩
theorem mvs_succs (rows : List (List Int)) (c : Cfg) : (mvsR rows c).map (·.2) = succsR rows c := by
  unfold mvsR succsR
  rw [List.map_map]
  rfl
structure BInv (rows : List (List Int)) (c0 : Cfg) (i : Nat) (R : List XRow) : Prop where
  le : i ≤ R.length
  nd : (R.map (·.1)).Nodup
  st : c0 ∈ R.map (·.1)
  rc : ∀ c ∈ R.map (·.1), Reach rows c0 c
  cl : ∀ j x, j < i → R[j]? = some x → ∀ d ∈ succsR rows x.1, d ∈ R.map (·.1)
theorem BInv.next {rows : List (List Int)} {c0 : Cfg} {i : Nat} {R : List XRow} (h : BInv rows c0 i R) {x : XRow} (hx : R[i]? = some x) : BInv rows c0 (i + 1) (expandR rows i R x.1) := by
  have pre : R <+: expandR rows i R x.1 := fold_pre i _ _
  obtain ⟨T, hT⟩ := pre
  have hl := (List.getElem?_eq_some_iff.mp hx).1
  refine ⟨?_, fold_nodup i _ _ h.nd, (fold_mem i _ _ _).mpr (.inl h.st), fun c hc => ?_, fun j y hj hy d hd => ?_⟩
  · rw [← hT, List.length_append]
    omega
  · rcases (fold_mem i _ _ _).mp hc with hc | hc
    · exact h.rc c hc
    · rw [mvs_succs] at hc
      exact .step (h.rc x.1 (List.mem_map.mpr ⟨x, List.mem_of_getElem? hx, rfl⟩)) hc
  · refine (fold_mem i _ _ _).mpr ?_
    rw [← hT, List.getElem?_append_left (by omega)] at hy
    by_cases e : j = i
    · subst e
      rw [hx] at hy
      cases hy
      exact .inr (by rw [mvs_succs]; exact hd)
    · exact .inl (h.cl j y (by omega) hy d hd)
theorem BInv.done {rows : List (List Int)} {c0 : Cfg} {R : List XRow} (h : BInv rows c0 R.length R) (c : Cfg) : c ∈ R.map (·.1) ↔ Reach rows c0 c := by
  constructor
  · exact h.rc c
  · intro hc
    refine hc.closed (P := fun c => c ∈ R.map (·.1)) h.st fun c hc d hd => ?_
    obtain ⟨x, hx, rfl⟩ := List.mem_map.mp hc
    obtain ⟨j, hj, e⟩ := List.getElem_of_mem hx
    exact h.cl j x hj (by rw [List.getElem?_eq_getElem hj, e]) d hd
abbrev LRow := Cfg × List Int
def better (best found : List LRow) (c : Cfg) (r : List Int) : Bool := decide (c ∉ best.map (·.1)) && (decide (c ∉ found.map (·.1)) || match alook found c with
  | some r' => HT.lexLt r r'
  | none => false)
def addRun (best : List LRow) (found : List LRow) (q : Cfg × List Int) : List LRow := if better best found q.1 q.2 = true then aput found q.1 q.2 else found
def runsOf (rows : List (List Int)) (q : LRow) : List LRow := (readyR rows q.1).map fun j => (nextR rows q.1 j, q.2 ++ [(j : Int)])
def nextL (rows : List (List Int)) (level best : List LRow) : List LRow := (level.flatMap (runsOf rows)).foldl (addRun best) []
theorem addRun_keys (best found : List LRow) (q : LRow) : ∀ c, c ∈ (addRun best found q).map (·.1) ↔ c ∈ found.map (·.1) ∨ (c = q.1 ∧ c ∉ best.map (·.1)) := by
  intro c
  unfold addRun
  split
  · rename_i h
    have hb : q.1 ∉ best.map (·.1) := by
      unfold better at h
      exact of_decide_eq_true (Bool.and_eq_true_iff.mp h).1
    rw [aput_keys]
    split
    · rename_i hm
      constructor
      · exact .inl
      · rintro (h | ⟨rfl, _⟩)
        · exact h
        · exact hm
    · rw [List.mem_append, List.mem_singleton]
      constructor
      · rintro (h | rfl)
        · exact .inl h
        · exact .inr ⟨rfl, hb⟩
      · rintro (h | ⟨rfl, _⟩)
        · exact .inl h
        · exact .inr rfl
  · rename_i h
    constructor
    · exact .inl
    · rintro (h2 | ⟨rfl, h3⟩)
      · exact h2
      · by_cases hm : q.1 ∈ found.map (·.1)
        · exact hm
        · refine absurd ?_ h
          unfold better
          rw [decide_eq_true h3, decide_eq_true hm]
          rfl
theorem addRun_nodup {best found : List LRow} (h : (found.map (·.1)).Nodup) (q : LRow) : ((addRun best found q).map (·.1)).Nodup := by
  unfold addRun
  split
  · exact aput_nodup h _ _
  · exact h
theorem fold_runs (best : List LRow) : ∀ (qs : List LRow) (found : List LRow), (found.map (·.1)).Nodup → ((qs.foldl (addRun best) found).map (·.1)).Nodup ∧ ∀ c, c ∈ (qs.foldl (addRun best) found).map (·.1) ↔ c ∈ found.map (·.1) ∨ (c ∈ qs.map (·.1) ∧ c ∉ best.map (·.1))
  | [], found, h => ⟨h, fun c => by simp⟩
  | q :: qs, found, h => by
    obtain ⟨h1, h2⟩ := fold_runs best qs (addRun best found q) (addRun_nodup h q)
    refine ⟨h1, fun c => ?_⟩
    rw [List.foldl_cons, h2 c, addRun_keys, List.map_cons, List.mem_cons]
    constructor
    · rintro ((h | ⟨h, h'⟩) | ⟨h, h'⟩)
      · exact .inl h
      · exact .inr ⟨.inl h, h'⟩
      · exact .inr ⟨.inr h, h'⟩
    · rintro (h | ⟨h | h, h'⟩)
      · exact .inl (.inl h)
      · exact .inl (.inr ⟨h, h'⟩)
      · exact .inr ⟨h, h'⟩
theorem nextL_keys (rows : List (List Int)) (level best : List LRow) (c : Cfg) : c ∈ (nextL rows level best).map (·.1) ↔ (∃ d ∈ level.map (·.1), c ∈ succsR rows d) ∧ c ∉ best.map (·.1) := by
  unfold nextL
  rw [(fold_runs best _ [] (by simp)).2 c]
  have : c ∈ (level.flatMap (runsOf rows)).map (·.1) ↔ ∃ d ∈ level.map (·.1), c ∈ succsR rows d := by
    constructor
    · intro h
      obtain ⟨q, hq, rfl⟩ := List.mem_map.mp h
      obtain ⟨p, hp, h2⟩ := List.mem_flatMap.mp hq
      obtain ⟨j, hj, rfl⟩ := List.mem_map.mp h2
      exact ⟨p.1, List.mem_map.mpr ⟨p, hp, rfl⟩, List.mem_map.mpr ⟨j, hj, rfl⟩⟩
    · rintro ⟨d, hd, hc⟩
      obtain ⟨p, hp, rfl⟩ := List.mem_map.mp hd
      obtain ⟨j, hj, rfl⟩ := List.mem_map.mp hc
      exact List.mem_map.mpr ⟨_, List.mem_flatMap.mpr ⟨p, hp, List.mem_map.mpr ⟨j, hj, rfl⟩⟩, rfl⟩
  rw [this]
  simp
theorem nextL_nodup (rows : List (List Int)) (level best : List LRow) : ((nextL rows level best).map (·.1)).Nodup := (fold_runs best _ [] (by simp)).1
structure LInv (rows : List (List Int)) (c0 : Cfg) (level best : List LRow) : Prop where
  nd : ((best ++ level).map (·.1)).Nodup
  st : c0 ∈ (best ++ level).map (·.1)
  rc : ∀ c ∈ (best ++ level).map (·.1), Reach rows c0 c
  cl : ∀ c ∈ best.map (·.1), ∀ d ∈ succsR rows c, d ∈ (best ++ level).map (·.1)
theorem LInv.next {rows : List (List Int)} {c0 : Cfg} {level best : List LRow} (h : LInv rows c0 level best) : LInv rows c0 (nextL rows level (best ++ level)) (best ++ level) := by
  have key := nextL_keys rows level (best ++ level)
  refine ⟨?_, ?_, fun c hc => ?_, fun c hc d hd => ?_⟩
  · rw [List.map_append]
    exact List.nodup_append.mpr ⟨h.nd, nextL_nodup _ _ _, fun a ha b hb e => ((key b).mp hb).2 (e ▸ ha)⟩
  · rw [List.map_append]
    exact List.mem_append_left _ h.st
  · rw [List.map_append] at hc
    rcases List.mem_append.mp hc with hc | hc
    · exact h.rc c hc
    · obtain ⟨⟨d, hd, hc⟩, _⟩ := (key c).mp hc
      exact .step (h.rc d (by rw [List.map_append]; exact List.mem_append_right _ hd)) hc
  · rw [List.map_append]
    by_cases hm : d ∈ (best ++ level).map (·.1)
    · exact List.mem_append_left _ hm
    · rw [List.map_append] at hc
      rcases List.mem_append.mp hc with hc | hc
      · exact absurd (h.cl c hc d hd) hm
      · exact List.mem_append_right _ ((key d).mpr ⟨⟨c, hc, hd⟩, hm⟩)
theorem LInv.done {rows : List (List Int)} {c0 : Cfg} {best : List LRow} (h : LInv rows c0 [] best) (c : Cfg) : c ∈ best.map (·.1) ↔ Reach rows c0 c := by
  have e : best ++ [] = best := List.append_nil _
  constructor
  · intro hc
    exact h.rc c (by rw [e]; exact hc)
  · intro hc
    refine hc.closed (P := fun c => c ∈ best.map (·.1)) (by have := h.st; rw [e] at this; exact this) fun c hc d hd => ?_
    have := h.cl c hc d hd
    rw [e] at this
    exact this
theorem while_ok {ga : En → M Bool} {g : SO} (I : Nat → En → Prop) (Post : En → Prop)
    (h0 : ∀ ρ, I 0 ρ → ga ρ = some (.ok false) ∧ Post ρ)
    (st : ∀ m ρ, I (m + 1) ρ → (ga ρ = some (.ok false) ∧ Post ρ) ∨ (ga ρ = some (.ok true) ∧ ∃ ρ', (g ρ = some (.nx ρ') ∨ g ρ = some (.ct ρ')) ∧ I m ρ')) :
    ∀ (fuel m : Nat) (ρ : En), m < fuel → I m ρ → ∃ ρ', whileG ga g fuel ρ = some (.nx ρ') ∧ Post ρ'
  | 0, m, ρ, h, _ => by omega
  | fuel + 1, 0, ρ, _, hi => by
    obtain ⟨e, p⟩ := h0 ρ hi
    refine ⟨ρ, ?_, p⟩
    unfold whileG
    rw [e]
  | fuel + 1, m + 1, ρ, h, hi => by
    rcases st m ρ hi with ⟨e, p⟩ | ⟨e, ρ', e2, hi'⟩
    · refine ⟨ρ, ?_, p⟩
      unfold whileG
      rw [e]
    · obtain ⟨ρ'', e3, p⟩ := while_ok I Post h0 st fuel m ρ' (by omega) hi'
      refine ⟨ρ'', ?_, p⟩
      unfold whileG
      rw [e]
      rcases e2 with e2 | e2 <;> (simp only [e2]; exact e3)
end DL
namespace DL
open PySem PySem.Spec L2
theorem loop_invT {α : Type} {h : D → En → Option En} {g : SO} (enc : α → D) (items : List α) (P : List α → En → Prop) (ρ : En) (h0 : P [] ρ)
    (st : ∀ done a rest ρ, items = done ++ a :: rest → P done ρ → ∃ ρ1 ρ2, h (enc a) ρ = some ρ1 ∧ (g ρ1 = some (.nx ρ2) ∨ g ρ1 = some (.ct ρ2)) ∧ P (done ++ [a]) ρ2) :
    ∃ ρ', loopG h g (items.map enc) ρ = some (.nx ρ') ∧ P items ρ' := by
  have key : ∀ (rest done : List α) (ρ : En), items = done ++ rest → P done ρ → ∃ ρ', loopG h g (rest.map enc) ρ = some (.nx ρ') ∧ P items ρ' := by
    intro rest
    induction rest with
    | nil =>
      intro done ρ e hp
      exact ⟨ρ, rfl, by rw [e, List.append_nil]; exact hp⟩
    | cons a rest ih =>
      intro done ρ e hp
      obtain ⟨ρ1, ρ2, e1, e2, p⟩ := st done a rest ρ e hp
      obtain ⟨ρ', e3, q⟩ := ih (done ++ [a]) ρ2 (by rw [e, List.append_assoc]; rfl) p
      refine ⟨ρ', ?_, q⟩
      rw [List.map_cons]
      unfold loopG
      rw [e1]
      rcases e2 with e2 | e2 <;> (simp only [e2]; exact e3)
  exact key items [] ρ rfl h0
theorem mid_len {α : Type} {l done rest : List α} {a : α} (h : l = done ++ a :: rest) : done.length < l.length := by rw [h, List.length_append, List.length_cons]; omega
theorem mid_mem {α : Type} {l done rest : List α} {a : α} (h : l = done ++ a :: rest) : a ∈ l := by rw [h]; simp
theorem getLast_at (row : List Int) {y : Int} (h : row.getLast? = some y) : atI (row.map D.int) (-1) = some (.int y) := by
  have h0 : row ≠ [] := by rintro rfl; cases h
  have hl : 0 < row.length := List.length_pos_iff.mpr h0
  unfold atI ixN
  rw [List.length_map, if_neg (by decide), if_pos (by omega), Option.bind_some, show ((-1 : Int) + (row.length : Int)).toNat = row.length - 1 by omega, List.getElem?_map, ← List.getLast?_eq_getElem?, h]
  rfl
theorem rng_1 (n : Nat) (h : n ≤ 16000000) : rng1 [.int (n : Nat)] = some ((ivl n).map D.int) := by
  show (if -16000000 ≤ (n : Int) ∧ (n : Int) ≤ 16000000 then some (rngD 0 (n : Int)) else none) = _
  rw [if_pos (by omega), ivl_map]
theorem atI_mapT {α : Type} (enc : α → D) {l : List α} {k : Nat} {a : α} (h : l[k]? = some a) : atI (l.map enc) (k : Int) = some (enc a) := atI_at (by omega) (by
  rw [List.getElem?_map, show ((k : Int)).toNat = k by omega, h]
  rfl)
theorem mulT_one (x : Int) (n : Nat) (hn : n ≤ 1000) : mulT (.tup [.int x]) (.int n) = some (.tup ((List.replicate n x).map D.int)) := by
  show (if (-1000000 : Int) ≤ n ∧ (n : Int) ≤ 1000000 ∧ ([D.int x].length ≤ 1000000) ∧ [D.int x].length * (n : Int).toNat ≤ LIM then some (D.tup (List.replicate (n : Int).toNat [D.int x]).flatten) else none) = _
  have hL : (1000 : Nat) ≤ LIM := by decide
  rw [if_pos ⟨by omega, by omega, by simp, by simp; omega⟩, Int.toNat_natCast]
  have := map_rep [x] n
  rw [rep_one] at this
  exact congrArg (fun z => some (D.tup z)) this
theorem kOfs_ints : ∀ l : List Int, kOfs (l.map D.int) = some (l.map NestedKey.num)
  | [] => by unfold List.map kOfs; rfl
  | x :: l => by
    rw [List.map_cons]
    unfold kOfs
    rw [kOfs_ints l]
    unfold kOf
    rfl
theorem num_inj : ∀ {l m : List Int}, l.map NestedKey.num = m.map NestedKey.num → l = m
  | [], [], _ => rfl
  | [], _ :: _, h => by cases h
  | _ :: _, [], h => by cases h
  | x :: l, y :: m, h => by
    rw [List.map_cons, List.map_cons] at h
    injection h with h1 h2
    injection h1 with h1
    rw [h1, num_inj h2]
theorem depth_nums : ∀ l : List Int, NestedKey.depthAll (l.map NestedKey.num) ≤ 1
  | [] => by simp [NestedKey.depthAll]
  | x :: l => by
    have := depth_nums l
    rw [List.map_cons]
    unfold NestedKey.depthAll NestedKey.depth
    omega
theorem kOf_key (c : Cfg) : kOf (keyD c) = some (.tup [.num c.1, .tup (c.2.map NestedKey.num)]) := by
  unfold keyD kOf kOfs kOfs kOfs kOf
  rw [kOfs_ints]
  rfl
theorem key_key : KeyEnc keyD where
  ex := fun c => ⟨.tup [.num c.1, .tup (c.2.map NestedKey.num)], by
    unfold kTup
    rw [if_pos (by rfl), kOf_key, Option.bind_some, if_pos]
    have := depth_nums c.2
    simp only [NestedKey.depth, NestedKey.depthAll]
    omega⟩
  inj := fun a b h => by
    rw [kOf_key, kOf_key] at h
    injection h with h
    injection h with h
    injection h with h1 h2
    injection h2 with h2 _
    injection h1 with h1
    injection h2 with h2
    exact Prod.ext h1 (num_inj h2)
theorem ltN_tt (x y : List Int) : D.ltN (.tup (x.map D.int)) (.tup (y.map D.int)) = some (.bl (HT.lexLt x y)) := by
  show (D.lt (.tup (x.map D.int)) (.tup (y.map D.int))).or _ = _
  have e : D.lt (.tup (x.map D.int)) (.tup (y.map D.int)) = some (.bl (HT.lexLt x y)) := by
    show ((none : Option D).or (ltT (.tup (x.map D.int)) (.tup (y.map D.int)))) = _
    have e : ltT (.tup (x.map D.int)) (.tup (y.map D.int)) = some (.bl (HT.lexLt x y)) := by
      show (match ints? (x.map D.int), ints? (y.map D.int) with
        | some ns, some ms => some (D.bl (HT.lexLt ns ms))
        | _, _ => none) = _
      rw [ints?_map, ints?_map]
    rw [e]
    rfl
  rw [e]
  rfl
end DL
namespace DL
open PySem PySem.Spec L2
open PySem.W in
theorem listLt_lex : ∀ x y : List Int, listLt x y = HT.lexLt x y
  | [], [] => rfl
  | [], _ :: _ => rfl
  | _ :: _, [] => rfl
  | x :: xs, y :: ys => by
    rw [HT.lexLt_cons]
    show (if x = y then listLt xs ys else decide (x < y)) = _
    rw [listLt_lex xs ys]
theorem toPs_ints : ∀ l : List Int, toPs (l.map D.int) = some (l.map PyData.int)
  | [] => by unfold List.map toPs; rfl
  | x :: l => by
    rw [List.map_cons]
    unfold toPs
    rw [toPs_ints l]
    unfold toP
    rfl
theorem toP_key (c : Cfg) : toP (keyD c) = some (.tuple [.int c.1, .tuple (c.2.map PyData.int)]) := by
  unfold keyD toP toPs toPs toPs toP
  rw [toPs_ints]
  rfl
theorem ltN_of {x y : D} {a b : PyData} {r : Bool} (h0 : D.lt x y = none) (hx : toP x = some a) (hy : toP y = some b) (ha : PySem.W.alike a b = true) (hn : isNoP a = false) (hd : a.depth ≤ 64) (hr : PySem.W.dataLt a b = r) : D.ltN x y = some (.bl r) := by
  show (D.lt x y).or (ltDat x y) = _
  rw [h0, Option.none_or]
  unfold ltDat
  rw [hx, hy]
  show (if PySem.W.alike a b = true ∧ isNoP a = false ∧ a.depth ≤ 64 then some (D.bl (PySem.W.dataLt a b)) else none) = _
  rw [if_pos ⟨ha, hn, hd⟩, hr]
theorem depthAll_ints : ∀ l : List Int, PyData.depthAll (l.map PyData.int) ≤ 1
  | [] => by simp [PyData.depthAll]
  | x :: l => by
    have := depthAll_ints l
    rw [List.map_cons]
    unfold PyData.depthAll PyData.depth
    omega
open PySem.W in
theorem ltN_key (a b : Cfg) : D.ltN (keyD a) (keyD b) = some (.bl (cfgLt a b)) := by
  have hal := DatumOrd.alike (α := Int × Tup Int) (a.1, ⟨a.2⟩) (b.1, ⟨b.2⟩)
  have hlt := DatumOrd.lt_eq (α := Int × Tup Int) (a.1, ⟨a.2⟩) (b.1, ⟨b.2⟩)
  have hr : DatumOrd.lt (α := Int × Tup Int) (a.1, ⟨a.2⟩) (b.1, ⟨b.2⟩) = cfgLt a b := by
    show (if a.1 = b.1 then listLt a.2 b.2 else decide (a.1 < b.1)) = _
    rw [listLt_lex]
    rfl
  rw [hr] at hlt
  refine ltN_of (by rfl) (toP_key a) (toP_key b) hal rfl ?_ hlt
  have := depthAll_ints a.2
  simp only [PyData.depth, PyData.depthAll]
  omega
theorem eqE_key : EqEnc keyD 3 := EqEnc.int.pair EqEnc.int.tup
theorem ord_tup : OrdEnc (fun l : List Int => D.tup (l.map D.int)) HT.lexLt where
  lt := ltN_tt
  ne := fun a b => by
    rw [EqEnc.int.tup.dne (by decide) a b]
    simp
theorem ord_key : OrdEnc keyD cfgLt where
  lt := ltN_key
  ne := fun a b => by
    rw [eqE_key.dne (by decide) a b]
    simp
theorem Ap : Sl.free .un = true := rfl
theorem Aq (d : D) : Sl.free (.sh d) = true := rfl
theorem Ar (d : D) : Sl.free (.bo d) = true := rfl
theorem Au (d : D) : Sl.free (.ow d) = true := rfl
theorem Av (d : D) : Sl.free (.ln d) = true := rfl
theorem Aw (d : D) : Sl.free (.mu d) = false := rfl
theorem take_at {α : Type} {p : α → Bool} {l : List α} {k : Nat} (hk : k ≤ l.length) (h1 : ∀ i x, i < k → l[i]? = some x → p x = true) (h2 : ∀ x, l[k]? = some x → p x = false) : l.takeWhile p = l.take k ∧ l.dropWhile p = l.drop k := by
  induction l generalizing k with
  | nil => simp
  | cons a l ih =>
    cases k with
    | zero =>
      have := h2 a rfl
      rw [List.takeWhile_cons, List.dropWhile_cons, this]
      exact ⟨rfl, rfl⟩
    | succ k =>
      have h0 := h1 0 a (by omega) rfl
      obtain ⟨i1, i2⟩ := ih (k := k) (by simpa using hk) (fun i x hi e => h1 (i + 1) x (by omega) e) (fun x e => h2 x e)
      rw [List.takeWhile_cons, List.dropWhile_cons, if_pos h0, if_pos h0, i1, i2]
      exact ⟨rfl, rfl⟩
theorem asc_at {α : Type} {lt : α → α → Bool} {l : List α} (h : Asc lt l) {i j : Nat} {x y : α} (hij : i < j) (hx : l[i]? = some x) (hy : l[j]? = some y) : lt x y = true := by
  obtain ⟨h1, e1⟩ := List.getElem?_eq_some_iff.mp hx
  obtain ⟨h2, e2⟩ := List.getElem?_eq_some_iff.mp hy
  rw [← e1, ← e2]
  exact (List.pairwise_iff_getElem.mp h) i j h1 h2 hij
end DL
namespace DL
open PySem PySem.Spec L2
section
variable {α β : Type} [DecidableEq α] {enc : α → D}
theorem KeyEnc.in1 (h : KeyEnc enc) (f : Bool → Bool) {a : α} {l : List α} (hm : a ∈ l) : D.inK f (enc a) (.dct (l.map (setq enc))) = some (.bl (f true)) := by rw [h.inS, decide_eq_true hm]
end
theorem Bu (M : List Int) : fldD 0 0 (crD M) = some (.tup (M.map D.int)) := rfl
theorem Bv (S P s0 s1 : Int) (rows : List (List Int)) : fldD 1 0 (prD S P rows s0 s1) = some (.int S) := rfl
theorem Bw (S P s0 s1 : Int) (rows : List (List Int)) : fldD 1 1 (prD S P rows s0 s1) = some (.int P) := rfl
theorem Bx (S P s0 s1 : Int) (rows : List (List Int)) : fldD 1 2 (prD S P rows s0 s1) = some (.tup (rows.map encR)) := rfl
theorem Bz (S P s0 s1 : Int) (rows : List (List Int)) : fldD 1 3 (prD S P rows s0 s1) = some (.tup [.int s0, .int s1]) := rfl
theorem isP (S P s0 s1 : Int) (rows : List (List Int)) : isObj 1 (prD S P rows s0 s1) = true := rfl
theorem ix_s {l : List Int} {i : Int} : ixL (.scr l) (.int i) = (atI l i).map D.int := by exact id rfl
theorem alook_mem {α β : Type} [DecidableEq α] {l : List (α × β)} (hn : (l.map (·.1)).Nodup) {q : α × β} (h : q ∈ l) : alook l q.1 = some q.2 := by
  induction l with
  | nil => cases h
  | cons p l ih =>
    rw [alook_cons]
    rw [List.map_cons] at hn
    obtain ⟨h1, h2⟩ := List.nodup_cons.mp hn
    rcases List.mem_cons.mp h with rfl | h
    · rw [if_pos rfl]
    · rw [if_neg, ih h2 h]
      intro e
      exact h1 (e ▸ List.mem_map.mpr ⟨q, h, rfl⟩)
end DL
namespace DL
open PySem PySem.Spec L2 PyProof.Rows
section
variable {G : Gm} {kd : Kd} {k : Nat} {W : WX} {N : List Str} {sc : Scope} {e a b c o : Expr} {es : List Expr} {f fa fb fc fk fv : En → M D} {fs : En → M (List D)} {ga gb : En → M Bool} {pos apos cpos : Pos} {F B H F' B' H' : Hp} {Z : Zn} {σ : L2.St} {ρ : En} {v w : V} {X : Cx}
theorem dset_N {E : Value → Shared → Prop} {pp : List (Addr × Obj)} {s : Shared} {A : Addr} {y z : V} {u r : Value} {Nx : Hp → Prop} {Q : Unit → Shared → Prop} (cn : CnE G k W N sc X) (I : Inv X pp σ H s) (ry : RelV y u) (rz : RelV z r) (h : rSetN G (.ref A) y z H Nx)
    (hq : ∀ s1 H1, Inv X pp σ H1 s1 → Nx H1 → Q () s1) : wpAny (model X.prog X.w) X.A (dictSet A u r) Q E s := by
  obtain ⟨F, d, kk, p, ob, ens, l, x, fh, ep, hp, h0, re, hn, hl, rd, hkk, hlim, rx, q⟩ := h
  injection ep with ep
  subst ep
  have ih : InH X pp σ H s G F := ⟨I, cn.hK, cn.hP, cn.hw, fh⟩
  obtain ⟨ka, rfl, rfl, hi⟩ := key_is ih hkk rd ry
  obtain ⟨hs, xs, xr, hd⟩ := dict_of ih hp h0 re hn hl
  obtain ⟨ht, hkd, hdep⟩ := kTup_some hkk
  have hlen := xr.length
  refine wpAny_dictSet_heap (hsz := by rw [hlen]; exact lim_line (Nat.le_of_lt hlim)) (show (nk X).room X.A from cn.room8') hi hd fun h' hd' hs' => ?_
  have xr' : XRel G F (dput l d kk x) (storedH xs kk ka r) := xr.put hkd hdep rd rx rz
  have hlen' := xr'.length
  have hle := dput_length l d kk x
  have hlim' : l.length < 16000000 := hlim
  obtain ⟨o', ho', hdo⟩ := DO.of hd' (by omega)
  exact hq _ _ (I.write (x := A) (e := A) (by rw [hp]; exact True.intro) (.inl rfl) (fun b q hb z => (hs'.2 b hb).trans z) ⟨o', ho'⟩ (rawD_ok ho' hs)) (q o' _ hdo (xr'.repE cn.hw))
def tDcN (G : Gm) (wi : TI) (g : TG) (tt : TT) (tk tv : TE) (vs : List Nat) : TE := fun σ H Q => wi σ H fun J H1 => ∀ A, H1 A = none →
  ∃ V : Nat → Nat → Hp → Prop, (∃ m, V 0 m (upd H1 A (rawD A emptyD))) ∧ ∀ i m H2, V i m H2 → (J.stop i H2 ∧ Q (.ref A) H2) ∨
    (J.go i H2 ∧ ∃ Nx : Hp → Prop, (∀ H3, Nx H3 → ∃ m', m' < m ∧ V (i + 1) m' H3) ∧ ∀ x H3, J.yld i H2 x H3 → g x (wipe σ vs) H3 fun τ H4 => wipe τ vs = wipe σ vs ∧
      tt τ H4 fun t H5 => if t = true then tk τ H5 fun y H6 => tv τ H6 fun z H7 => rSetN G (.ref A) y z H7 Nx else Nx H5)
theorem pe_dcN {kx vx tg iter : Expr} {ifs : List Expr} {scope : Scope} {own : List (Str × Nat)} {wi : TI} {g : TG} {tt : TT} {tk tv : TE} (cn : CnE G k W N sc X) (hi : PI X tg iter wi) (ok : BlkOk X.N X.env.scope scope own)
    (hg : ∀ (s : Shared) (H : Hp) (C : Addr) (cl : List (Str × Addr)) (fp : List Addr), PG (X.blk s H scope (compEnvC scope cl C X.env) fp) tg g)
    (ht : ∀ (s : Shared) (H : Hp) (C : Addr) (cl : List (Str × Addr)) (fp : List Addr), PTs (X.blk s H scope (compEnvC scope cl C X.env) fp) ifs tt)
    (hk : ∀ (s : Shared) (H : Hp) (C : Addr) (cl : List (Str × Addr)) (fp : List Addr), PE (X.blk s H scope (compEnvC scope cl C X.env) fp) kx tk)
    (he : ∀ (s : Shared) (H : Hp) (C : Addr) (cl : List (Str × Addr)) (fp : List Addr), PE (X.blk s H scope (compEnvC scope cl C X.env) fp) vx tv)
    (hs : ∀ x, foldedSetIterable iter X.env x = pure x) :
    PE X (.DictComp kx vx [⟨tg, iter, ifs, 0⟩] scope pos) (tDcN G wi g tt tk tv (own.map (·.2))) := by
  refine ⟨fun pp s σ H Q I h => ?_⟩
  have hN : X.N.Nodup := by rw [cn.hN]; exact cn.nd
  have hc := cn.calm
  rw [arm_eval_DictComp]
  have clo : ∀ y ∈ scope.names, y.2 = .free → ∃ c, X.env.cells.lookup y.1 = some c := fun y hy e => by
    rcases ok.free y hy e with q | q
    · exact I.ok.has _ (.inl q)
    · exact I.ok.has _ (.inr q)
  refine wpAny_comprehension_free rfl hs (closure_ok clo) ok.kind (fun y hy e => by rw [ok.uniq y hy, e]) (thn (hi.run pp s σ H _ I h) fun xv s1 hx => thn hx fun itv s2 h2 => ?_)
  obtain ⟨it, fp, tn, J, H2, ev, I2, T, st2, f2, q⟩ := h2
  subst ev
  refine wpAny_newObj_type (newEnv_comp ?_)
  obtain ⟨A, hA⟩ : ∃ A, A = s2.heap.objs.size := ⟨_, rfl⟩
  rw [← hA]
  have fresh : H2 A = none := I2.hok.fresh (Nat.le_of_eq hA.symm)
  obtain ⟨V, ⟨m0, v0⟩, turn⟩ := q A fresh
  obtain ⟨s3, e3⟩ : ∃ s3 : Shared, s3 = { s2 with heap := s2.heap.push { cls := .type "dict", data := .dict #[] } } := ⟨_, rfl⟩
  have h3 : s3.heap = s2.heap.push { cls := .type "dict", data := .dict #[] } := by rw [e3]
  have I3 : Inv X pp σ (upd H2 A (rawD A emptyD)) s3 := by
    rw [e3]
    refine I2.laid (t' := s2.toks) (fun b o e => Heap.get?_push_of_some _ e) (Nat.le_of_eq hA.symm) ?_
    rw [hA]
    exact rawD_ok (Heap.get?_push_size _ rfl) (size_ne I2)
  have low : ∀ b ∈ fp, b < s2.heap.objs.size := fun b hb => by
    obtain ⟨ob, eo, _⟩ := T.obj _ _ st2 b hb
    exact Heap.lt_size eo
  have f3 : ∀ b ∈ fp, FpOk X pp (upd H2 A (rawD A emptyD)) b ∧ b < s3.heap.objs.size := fun b hb => by
    have hb2 := low b hb
    refine ⟨⟨?_, (f2 b hb).2⟩, by rw [h3, Heap.size_push]; exact Nat.lt_succ_of_lt hb2⟩
    rw [upd_ne (by rw [hA]; exact Nat.ne_of_lt hb2)]
    exact (f2 b hb).1
  have st3 : tn 0 s3.heap := T.keep _ _ _ st2 fun b _ ob eo => by rw [h3]; exact Heap.get?_push_of_some _ eo
  obtain ⟨H3, eH3⟩ : ∃ H3, H3 = upd H2 A (rawD A emptyD) := ⟨_, rfl⟩
  rw [← eH3] at I3 f3 v0
  have none3 : ∀ b ∈ fp, H3 b = none := fun b hb => (f3 b hb).1.1
  have I4 := block_start I3 ok hN f3
  obtain ⟨cl, ecl⟩ : ∃ cl, cl = cellsFrom (s3.heap.objs.size + 1) scope.names (cloFrom X.env.cells scope.names []) := ⟨_, rfl⟩
  rw [← ecl] at I4
  have pg := hg s3 H3 s3.heap.objs.size cl fp
  have pt := ht s3 H3 s3.heap.objs.size cl fp
  have pk := hk s3 H3 s3.heap.objs.size cl fp
  have pv := he s3 H3 s3.heap.objs.size cl fp
  have cb := cn.blk (scope := scope) (s := s3) (H := H3) (C := s3.heap.objs.size) (cl := cl) (fp := fp)
  obtain ⟨ce, ece⟩ : ∃ ce, ce = compEnvC scope cl s3.heap.objs.size X.env := ⟨_, rfl⟩
  have cL : ce.locals = s3.heap.objs.size := by rw [ece]; rfl
  rw [← ece] at I4 pg pt pk pv cb
  rw [← e3]
  show codeAny _ _ (.compStart (.DictComp kx vx [⟨tg, iter, ifs, 0⟩] scope pos) 0 (.ref it) (.ref A) (compEnvC scope (cellsFrom (s3.heap.objs.size + 1) scope.names (cloFrom X.env.cells scope.names [])) s3.heap.objs.size X.env)) _ { s3 with heap := pushCells (s3.heap.push { cls := .type "dict", data := .dict #[] }) scope.names }
  rw [← ecl, ← ece]
  obtain ⟨s4, e4⟩ : ∃ s4 : Shared, s4 = { s3 with heap := pushCells (s3.heap.push { cls := .type "dict", data := .dict #[] }) scope.names } := ⟨_, rfl⟩
  rw [← e4] at I4 ⊢
  have st4 : tn 0 s4.heap := T.keep _ _ _ st3 fun b _ ob eo => by rw [e4]; exact pushCells_keeps _ _ _ _ (Heap.get?_push_of_some _ eo)
  have foot : ∀ {σ' : L2.St} {H' : Hp} {s' : Shared}, Inv (X.blk s3 H3 scope ce fp) [] σ' H' s' → (∀ b ∈ fp, H' b = none) → ∀ b ∈ fp, FpOk (X.blk s3 H3 scope ce fp) [] H' b := fun {σ' H' s'} I' hn b hb =>
    ⟨hn b hb, (I'.ok.exf b hb).1, I'.ok.exfs b hb, .inl hb, fun x c e => (I'.ok.exf b hb).2 x c e, fun p hp => absurd (show p ∈ ([] : List (Addr × Obj)) ++ [] from hp) (by simp)⟩
  suffices loop : codeAny (model X.prog X.w) X.A (.compLoop (.DictComp kx vx [⟨tg, iter, ifs, 0⟩] scope pos) 0 (.ref it) (.ref A) ce) (compPost (model X.prog X.w) X.A X.xe none (fun r s' => ∃ x Hx, Inv X pp σ Hx s' ∧ RelV x r ∧ Q x Hx) (.ref A) s3.heap.objs.size) s4 from
    codeAny_compStart_dict loop (T.self X.A 0 _ _ _ st4 loop)
  refine compLoop_anyD (fun n s' => ∃ i Hn, Inv (X.blk s3 H3 scope ce fp) [] (wipe σ (own.map (·.2))) Hn s' ∧ tn i s'.heap ∧ (∀ b ∈ fp, Hn b = none) ∧ V i n Hn) ?_ m0 ⟨0, H3, I4, st4, none3, v0⟩
  rintro n s5 ⟨i, H5, I5, st5, n5, v5⟩
  rcases turn i n H5 v5 with ⟨stop, qq⟩ | ⟨go, Nx, hNx, step⟩
  · refine thnF (T.done (X.blk s3 H3 scope ce fp) rfl rfl rfl hc i [] s5 _ H5 (fun _ _ => False) I5 (foot I5 n5) st5 stop) fun r s6 ⟨hr, I6⟩ => ?_
    subst hr
    have I7 : Inv X pp σ H5 s6 := I3.call' (ch := fp) I6.os I6.base I6.hok I6.bare fun b hb => ⟨(f3 b hb).1.2.2.2.1, (f3 b hb).1.2.1, (f3 b hb).1.2.2.2.2.1, (f3 b hb).1.2.2.2.2.2⟩
    have gone : H5 s3.heap.objs.size = none := by
      have z : H5 ce.locals = none := I6.free
      rw [cL] at z
      exact z
    obtain ⟨m, hn, _⟩ := I6.loc
    have hn : s6.heap.Ns ce.locals m := hn
    rw [cL] at hn
    obtain ⟨f0, f1, g2, f3', f4, f5⟩ := I3.fpOk (H' := H5) (Nat.le_refl _) gone
    exact ⟨m, hn, fun h'' sb => ⟨.ref A, H5, I7.turned (t' := s6.toks) (fun b ob hb eo => (sb.2 b hb).trans eo) f0 f1 f3' f4 f5, rfl, qq⟩⟩
  · refine thnF (T.item (X.blk s3 H3 scope ce fp) rfl rfl rfl hc i [] s5 _ H5 (fun _ _ => False) I5 (foot I5 n5) st5 go) fun r s6 ⟨u, hr, h6⟩ => ?_
    subst hr
    refine thnF h6 fun _ s7 ⟨x, H7, I7, r7, y7, st7, n7⟩ => ?_
    have I7' := I7.pinned (foot I7 n7) (T.obj _ _ st7)
    refine thnF (pg.run _ s7 _ H7 x u _ I7' r7 (step x H7 y7)) fun _ s8 ⟨σ8, H8, I8, w8, q8⟩ => ?_
    refine thnF (pt.run _ s8 σ8 H8 _ I8 q8) fun t s9 ⟨H9, I9, q9⟩ => ?_
    have fin : ∀ {s' : Shared} {Hz : Hp}, Inv (X.blk s3 H3 scope ce fp) ([] ++ pinsAt fp s7.heap) σ8 Hz s' → Nx Hz → ∃ m, m < n ∧ ∃ i Hn, Inv (X.blk s3 H3 scope ce fp) [] (wipe σ (own.map (·.2))) Hn s' ∧ tn i s'.heap ∧ (∀ b ∈ fp, Hn b = none) ∧ V i m Hn := fun {s' Hz} I' nx => by
      obtain ⟨m', hm, v'⟩ := hNx Hz nx
      have held : ∀ b ∈ fp, ∀ ob, s7.heap.get? b = some ob → s'.heap.get? b = some ob ∧ Hz b = none := fun b hb ob eo =>
        let z := I'.pin (b, ob) (List.mem_append_right _ (List.mem_append_right _ (mem_pinsAt hb eo)))
        ⟨z.1, z.2.1⟩
      have hl : (wipe σ (own.map (·.2))).length = σ8.length := by rw [← w8, wipe_length]
      refine ⟨m', hm, i + 1, Hz, (I'.unpinned (pins := [])).weak hl (fun j vv ev => ?_), T.keep _ _ _ st7 fun b hb ob eo => (held b hb ob eo).1, fun b hb => ?_, v'⟩
      · rw [← w8] at ev
        exact (wipe_some ev).1
      · obtain ⟨ob, eo, _⟩ := T.obj _ _ st7 b hb
        exact (held b hb ob eo).2
    cases t with
    | false => exact fin I9 q9
    | true =>
      have q9 : tk σ8 H9 fun y H6 => tv σ8 H6 fun z H7 => rSetN G (.ref A) y z H7 Nx := q9
      refine thnF (pk.run _ s9 σ8 H9 _ I9 q9) fun z1 s10 ⟨yk, H10, I10, r10, q10⟩ => ?_
      refine thnF (pv.run _ s10 σ8 H10 _ I10 q10) fun z2 s11 ⟨yv, H11, I11, r11, q11⟩ => ?_
      exact dset_N (X := X.blk s3 H3 scope ce fp) cb I11 r10 r11 q11 fun s12 H12 I12 nx => fin I12 nx
theorem dc_walk {J : It} {n : Nat} {S : Hp → Prop} {Y : Nat → Hp → V → Hp → Prop} (wk : Walk J n S Y) {g : TG} {tt : TT} {tk tv : TE} {vs : List Nat} {A : Addr} {Qd : Hp → Prop} {H1 : Hp} (P : Nat → Hp → Prop) (h0 : P 0 (upd H1 A (rawD A emptyD))) (hS : ∀ i H, i ≤ n → P i H → S H)
    (hs : ∀ i x H H', i < n → P i H → Y i H x H' → g x (wipe σ vs) H' fun τ H4 => wipe τ vs = wipe σ vs ∧ tt τ H4 fun t H5 => if t = true then tk τ H5 fun y H6 => tv τ H6 fun z H7 => rSetN G (.ref A) y z H7 (P (i + 1)) else P (i + 1) H5) (hd : ∀ H, P n H → Qd H) :
    ∃ V : Nat → Nat → Hp → Prop, (∃ m, V 0 m (upd H1 A (rawD A emptyD))) ∧ ∀ i m H2, V i m H2 → (J.stop i H2 ∧ Qd H2) ∨
    (J.go i H2 ∧ ∃ Nx : Hp → Prop, (∀ H3, Nx H3 → ∃ m', m' < m ∧ V (i + 1) m' H3) ∧ ∀ x H3, J.yld i H2 x H3 → g x (wipe σ vs) H3 fun τ H4 => wipe τ vs = wipe σ vs ∧
      tt τ H4 fun t H5 => if t = true then tk τ H5 fun y H6 => tv τ H6 fun z H7 => rSetN G (.ref A) y z H7 Nx else Nx H5) := by
  refine ⟨fun i m H => m + i = n ∧ P i H, ⟨n, by omega, h0⟩, fun i m H h => ?_⟩
  obtain ⟨hm, p⟩ := h
  have st := hS i H (by omega) p
  rcases Nat.lt_or_ge i n with hi | hi
  · exact .inr ⟨wk.goes i H hi st, P (i + 1), fun H3 p3 => ⟨n - (i + 1), by omega, by omega, p3⟩, fun x H3 y => hs i x H H3 hi p (wk.yields i H x H3 hi st y)⟩
  · have e : i = n := by omega
    subst e
    exact .inl ⟨wk.stops H st, hd H p⟩
def putD (l : List (D × D)) (x y : D) : Option (List (D × D)) := match kTup x with
  | some k => if KAll l = true ∧ l.length < LIM then some (dput l x k y) else none
  | none => none
theorem putD_some {l l' : List (D × D)} {x y : D} (h : putD l x y = some l') : ∃ k, kTup x = some k ∧ KAll l = true ∧ l.length < LIM ∧ l' = dput l x k y := by
  unfold putD at h
  split at h
  · rename_i k ek
    split at h
    · rename_i hc
      exact ⟨k, ek, hc.1, hc.2, (Option.some.inj h).symm⟩
    · cases h
  · cases h
def dcG (h : D → En → Option En) (gc : En → M Bool) (fk fv : En → M D) (ρ : En) : List (D × D) → List D → Option (List (D × D))
  | l, [] => some l
  | l, d :: ds => (h d ρ).bind fun ρ1 => match gc ρ1 with
    | some (.ok true) => (match fk ρ1 with
      | some (.ok x) => (match fv ρ1 with
        | some (.ok y) => (putD l x y).bind fun l' => dcG h gc fk fv ρ l' ds
        | _ => none)
      | _ => none)
    | some (.ok false) => dcG h gc fk fv ρ l ds
    | _ => none
def dctM (o : Option (List (D × D))) : M D := o.map fun l => .ok (.dct l)
def fDc (fi : En → M (List D)) (h : D → En → Option En) (gc : En → M Bool) (fk fv : En → M D) (vs : List Nat) : En → M D := fun ρ => (fi ρ).bnd fun items => dctM (dcG h gc fk fv (Cb ρ vs) [] items)
theorem dcG_cons {h : D → En → Option En} {l l' : List (D × D)} {d : D} {ds : List D} (hl : dcG h ga fk fv ρ l (d :: ds) = some l') :
    ∃ ρ1, h d ρ = some ρ1 ∧ ((ga ρ1 = some (.ok false) ∧ dcG h ga fk fv ρ l ds = some l') ∨ ∃ x y l2, ga ρ1 = some (.ok true) ∧ fk ρ1 = some (.ok x) ∧ fv ρ1 = some (.ok y) ∧ putD l x y = some l2 ∧ dcG h ga fk fv ρ l2 ds = some l') := by
  unfold dcG at hl
  obtain ⟨ρ1, e1, hl⟩ := Option.bind_eq_some_iff.mp hl
  refine ⟨ρ1, e1, ?_⟩
  split at hl
  · rename_i e2
    split at hl
    · rename_i x e3
      split at hl
      · rename_i y e4
        obtain ⟨l2, e5, hl⟩ := Option.bind_eq_some_iff.mp hl
        exact .inr ⟨x, y, l2, e2, e3, e4, e5, hl⟩
      · cases hl
    · cases hl
  · rename_i e2
    exact .inl ⟨e2, hl⟩
  · cases hl
theorem spec_dc {wi : TI} {t : TG} {tt : TT} {tk tv : TE} {fi : En → M (List D)} {is vs : List Nat} {h : D → En → Option En} {gc : En → M Bool}
    (hi : ∀ Z F B H σ ρ, SR G Z F B H σ ρ → ∀ r, fi ρ = some r → ∀ R, PostI G W F B H σ R r → wi σ H R)
    (ht : ∀ Z F B H σ ρ, SR G Z F B H σ ρ → ∀ d v, Rep G F d v → ∀ ρ', h d ρ = some ρ' → ∀ Q : L2.St → Hp → Prop, (∀ σ', SR G Z F B H σ' ρ' → (∀ vs, (∀ i ∈ is, i ∈ vs) → wipe σ' vs = wipe σ vs) → (∀ j p, OwnAt σ' ρ' j p → OwnAt σ ρ j p) → Q σ' H) → t v σ H Q)
    (hc : SpecT G W0 tt gc) (hk : SpecE G W0 .shared tk fk) (hv : SpecE G W0 .shared tv fv) (his : ∀ i ∈ is, i ∈ vs) : SpecE G W .fresh (tDcN G wi t tt tk tv vs) (fDc fi h gc fk fv vs) := by
  intro Z F B H σ ρ s r hr Q q
  rcases bnd_some hr with ⟨items, ei, hr⟩ | ⟨x, ex, rfl⟩
  · cases el : dcG h gc fk fv (Cb ρ vs) [] items with
    | none => rw [el] at hr; cases hr
    | some l =>
      rw [el] at hr
      obtain rfl := Option.some.inj hr
      refine hi Z F B H σ ρ s _ ei _ fun F1 B1 H1 J u1 it A hA => ?_
      refine dc_walk it (fun i H' => ∃ F' B' o es done, Up F1 B1 H1 F' B' H' ∧ H' A = some (rawD A o) ∧ B' A = none ∧ DO o es ∧ RepE G F' done es ∧ KN done ∧ dcG h gc fk fv (Cb ρ vs) done (items.drop i) = some l) ?_ ?_ ?_ ?_
      · exact ⟨F1, B1, emptyD, [], [], Up.new u1.fb u1.bh hA, upd_same, u1.bh.free hA, DO.empty, rfl, KN.nil, el⟩
      · rintro i H' hi ⟨F', B', o, es, done, u, _⟩
        exact u.b.trans u.bh
      · rintro i x H' H2 hi ⟨F', B', o, es, done, u, hA', hB', hdo, re, hn, hl⟩ y
        obtain ⟨F2, B2, d, ed, u2, rd⟩ := y F' B' u.gro u.fb u.bh
        have hdr : items.drop i = d :: items.drop (i + 1) := by
          obtain ⟨hi', e⟩ := List.getElem?_eq_some_iff.mp ed
          rw [List.drop_eq_getElem_cons hi', e]
        rw [hdr] at hl
        have s2 : SR G Z F2 B2 H2 (wipe σ vs) (Cb ρ vs) := (s.up (u1.trans (u.trans u2))).wiped vs
        have hne : H' A ≠ none := by rw [hA']; intro z; cases z
        have hA2 : H2 A = some (rawD A o) := u2.h _ _ hA'
        have hB2 : B2 A = none := by rw [(u2.old A hne).2]; exact hB'
        have hne2 : H2 A ≠ none := by rw [hA2]; intro z; cases z
        obtain ⟨ρ1, e1, hl⟩ := dcG_cons hl
        refine ht Z F2 B2 H2 (wipe σ vs) (Cb ρ vs) s2 d x rd ρ1 e1 _ fun σ3 s3 w3 _ => ⟨?_, ?_⟩
        · have := w3 vs his
          rw [wipe_idem] at this
          exact this
        · rcases hl with ⟨e2, hl⟩ | ⟨x', y', l2, e2, e3, e4, e5, hl⟩
          · refine hc Z F2 B2 H2 σ3 ρ1 s3 _ e2 _ fun F3 B3 H3 u3 => ?_
            have hB3 : B3 A = none := by rw [(u3.old A hne2).2]; exact hB2
            exact ⟨F3, B3, o, es, done, u.trans (u2.trans u3), u3.h _ _ hA2, hB3, hdo, RepE.mono (u2.trans u3).f _ _ re, hn, hl⟩
          · refine hc Z F2 B2 H2 σ3 ρ1 s3 _ e2 _ fun F3 B3 H3 u3 => ?_
            show tk σ3 H3 _
            refine hk Z F3 B3 H3 σ3 ρ1 (s3.up u3) _ e3 _ fun F4 B4 H4 v4 u4 r4 => ?_
            refine hv Z F4 B4 H4 σ3 ρ1 ((s3.up u3).up u4) _ e4 _ fun F5 B5 H5 v5 u5 r5 => ?_
            have ut : Up F2 B2 H2 F5 B5 H5 := u3.trans (u4.trans u5)
            obtain ⟨kk, hkk, hall, hlim, rfl⟩ := putD_some e5
            obtain ⟨_, hkd, _⟩ := kTup_some hkk
            have hB5 : B5 A = none := by rw [(ut.old A hne2).2]; exact hB2
            refine ⟨F5, x', kk, A, o, es, done, y', ut.fb.trans ut.bh, rfl, ut.h _ _ hA2, hdo, RepE.mono (u2.trans ut).f _ _ re, hn, hall, Rep.mono u5.f _ _ r4, hkk, hlim, r5, fun o' es' hdo' re' => ?_⟩
            exact ⟨F5, B5, o', es', dput done x' kk y', (u.trans (u2.trans ut)).over hA hB5, upd_same, hB5, hdo', re', hn.put hkd, hl⟩
      · rintro H' ⟨F', B', o, es, done, u, hA', hB', hdo, re, hn, hl⟩
        rw [List.drop_length] at hl
        have e := Option.some.inj (show some done = some l from hl)
        subst e
        exact q F' B' H' _ (u1.trans u) ⟨A, rfl, u1.h.free hA, hB', o, es, hA', hdo, re, hn⟩
  · exact hi Z F B H σ ρ s _ ex _ q
theorem je_dc {kx vx tg iter : Expr} {ifs : List Expr} {scope : Scope} (own : List (Str × Nat)) {fi : En → M (List D)} {is : List Nat} {h : D → En → Option En} {gc : En → M Bool} (hb : blkC N sc scope own = true) (his : ∀ i ∈ is, i ∈ own.map (·.2))
    (hi : JI G k W N sc tg iter fi) (ht : JG G (CnE G k W0 N (relS scope sc)) tg is h) (hc : JTs G k W0 N (relS scope sc) ifs gc) (hk : JE G k W0 N (relS scope sc) .shared kx fk) (hv : JE G k W0 N (relS scope sc) .shared vx fv) (hs : ∀ (env : Env) x, foldedSetIterable iter env x = pure x) :
    JE G k W N sc .fresh (.DictComp kx vx [⟨tg, iter, ifs, 0⟩] scope pos) (fDc fi h gc fk fv (own.map (·.2))) := by
  obtain ⟨wi, a1, a2⟩ := hi
  obtain ⟨t, b1, b2⟩ := ht
  obtain ⟨tt, c1, c2⟩ := hc
  obtain ⟨tk, d1, d2⟩ := hk
  obtain ⟨tv, e1, e2⟩ := hv
  exact ⟨_, fun X c => pe_dcN (own := own) c (a1 X c) (by rw [c.hN, c.hsc]; exact blkOk_by hb) (fun _ _ _ _ _ => b1 _ c.blk) (fun _ _ _ _ _ => c1 _ c.blk) (fun _ _ _ _ _ => d1 _ c.blk) (fun _ _ _ _ _ => e1 _ c.blk) (hs _), spec_dc a2 b2 c2 d2 e2 his⟩
end
theorem uPut_putD (y d : D) (l : List (D × D)) : uPut y d (.dct l) = (putD l d y).map D.dct := by
  show (match kTup d with
    | some k => if KAll l = true ∧ l.length < LIM then some (D.dct (dput l d k y)) else none
    | none => none) = _
  unfold putD
  cases kTup d with
  | none => rfl
  | some k =>
    show (if KAll l = true ∧ l.length < LIM then some (D.dct (dput l d k y)) else none) = (if KAll l = true ∧ l.length < LIM then some (dput l d k y) else none).map D.dct
    split <;> rfl
theorem dcG_enc {α β γ : Type} [DecidableEq β] {encA : α → D} {enc : β → D} (K : KeyEnc enc) (ev : γ → D) {h : D → En → Option En} {gc : En → M Bool} {fk fv : En → M D} {ρ : En} (p : α → Bool) (fa : α → β) (fb : α → γ) : ∀ (items : List α) (l : List (β × γ)), l.length + items.length ≤ 16000000 →
    (∀ a ∈ items, ∃ ρ1, h (encA a) ρ = some ρ1 ∧ gc ρ1 = some (.ok (p a)) ∧ (p a = true → fk ρ1 = some (.ok (enc (fa a))) ∧ fv ρ1 = some (.ok (ev (fb a))))) →
    dcG h gc fk fv ρ (l.map (encq enc ev)) (items.map encA) = some (((items.filter p).foldl (fun l a => aput l (fa a) (fb a)) l).map (encq enc ev))
  | [], l, _, _ => rfl
  | a :: as, l, hl, H => by
    obtain ⟨ρ1, e1, e2, e3⟩ := H a List.mem_cons_self
    rw [List.length_cons] at hl
    rw [List.map_cons]
    unfold dcG
    rw [e1, Option.bind_some]
    simp only [e2]
    cases hp : p a with
    | true =>
      obtain ⟨e4, e5⟩ := e3 hp
      have hput : putD (l.map (encq enc ev)) (enc (fa a)) (ev (fb a)) = some ((aput l (fa a) (fb a)).map (encq enc ev)) := by
        have := K.put ev (fa a) (fb a) (l := l) (by omega)
        rw [uPut_putD] at this
        obtain ⟨z, hz, ez⟩ := Option.map_eq_some_iff.mp this
        injection ez with ez
        rw [hz, ez]
      have := aput_length_le l (fa a) (fb a)
      simp only [e4, e5, hput, Option.bind_some, List.filter_cons_of_pos hp, List.foldl_cons]
      exact dcG_enc K ev p fa fb as _ (by omega) fun b hb => H b (List.mem_cons_of_mem _ hb)
    | false =>
      have hn : ¬ p a = true := by rw [hp]; decide
      simp only [List.filter_cons_of_neg hn]
      exact dcG_enc K ev p fa fb as l (by omega) fun b hb => H b (List.mem_cons_of_mem _ hb)
end DL
namespace DL
open PySem PySem.Spec L2
section
variable {G : Gm} {kd : Kd} {k : Nat} {W : WX} {N : List Str} {sc : Scope} {e a b c o : Expr} {es : List Expr} {f fa fb fc fk fv : En → M D} {fs : En → M (List D)} {ga gb : En → M Bool} {pos apos cpos : Pos} {F B H F' B' H' : Hp} {Z : Zn} {σ : L2.St} {ρ : En} {v w : V} {X : Cx}
end
end DL
namespace DL
open PySem PySem.Spec L2
section
variable {G : Gm} {kd : Kd} {k j : Nat} {W : WX} {N : List Str} {sc : Scope} {e a b c o : Expr} {es : List Expr} {f fa fb : En → M D} {fs : En → M (List D)} {ga gb : En → M Bool} {pos p apos cpos : Pos} {F B H F' B' H' : Hp} {Z : Zn} {σ : L2.St} {ρ ρ' : En} {v w : V} {X : Cx} {ad : Addr} {fd : FuncData} {ps : List Str} {ks : List PK} {Fn : List D → Option FOut} {x m : Str}
def HasO (Z : Zn) (σ : L2.St) (ρ : En) (i : Nat) (p : Addr) (d : D) : Prop := (ρ[i]? = some (.ow d) ∧ (σ[i]?).join = some (.ref p) ∧ Z.H p = none) ∨ (ρ[i]? = some (.mu d) ∧ (σ[i]?).join = some (.ref p) ∧ Z.M i = some p)
def setO (i : Nat) (d : D) (ρ : En) : Option En := Ah i (fun _ => some d) ρ
theorem setO_has {i : Nat} {p : Addr} {d d' : D} (h : HasO Z σ ρ i p d) (e : setO i d' ρ = some ρ') : ρ' = ρ.set i (match ρ[i]? with | some (.mu _) => .mu d' | _ => .ow d') := by
  unfold setO Ah at e
  rcases h with ⟨h, _⟩ | ⟨h, _⟩ <;> (rw [h] at e ⊢; exact (Option.some.inj e).symm)
theorem HasO.ne (s : SR G Z F B H σ ρ) {i l : Nat} {p q : Addr} {d d2 : D} (h : HasO Z σ ρ i p d) (h2 : HasO Z σ ρ l q d2) (hne : l ≠ i) : q ≠ p := by
  rintro rfl
  rcases h with ⟨a1, a2, a3⟩ | ⟨a1, a2, a3⟩ <;> rcases h2 with ⟨b1, b2, b3⟩ | ⟨b1, b2, b3⟩
  · exact hne (s.nd l i q ⟨⟨_, b1⟩, s.at b1 b2⟩ ⟨⟨_, a1⟩, s.at a1 a2⟩)
  · exact (s.mm l q b3).1 a3
  · exact (s.mm i q a3).1 b3
  · exact hne (s.md l i q b3 a3)
theorem newB_old {x : Addr} {u : HO} (h : H x = some u) : newB B H F' x = B x := by
  unfold newB
  rw [h]
theorem there_ne {o : Option HO} {u : HO} (h : o = some u) : o ≠ none := by
  rw [h]
  intro z
  cases z
theorem some_of_ne {o : Option HO} (h : o ≠ none) : ∃ u, o = some u := by
  cases o with
  | none => exact (h rfl).elim
  | some u => exact ⟨u, rfl⟩
theorem SR.mu_call (s : SR G Z F B H σ ρ) {i : Nat} {p : Addr} {d d' : D} (h : HasO Z σ ρ i p d) (hb : B p = none) (hp : H p ≠ none) (a : Aft F H [p] F' H') (ho : OwnO G F' H' p d') (e : setO i d' ρ = some ρ') : SR G Z F' (newB B H F') H' σ ρ' := by
  have hρ := setO_has h e
  have hi : i < ρ.length := by rcases h with ⟨z, _⟩ | ⟨z, _⟩ <;> exact (List.getElem?_eq_some_iff.mp z).1
  have keep : ∀ (l : Nat) (q : Addr) (d2 : D), HasO Z σ ρ l q d2 → l ≠ i → OwnO G F H q d2 → OwnO G F' H' q d2 := fun l q d2 h2 hne o2 => by
    have hq := HasO.ne s h h2 hne
    exact o2.mono a.f fun u eu => a.h q u eu (by simpa using hq)
  have bq : ∀ q u, H q = some u → newB B H F' q = B q := fun q u hu => newB_old hu
  have hpn : newB B H F' p = none := by
    obtain ⟨u, hu⟩ := some_of_ne hp
    rw [newB_old hu]
    exact hb
  rw [hρ]
  refine ⟨fun x u hu => ?_, fun x u hu => ?_, s.zf.trans a.f, fun x u hu => ?_, fun x hx => ?_, fun x u hu hm => ?_, fun x hx => a.k x (s.zk x hx), s.mm, s.md, by rw [List.length_set]; exact s.len, fun l t ht => ?_, fun l r q hl hr => ?_, fun q hq => ?_, s.la⟩
  · unfold newB
    cases q : H x with
    | none => exact hu
    | some w =>
      have z := a.old x (there_ne q)
      rw [z] at hu
      exact s.fb x u hu
  · unfold newB at hu
    cases q : H x with
    | none => rw [q] at hu; exact a.fh x u hu
    | some w =>
      rw [q] at hu
      refine a.h x u (s.bh x u hu) ?_
      intro z
      rw [List.mem_singleton.mp z, hb] at hu
      cases hu
  · have hB := s.zb x u hu
    rw [newB_old (s.bh x u hB)]
    exact hB
  · obtain ⟨u, hu⟩ := some_of_ne (s.zk x hx)
    obtain ⟨z1, z2⟩ := s.zo x hx
    exact ⟨(a.old x (there_ne hu)).trans z1, fun hla => (newB_old hu).trans (z2 hla)⟩
  · refine a.h x u (s.zh x u hu hm) ?_
    intro z
    have z := List.mem_singleton.mp z
    subst z
    rcases h with ⟨_, _, h3⟩ | ⟨_, _, h3⟩
    · rw [h3] at hu; cases hu
    · exact hm i h3
  · by_cases hl : l = i
    · subst hl
      rw [List.getElem?_set_self hi] at ht
      rcases h with ⟨h1, h2, h3⟩ | ⟨h1, h2, h3⟩
      · rw [h1] at ht
        obtain rfl := Option.some.inj ht
        exact ⟨p, h2, h3, hpn, ho⟩
      · rw [h1] at ht
        obtain rfl := Option.some.inj ht
        exact ⟨p, h2, h3, hpn, ho⟩
    · rw [List.getElem?_set_ne (Ne.symm hl)] at ht
      have hs := s.sl l t ht
      cases t with
      | un => trivial
      | sh d2 =>
        obtain ⟨v2, e1, e2⟩ := hs
        exact ⟨v2, e1, e2.mono a.f⟩
      | bo d2 =>
        obtain ⟨v2, e1, e2⟩ := hs
        exact ⟨v2, e1, e2.mono a.f (Same.refl _)⟩
      | ow d2 =>
        obtain ⟨q, e1, e2, e3, e4⟩ := hs
        obtain ⟨u, hu⟩ := e4.there
        exact ⟨q, e1, e2, (bq q u hu).trans e3, keep l q d2 (.inl ⟨ht, e1, e2⟩) hl e4⟩
      | mu d2 =>
        obtain ⟨q, e1, e2, e3, e4⟩ := hs
        obtain ⟨u, hu⟩ := e4.there
        exact ⟨q, e1, e2, (bq q u hu).trans e3, keep l q d2 (.inr ⟨ht, e1, e2⟩) hl e4⟩
      | ln d2 =>
        obtain ⟨q, e1, e2, e4⟩ := hs
        exact ⟨q, e1, e2, e4.mono a.f fun u hu => (newB_old (s.bh q u hu)).trans hu⟩
  · have back : ∀ (l : Nat) (q : Addr), OwnAt σ (ρ.set i (match ρ[i]? with | some (.mu _) => .mu d' | _ => .ow d')) l q → OwnAt σ ρ l q := fun l q hl => by
      obtain ⟨⟨dd, h1⟩, h2⟩ := hl
      by_cases hli : l = i
      · subst hli
        rw [List.getElem?_set_self hi] at h1
        rcases h with ⟨z, _⟩ | ⟨z, _⟩
        · exact ⟨⟨d, z⟩, h2⟩
        · rw [z] at h1
          cases h1
      · rw [List.getElem?_set_ne (Ne.symm hli)] at h1
        exact ⟨⟨dd, h1⟩, h2⟩
    exact s.nd l r q (back l q hl) (back r q hr)
  · obtain ⟨h1, u, h2⟩ := s.lt q hq
    have hH := s.bh q u h2
    exact ⟨(a.old q (there_ne hH)).trans h1, u, (newB_old hH).trans h2⟩
inductive AM where
  | s | b | m
def AmR (G : Gm) (F B : Hp) (σ : L2.St) (ρ : En) (i : Nat) : List AM → List D → List V → Prop
  | [], [], vs => vs = []
  | .s :: ks, d :: ds, vs => ∃ v vs', vs = v :: vs' ∧ Rep G F d v ∧ AmR G F B σ ρ i ks ds vs'
  | .b :: ks, d :: ds, vs => ∃ v vs', vs = v :: vs' ∧ Top G F B d v ∧ AmR G F B σ ρ i ks ds vs'
  | .m :: ks, d :: ds, vs => ∃ v vs', vs = v :: vs' ∧ (σ[i]?).join = some v ∧ (ρ[i]? = some (.ow d) ∨ ρ[i]? = some (.mu d)) ∧ AmR G F B σ ρ i ks ds vs'
  | _, _, _ => False
theorem AmR.mono {i : Nat} (e : Same F F') (e' : Same B B') : ∀ {ks : List AM} {ds : List D} {vs : List V}, AmR G F B σ ρ i ks ds vs → AmR G F' B' σ ρ i ks ds vs
  | [], [], vs, h => h
  | .s :: ks, d :: ds, vs, h => by
    obtain ⟨v, vs', rfl, h1, h2⟩ := h
    exact ⟨v, vs', rfl, h1.mono e, h2.mono e e'⟩
  | .b :: ks, d :: ds, vs, h => by
    obtain ⟨v, vs', rfl, h1, h2⟩ := h
    exact ⟨v, vs', rfl, h1.mono e e', h2.mono e e'⟩
  | .m :: ks, d :: ds, vs, h => by
    obtain ⟨v, vs', rfl, h1, h3, h2⟩ := h
    exact ⟨v, vs', rfl, h1, h3, h2.mono e e'⟩
  | [], _ :: _, _, h => h.elim
  | .s :: _, [], _, h => h.elim
  | .b :: _, [], _, h => h.elim
  | .m :: _, [], _, h => h.elim
def fMuV (i : Nat) : En → M D := fun ρ => match ρ[i]? with
  | some (.ow d) => some (.ok d)
  | some (.mu d) => some (.ok d)
  | _ => none
theorem fMuV_ok {i : Nat} {r : Except Xc D} (h : fMuV i ρ = some r) : ∃ d, r = .ok d ∧ (ρ[i]? = some (.ow d) ∨ ρ[i]? = some (.mu d)) := by
  unfold fMuV at h
  split at h
  · rename_i d e
    exact ⟨d, (Option.some.inj h).symm, .inl e⟩
  · rename_i d e
    exact ⟨d, (Option.some.inj h).symm, .inr e⟩
  · cases h
def amK : PK → AM
  | .sh => .s
  | .bo => .b
  | .mu => .m
def muN : List PK → Nat
  | [] => 0
  | .mu :: ks => muN ks + 1
  | _ :: ks => muN ks
theorem muA_am {i : Nat} {q : Addr} (hq : (σ[i]?).join = some (.ref q)) : ∀ {ks : List PK} {ds : List D} {vs : List V}, AmR G F B σ ρ i (ks.map amK) ds vs → muA ks vs = List.replicate (muN ks) q
  | [], [], vs, h => by rw [show vs = [] from h]; rfl
  | [], _ :: _, _, h => h.elim
  | .sh :: ks, [], _, h => h.elim
  | .bo :: ks, [], _, h => h.elim
  | .mu :: ks, [], _, h => h.elim
  | .sh :: ks, d :: ds, vs, h => by
    obtain ⟨v, vs', rfl, _, h2⟩ := h
    show [] ++ muA ks vs' = _
    rw [muA_am hq h2]
    rfl
  | .bo :: ks, d :: ds, vs, h => by
    obtain ⟨v, vs', rfl, _, h2⟩ := h
    show [] ++ muA ks vs' = _
    rw [muA_am hq h2]
    rfl
  | .mu :: ks, d :: ds, vs, h => by
    obtain ⟨v, vs', rfl, h1, _, h2⟩ := h
    rw [hq] at h1
    obtain rfl := Option.some.inj h1
    show [q] ++ muA ks vs' = _
    rw [muA_am hq h2]
    rfl
theorem par_am {i : Nat} {q : Addr} {d0 : D} (hq : (σ[i]?).join = some (.ref q)) (hd : ρ[i]? = some (.ow d0) ∨ ρ[i]? = some (.mu d0)) (hfq : hid H [q] q = none) (fh : Same F (hid H [q])) (bh : Same B (hid H [q])) (ho : OwnO G F H q d0) : ∀ {ks : List PK} {ds : List D} {vs : List V}, AmR G F B σ ρ i (ks.map amK) ds vs → ParR G F (hid H [q]) H ks ds vs
  | [], [], vs, h => h
  | [], _ :: _, _, h => h.elim
  | .sh :: ks, [], _, h => h.elim
  | .bo :: ks, [], _, h => h.elim
  | .mu :: ks, [], _, h => h.elim
  | .sh :: ks, d :: ds, vs, h => by
    obtain ⟨v, vs', rfl, h1, h2⟩ := h
    exact ⟨v, vs', rfl, h1, par_am hq hd hfq fh bh ho h2⟩
  | .bo :: ks, d :: ds, vs, h => by
    obtain ⟨v, vs', rfl, h1, h2⟩ := h
    exact ⟨v, vs', rfl, h1.mono (Same.refl _) bh, par_am hq hd hfq fh bh ho h2⟩
  | .mu :: ks, d :: ds, vs, h => by
    obtain ⟨v, vs', rfl, h1, h3, h2⟩ := h
    rw [hq] at h1
    obtain rfl := Option.some.inj h1
    have ed : d = d0 := by
      rcases hd with z | z <;> rcases h3 with z2 | z2 <;> rw [z] at z2 <;> first | (injection z2 with z2; injection z2 with z2; exact z2.symm) | (injection z2 with z2; cases z2)
    subst ed
    exact ⟨q, vs', rfl, hfq, ho, par_am hq hd hfq fh bh ho h2⟩
def PostX (G : Gm) (W : WX) (kd : Kd) (Z : Zn) (F B H : Hp) (σ : L2.St) (ρ' : En) (Q : VK) : Except Xc D → Prop
  | .ok d => ∀ F' B' H' v, SR G Z F' B' H' σ ρ' → Gro F B F' B' → KR G kd H F' B' H' d v → Q v H'
  | .error x => ∀ F' B' H' cls dx, SR G Z F' B' H' σ ρ' → Gro F B F' B' → XR G F' H' x cls dx → W cls dx σ H'
def outX (i : Nat) (ρ : En) : Option FOut → Option (Except Xc D × En)
  | some (.ret fr d [d']) => if fr = true ∨ d.isMut = false then (setO i d' ρ).map fun ρ' => (.ok d, ρ') else none
  | some (.exc x [d']) => (setO i d' ρ).map fun ρ' => (.error x, ρ')
  | _ => none
theorem sp_callX {i : Nat} {ds : List D} {vs : List V} {Q : VK} {r : Except Xc D} (h1 : muN ks = 1) (s : SR G Z F B H σ ρ) (d0 : D) (hd : ρ[i]? = some (.ow d0) ∨ ρ[i]? = some (.mu d0)) (ha : AmR G F B σ ρ i (ks.map amK) ds vs)
    (hr : outX i ρ (Fn ds) = some (r, ρ')) (q : PostX G W .fresh Z F B H σ ρ' Q r) : spD G ks Fn vs H Q (WE W σ) := by
  obtain ⟨pa, b1, b2, b3, b4⟩ := s.own_at hd
  have hs : (σ[i]?).join = some (.ref pa) := by rw [b1]; rfl
  have em := muA_am hs ha
  rw [h1] at em
  have em : muA ks vs = [pa] := em
  have hpn : H pa ≠ none := by
    obtain ⟨u, hu⟩ := b3.there
    exact there_ne hu
  have hidp : hid H [pa] pa = none := by
    unfold hid
    rw [if_pos (List.mem_singleton.mpr rfl)]
  have bhid : Same B (hid H [pa]) := fun x u hu => by
    unfold hid
    rw [if_neg]
    · exact s.bh x u hu
    · intro z
      rw [List.mem_singleton.mp z, b2] at hu
      cases hu
  have fhid : Same F (hid H [pa]) := s.fb.trans bhid
  unfold spD
  rw [em]
  refine ⟨F, ds, fhid, List.pairwise_singleton _ _, par_am hs hd hidp fhid bhid b3 ha, ?_⟩
  unfold outX at hr
  have gro : ∀ {F' H' : Hp}, Aft F H [pa] F' H' → Gro F B F' (newB B H F') := fun {F' H'} a => ⟨a.f, fun x u hu => (newB_old (s.bh x u hu)).trans hu⟩
  split at hr
  · rename_i fr d d' e
    split at hr
    · rename_i hfr
      obtain ⟨ρ2, e2, e3⟩ := Option.map_eq_some_iff.mp hr
      injection e3 with e3 e4
      subst e3
      subst e4
      refine ⟨_, e, fun F' H' v a rv ms => ?_⟩
      exact q F' _ H' v (s.mu_call b4 b2 hpn a ms.1 e2) (gro a) (rv.fresh hfr)
    · cases hr
  · rename_i x d' e
    obtain ⟨ρ2, e2, e3⟩ := Option.map_eq_some_iff.mp hr
    injection e3 with e3 e4
    subst e3
    subst e4
    exact ⟨_, e, fun F' H' cls dx a xr ms => q F' _ H' cls dx (s.mu_call b4 b2 hpn a ms.1 e2) (gro a) xr⟩
  · cases hr
end
end DL
namespace DL
open PySem PySem.Spec L2
section
variable {G : Gm} {kd : Kd} {k j : Nat} {W : WX} {N : List Str} {sc : Scope} {e a b c o : Expr} {rest : List Expr} {es : List Expr} {f fa fb fi : En → M D} {fs : En → M (List D)} {ga gb : En → M Bool} {pos p apos cpos : Pos} {F B H F' B' H' : Hp} {Z : Zn} {σ : L2.St} {ρ ρ' : En} {v w : V} {X : Cx} {ad C : Addr} {fd : FuncData} {ps : List Str} {ks : List PK} {Fn : List D → Option FOut} {x m : Str}
abbrev TO := En → Option (Except Xc Bool × En)
def PostTX (G : Gm) (W : WX) (Z : Zn) (F B : Hp) (σ : L2.St) (ρ' : En) (Q : Bool → Hp → Prop) : Except Xc Bool → Prop
  | .ok t => ∀ F' B' H', SR G Z F' B' H' σ ρ' → Gro F B F' B' → Q t H'
  | .error x => ∀ F' B' H' cls dx, SR G Z F' B' H' σ ρ' → Gro F B F' B' → XR G F' H' x cls dx → W cls dx σ H'
def SpecTX (G : Gm) (W : WX) (tt : TT) (g : TO) : Prop := ∀ Z F B H σ ρ, SR G Z F B H σ ρ → ∀ r ρ', g ρ = some (r, ρ') → ∀ Q, PostTX G W Z F B σ ρ' Q r → tt σ H Q
def JTX (G : Gm) (k : Nat) (W : WX) (N : List Str) (sc : Scope) (e : Expr) (g : TO) : Prop := ∃ tt, (∀ X, CnE G k W N sc X → PT X e tt) ∧ SpecTX G W tt g
def JWX (G : Gm) (k : Nat) (W : WX) (N : List Str) (sc : Scope) (e : Expr) (g : TO) : Prop := ∃ tt, (∀ X, CnE G k W N sc X → PW X e tt) ∧ SpecTX G W tt g
theorem PostTX.weak {F1 B1 : Hp} {Q : Bool → Hp → Prop} {r : Except Xc Bool} (g : Gro F B F1 B1) (q : PostTX G W Z F B σ ρ' Q r) : PostTX G W Z F1 B1 σ ρ' Q r := by
  cases r with
  | ok t => exact fun F' B' H' s g2 => q F' B' H' s (g.trans g2)
  | error x => exact fun F' B' H' cls dx s g2 hx => q F' B' H' cls dx s (g.trans g2) hx
theorem JWX.jt {g : TO} (h : JWX G k W N sc e g) : JTX G k W N sc e g := by
  obtain ⟨tt, h1, h2⟩ := h
  exact ⟨tt, fun X c => (h1 X c).pt, h2⟩
def gSubO (G : Gm) (W : WX) (C : Addr) (Fn : List D → Option FOut) (to ti : TE) : TG := fun v σ H Q => to σ H fun o H1 => ti σ H1 fun i H2 => (∃ a dx fs, o = .ref a ∧ H2 a = some (.ins C dx fs)) ∧ spD G [.mu, .bo, .bo] Fn [o, i, v] H2 (fun _ H3 => Q σ H3) (WE W σ)
theorem pg_subO {to ti : TE} (cn : CnE G k W N sc X) (me : Meth G.K C "__setitem__" ad) (hq : PySem.W.noSeq G.K C = true) (ok : FnG G j ad fd ps [.mu, .bo, .bo] Fn) (hj : j ≤ k) (hb : Binds G.K fd ps []) (ho : PE X o to) (hi : PE X e ti)
    (ha : ∀ v, assign (.Subscript o e pos) X.env v = (do
      let ov ← holding [v] (eval o X.env)
      let iv ← holding [v, ov] (eval e X.env)
      standAt pos
      holding [v, ov, iv] (setItem ov iv v)
      release [v, ov, iv] [])) : PG X (.Subscript o e pos) (gSubO G W C Fn to ti) := by
  refine ⟨fun pp s σ H v u Q I r h => ?_⟩
  rw [ha]
  refine wpAny_bind (wpAny_holding (thn (ho.run pp s σ H _ I h) fun ov s1 z1 => ?_))
  obtain ⟨x, H1, I1, r1, q1⟩ := z1
  refine wpAny_bind (wpAny_holding (thn (hi.run pp s1 σ H1 _ I1 q1) fun iv s2 z2 => ?_))
  obtain ⟨y, H2, I2, r2, ⟨pa, dx, fl, ex, hp⟩, hsp⟩ := z2
  subst ex
  obtain rfl : ov = Value.ref pa := r1
  obtain ⟨mA, J, _⟩ := ins_get I2.hok hp
  obtain ⟨od, J, _⟩ := J.look
  obtain ⟨m0, hF⟩ := I2.fr
  refine wpAny_bind (wpAny_standAt (wpAny_bind (wpAny_holding ?_)))
  refine PySem.W.ksp_setItem hF I2.ok.mod.kin J (by rw [cn.hK]; exact hq) (by rw [cn.hK]; exact me.at_) (by rw [cn.hK]; exact me.fn) ?_
  refine wpAny_mono (run_fnSD (us := [.ref pa, iv, u]) (vs := [.ref pa, y, v]) (E := fun σ => WE W σ) (cn.fn ok) (cn.room.mono hj) (by rw [cn.hK]; exact hb) .nil (cn.pass σ) I2 (.cons rfl (.cons r2 (.cons r .nil))) hsp) (fun z s3 hr => ?_) fun _ _ z => z
  obtain ⟨_, H3, I3, _, q3⟩ := hr
  exact wpAny_release ⟨σ, H3, I3, q3⟩
def gSetO (s c : Nat) (Fn : List D → Option FOut) (f fi : En → M D) : SO := fun ρ => match f ρ with
  | some (.ok y) => (match fi ρ with
    | some (.ok iv) => (match fMuV s ρ with
      | some (.ok d0) => if isObj c d0 = true then (match outX s ρ (Fn [d0, iv, y]) with
        | some (.ok _, ρ1) => some (.nx ρ1)
        | some (.error x, ρ1) => some (.er x ρ1)
        | none => none) else none
      | _ => none)
    | some (.error x) => if (fMuV s ρ).isSome = true then some (.er x ρ) else none
    | none => none)
  | some (.error x) => some (.er x ρ)
  | none => none
theorem js_setO {s c : Nat} {ns : List Str} {y : Str} {i : Expr} {p1 tpos : Pos} (hct : G.ct c = some (C, ns)) (me : Meth G.K C "__setitem__" ad) (hq : PySem.W.noSeq G.K C = true) (ok : FnG G j ad fd ps [.mu, .bo, .bo] Fn) (hj : j ≤ k) (hb : Binds G.K fd ps [])
    (hy : N[s]? = some y) (hv : visB sc y = true) (hd : (y == ("__debug__" : Str)) = false) (hcd : (y == ("__classdict__" : Str)) = false)
    (hsp : SetPlain y p1 i tpos e pos sc) (ha : JE G k W N sc .borrow e f) (hi : JE G k W N sc .borrow i fi) : JS G k W N sc (.Assign [.Subscript (.Name y p1) i tpos] e pos) (gSetO s c Fn f fi) := by
  obtain ⟨ta, a1, a2⟩ := ha
  obtain ⟨ti, i1, i2⟩ := hi
  refine ⟨tAsg ta (gSubO G W C Fn (tVar s) ti), fun X cx => ps_asg (a1 X cx.ce) (pg_subO cx.ce me hq ok hj hb (pe_var (by rw [cx.ce.hN]; exact hy) (by rw [cx.ce.hsc]; exact vis_of hv) hd hcd) (i1 X cx.ce) (hsp X cx.ce.hsc).1) (hsp X cx.ce.hsc).2.1 (hsp X cx.ce.hsc).2.2.1 (hsp X cx.ce.hsc).2.2.2, fun Z F B H σ ρ st o ho E q => ?_⟩
  unfold gSetO at ho
  split at ho
  · rename_i d ed
    refine a2 Z F B H σ ρ st _ ed _ fun F1 B1 H1 v1 u1 k1 => ?_
    split at ho
    · rename_i iv eiv
      split at ho
      · rename_i d0 ed0
        obtain ⟨d0', e0, hor⟩ := fMuV_ok ed0
        injection e0 with e0
        subst e0
        split at ho
        · rename_i hob
          obtain ⟨gs, rfl⟩ := isObj_eq hob
          obtain ⟨pa, b1, _⟩ := st.own_at hor
          refine ⟨.ref pa, b1, ?_⟩
          refine i2 Z F1 B1 H1 σ ρ (st.up u1) _ eiv _ fun F2 B2 H2 v2 u2 k2 => ?_
          have u12 := u1.trans u2
          have s2 := st.up u12
          obtain ⟨pa2, c1, c2, ⟨C', ns', dx, us, z1, z2, z3⟩, c4⟩ := s2.own_at hor
          have ep : pa2 = pa := by
            rw [b1] at c1
            injection c1 with c1
            injection c1 with c1
            injection c1 with c1
            exact c1.symm
          subst ep
          rw [hct] at z1
          cases z1
          refine ⟨⟨pa2, dx, _, rfl, z2⟩, ?_⟩
          have am : AmR G F2 B2 σ ρ s ([PK.mu, .bo, .bo].map amK) [.obj c gs, iv, d] [.ref pa2, v2, v1] :=
            ⟨.ref pa2, _, rfl, by rw [b1]; rfl, hor, v2, _, rfl, k2, v1, [], rfl, Top.mono u2.f u2.b k1, rfl⟩
          split at ho
          · rename_i dr ρ1 er
            obtain rfl := Option.some.inj ho
            exact sp_callX rfl s2 (.obj c gs) hor am er fun F3 B3 H3 v3 s3 g3 k3 => q F3 B3 H3 σ s3 (u12.gro.trans g3)
          · rename_i x ρ1 er
            obtain rfl := Option.some.inj ho
            exact sp_callX rfl s2 (.obj c gs) hor am er fun F3 B3 H3 cls dxx s3 g3 hx => q F3 B3 H3 σ cls dxx s3 (u12.gro.trans g3) hx
          · cases ho
        · cases ho
      · cases ho
    · rename_i x eiv
      split at ho
      · rename_i hsome
        obtain rfl := Option.some.inj ho
        obtain ⟨r0, er0⟩ := Option.isSome_iff_exists.mp hsome
        obtain ⟨d0', _, hor⟩ := fMuV_ok er0
        obtain ⟨pa, b1, _⟩ := st.own_at hor
        refine ⟨.ref pa, b1, ?_⟩
        exact i2 Z F1 B1 H1 σ ρ (st.up u1) _ eiv _ (fun F' B' H' cls dx u hx => q F' B' H' σ cls dx (st.up (u1.trans u)) (u1.trans u).gro hx)
      · cases ho
    · cases ho
  · rename_i x ed
    obtain rfl := Option.some.inj ho
    exact a2 Z F B H σ ρ st _ ed _ (PostS.er st q)
  · cases ho
def rGetO (G : Gm) (C : Addr) (Fn : List D → Option FOut) : R2 := fun x y H Q => ∃ a dx fs, x = .ref a ∧ H a = some (.ins C dx fs) ∧ spD G [.bo, .bo] Fn [.ref a, y] H Q (fun _ _ _ => False)
def okAll : M D → Option D
  | some (.ok d) => some d
  | _ => none
def opGetO (c : Nat) (Fn : List D → Option FOut) : D → D → Option D := fun x y => if isObj c x = true then okAll (Cr (Fn [x, y])) else none
theorem s_getO {c : Nat} {ns : List Str} (hct : G.ct c = some (C, ns)) : OpS G .fresh (rGetO G C Fn) (opGetO c Fn) := by
  intro F B H fb bh x y v w hx hy d hd Q q
  unfold opGetO at hd
  split at hd
  · rename_i hob
    obtain ⟨gs, rfl⟩ := isObj_eq hob
    unfold okAll at hd
    split at hd
    · rename_i d' e
      obtain rfl := Option.some.inj hd
      obtain ⟨pa, rfl, C', ns', dx, ws, a1, a2, a3⟩ := hx
      have a1' := a1
      rw [hct] at a1
      cases a1
      refine ⟨pa, dx, _, rfl, a2, ?_⟩
      exact sp_callF (W := fun _ _ _ _ => False) (σ := []) (ks := [.bo, .bo]) (ds := [.obj c gs, y]) (r := .ok d') rfl fb bh ⟨.ref pa, [w], rfl, ⟨pa, rfl, C, ns, dx, ws, hct, a2, a3⟩, w, [], rfl, hy, rfl⟩ e fun F' B' H' z u kr => q F' B' H' z u kr
    · cases hd
  · cases hd
def GetPlain (slice : Expr) : Prop := ∀ v i : Value, subscripted slice true v i = runValue (.builtin "lifetime.subscript" ⟨[v, i], []⟩)
theorem ix_O (cn : CnE G k W N sc X) (me : Meth G.K C "__getitem__" ad) (hfn : PySem.W.fnIn G.K ad = true) (ok : FnG G j ad fd ps [.bo, .bo] Fn) (hj : j + 1 ≤ k) (hb : Binds G.K fd ps []) (value : Expr) {slice : Expr} (hgp : GetPlain slice) (pp : List (Addr × Obj)) (s : Shared) (σ : L2.St) (H : Hp) (x y : V) (v u : Value) (Q : VK)
    (I : Inv X pp σ H s) (rx : RelV x v) (ry : RelV y u) (h : rGetO G C Fn x y H Q) : wpAny (model X.prog X.w) X.A (PyProof.Rows.subscriptTail value slice v u) (EP X pp σ Q) X.xe s := by
  obtain ⟨pa, dx, fl, rfl, hp, hsp⟩ := h
  obtain rfl : v = Value.ref pa := rx
  obtain ⟨mA, J, _⟩ := ins_get I.hok hp
  obtain ⟨od, J, _⟩ := J.look
  obtain ⟨m0, hF⟩ := I.fr
  refine PySem.W.sub_K hF I.ok.mod.kin J (by rw [cn.hK]; exact me.at_) (by rw [cn.hK]; exact hfn) (by rw [cn.hK]; exact me.fn) ?_ (hgp _ _)
  exact run_at (A1 := X.A.in1) (E := fun _ _ _ _ => False) (us := [.ref pa, u]) (vs := [.ref pa, y]) (cn.fn ok) (cn.room.mono hj).in1 rfl (by rw [cn.hK]; exact hb) (fun _ _ _ _ _ _ z => (cx_call z).elim) I (.cons rfl (.cons ry .nil)) hsp
theorem je_getO {c : Nat} {ns : List Str} (hct : G.ct c = some (C, ns)) (me : Meth G.K C "__getitem__" ad) (hfn : PySem.W.fnIn G.K ad = true) (ok : FnG G j ad fd ps [.bo, .bo] Fn) (hj : j + 1 ≤ k) (hb : Binds G.K fd ps []) (hgp : GetPlain b)
    (ha : JE G k W N sc .peek a fa) (hbb : JE G k W N sc .peek b fb) : JE G k W N sc .fresh (.Subscript a b pos) (Az (opGetO c Fn) fa fb) := by
  obtain ⟨ta, a1, a2⟩ := ha
  obtain ⟨tb, b1, b2⟩ := hbb
  refine ⟨tOp (rGetO G C Fn) ta tb, fun X cn => ⟨fun pp s σ H Q I h => ?_⟩, spec_bin a2 b2 (s_getO hct)⟩
  exact PyProof.Rows.Subscript_ (binT (a1 X cn) (b1 X cn) I h fun v u s2 x y H2 I2 rx ry q => ix_O cn me hfn ok hj hb a hgp pp s2 σ H2 x y v u Q I2 rx ry q)
end
end DL
namespace DL
open PySem PySem.Spec L2 ItX
def lstIt (t : Addr) : Obj := { cls := .type "list_iterator", data := .fields #[.ref t, .int 0 0] }
def LstO (t it : Addr) : HO := .ext fun h => h.get? it = some (lstIt t)
theorem lstO_ok {P : Program} {w : World} {H : Hp} {h : Heap} {t it : Addr} (e : h.get? it = some (lstIt t)) : ObjOk P w H h it (LstO t it) := ⟨e, ⟨_, e⟩, fun h1 h2 q k => k _ q⟩
def rIterL (K : PySem.W.Frag) (n : Nat) : List V → Hp → VK → Prop := fun xs H Q => ∃ (t : Addr) (zs : List V), xs = [.ref t] ∧ SqL K H t zs ∧ ∀ it, H it = none → n ≤ it → Q (.ref it) (upd H it (LstO t it))
theorem call_iterL {X : Cx} : CallR X (.builtin "iter") (rIterL X.K X.s_0.heap.objs.size) := by
  intro pins s σ H xs us Q I r h
  obtain ⟨t, zs, rfl, hq, q⟩ := h
  obtain ⟨u, rfl, ru⟩ := vals1 r
  obtain rfl : u = Value.ref t := ru
  obtain ⟨us, rv, pl, hz⟩ := I.list hq
  refine Calls.call_function_entry (by decide +kernel) (by decide +kernel) PySem.W.kdk_entry_iter (PySem.W.kdk_args_iter _) ?_
  unfold Builtin.«iter»
  refine wpAny_bind (m := someArgs "iter" 1 2 _) (wpAny_of_eq (a := [Value.ref t]) (by first | rfl | kernel_rfl!) ?_)
  show wpAny _ _ (pyIter (.ref t) >>= _) _ _ _
  refine wpAny_bind (wpAny_pyIter_list (show s.heap.IsList t us.toArray from pl.isList) ?_)
  exact wpAny_pure ⟨_, rfl, .ref s.heap.objs.size, _, I.laid (t' := s.toks) (fun b u e => Heap.get?_push_of_some _ e) (Nat.le_refl _) (lstO_ok (Heap.get?_push_size _ rfl)), rfl, q _ (I.hok.fresh (Nat.le_refl _)) I.sz⟩
def iOwnL (K : PySem.W.Frag) (C : Addr) (m : Str) (te : TE) : TI := fun σ H R => te σ H fun x H1 => ∃ a dx fs t zs, x = .ref a ∧ H1 a = some (.ins C dx fs) ∧ Cls K C ∧ NoAttr K C m ∧ fs.lookup m = some (.ref t) ∧ SqL K H1 t zs ∧ R (Itl K t) H1
theorem pi_ownL {G : Gm} {k : Nat} {W : WX} {N : List Str} {sc : Scope} {X : Cx} {tg e : Expr} {C : Addr} {m : Str} {te : TE} (cn : CnE G k W N sc X) (ic : ItrC G C m) (hj : 1 ≤ k) (he : PE X e te) : PI X tg e (iOwnL X.K C m te) := by
  refine ⟨fun pp s σ H R I h => thn (he.run pp s σ H _ I h) fun v s1 ⟨x, H1, J, r1, a, dx, fs, t, zs, ex, ha, cl, na, hf, hq, q⟩ => ?_⟩
  subst ex
  obtain rfl : v = Value.ref a := r1
  obtain ⟨f, fd, x, qual, params, scope, p1, p2, p3, p4, p5, Fn, S, bi, me, hgl⟩ := ic.ex
  obtain ⟨mA, L, _⟩ := ins_get J.hok ha
  obtain ⟨od, L, _⟩ := L.look
  obtain ⟨m0, hF⟩ := J.fr
  refine PySem.W.owit_iter hF J.ok.mod.kin L (by rw [cn.hK]; exact me.at_) (by rw [cn.hK]; exact me.fn) ?_
  have FnX : FunD X.K x qual params [.Return (some (.Call (.Name "iter" p1) [.Attribute (.Name "self" p2) m p3] [] p4)) p5] scope [] [] f fd := by rw [cn.hK]; exact Fn
  have bX : Binds X.K fd ["self"] [] := by rw [cn.hK]; exact bi
  have b := bX s1 [.ref a] J.kIn rfl
  rw [List.append_nil] at b
  refine wpAny_call (codeAny_mono (run_fnS (CX := L2N.CX X.prog X.w) (k := 0) (Q := fun v H' => ∃ it, v = .ref it ∧ H1 it = none ∧ s1.heap.objs.size ≤ it ∧ H' = upd H1 it (LstO t it)) (E := fun _ _ _ => False) FnX S (vs := [.ref a]) rfl (cn.room.mono hj) J.env0 b (.cons rfl .nil) fun cdv rm => ?_) fun r s' hq' => ?_)
  · refine ⟨_, pss_one (ps_ret (pe_callB call_iterL (hgl _ rfl) (by show X.mg "iter" = none; rw [cn.hmg]; exact ic.free) (show bootBuiltins "iter" = some (.builtin "iter") from by kernel_rfl) (pa_cons (pe_fld (pe_var (i := 0) rfl ?_) rfl) pa_nil))), ?_⟩
    · exact (S.par "self" (List.Mem.head _)).elim (fun z => .inl z) (fun z => .inr (.inl z))
    · refine ⟨.ref a, rfl, a, C, dx, fs, .ref t, rfl, ha, cl, na, hf, t, zs, rfl, hq, fun it h1 h2 => ⟨it, rfl, h1, h2, rfl⟩⟩
  · match r, hq' with
    | .error e, hq' => exact (cx_call hq').elim
    | .ok .next, hq' => exact hq'.elim
    | .ok .brk, hq' => exact hq'.elim
    | .ok .cont, hq' => exact hq'.elim
    | .ok (.ret u), hq' =>
      obtain ⟨v, H', J2, rv, it, rfl, h1, h2, rfl⟩ := J.after hq'
      obtain rfl : u = Value.ref it := rv
      have eo : s'.heap.get? it = some (lstIt t) := (J2.hok it _ upd_same).1
      have st : s'.heap.IsListIter it t 0 := ⟨_, eo, rfl, rfl⟩
      have J3 := inv_drop J2 (a := it) (φ := fun h => h.get? it = some (lstIt t)) upd_same
      refine wpAny_specialOf (name := "__next__") st.typeIs slot_listiter_next.lookup ⟨it, [it], _, Itl X.K t, _, rfl, J3, turn_list t it, st, fun b hb => ?_, ?_⟩
      · obtain rfl : b = it := by simpa using hb
        exact inv_fp J2 upd_same (Nat.le_trans J.sz h2)
      · rw [dropH_upd h1]
        exact q
def itOwnL (c i : Nat) : D → Option (List D) := fun x => (fldD c i x).bind fun y => match y with
  | .lst l => some l
  | _ => none
def fItOL (c i : Nat) (f : En → M D) : En → M (List D) := fun ρ => (f ρ).bnd fun x => up1 (itOwnL c i x)
theorem itOwnL_eq {c i : Nat} {x : D} {l : List D} (h : itOwnL c i x = some l) : ∃ gs, x = .obj c gs ∧ gs[i]? = some (.lst l) := by
  unfold itOwnL fldD at h
  split at h
  · rename_i c' gs
    split at h
    · rename_i hcc
      subst hcc
      cases e : gs[i]? with
      | none => rw [e] at h; cases h
      | some y =>
        rw [e] at h
        cases y <;> first
          | (have e2 := Option.some.inj h
             subst e2
             exact ⟨gs, rfl, e⟩)
          | cases h
    · cases h
  · cases h
theorem ji_ownL {G : Gm} {k : Nat} {W : WX} {N : List Str} {sc : Scope} {tg e : Expr} {C : Addr} {m : Str} {ns : List Str} {c i : Nat} {f : En → M D} (gok : GOk G) (hct : G.ct c = some (C, ns)) (hc : c < 100) (hi : ns[i]? = some m) (ic : ItrC G C m) (hj : 1 ≤ k)
    (h : JE G k W N sc .peek e f) : JI G k W N sc tg e (fItOL c i f) := by
  obtain ⟨te, a1, a2⟩ := h
  refine ⟨iOwnL G.K C m te, fun X cn => by rw [← cn.hK]; exact pi_ownL cn ic hj (a1 X cn), fun Z F B H σ ρ s r hr R q => ?_⟩
  rcases bnd_some hr with ⟨x, ex, hr⟩ | ⟨x, ex, rfl⟩
  · refine a2 Z F B H σ ρ s _ ex _ fun F1 B1 H1 v1 u1 k1 => ?_
    obtain ⟨items, ei, rfl⟩ := up1_ok hr
    obtain ⟨gs, rfl, eg⟩ := itOwnL_eq ei
    obtain ⟨pa, rfl, C', ns', dx, vs, h1, h2, h3⟩ := k1
    rw [hct] at h1
    cases h1
    obtain ⟨v, e1, e2⟩ := h3.get eg
    obtain ⟨c1, c2, c3, c4⟩ := gok.cl c C ns hct hc
    obtain ⟨p, ws, rfl, g1, g2⟩ := (show Rep G F1 (.lst items) v from e2)
    have g3 := u1.fb _ _ g1
    exact ⟨pa, dx, _, p, ws, rfl, h2, c1, c2 m (List.mem_of_getElem? hi), zipF_at c3 hi e1, SqL.of (u1.bh _ _ g3), q F1 B1 H1 _ u1 (itr_list g3 g2)⟩
  · exact a2 Z F B H σ ρ s _ ex _ q
end DL
namespace DL
open PySem PySem.Spec L2
section
variable {G : Gm} {kd : Kd} {k : Nat} {W : WX} {N : List Str} {sc : Scope} {a b : Expr} {rest : List Expr} {fb : En → M D} {pos : Pos}
end
end DL
namespace DL
open PySem PySem.Spec L2
theorem fold_new {α β γ : Type} [DecidableEq β] (fa : α → β) (fb : α → γ) : ∀ (items : List α) (m : List (β × γ)), (items.map fa).Nodup → (∀ a ∈ items, fa a ∉ m.map (·.1)) → items.foldl (fun l a => aput l (fa a) (fb a)) m = m ++ items.map fun a => (fa a, fb a)
  | [], m, _, _ => by simp
  | a :: as, m, hn, h => by
    rw [List.map_cons, List.nodup_cons] at hn
    rw [List.foldl_cons, aput_new (h a List.mem_cons_self), fold_new fa fb as _ hn.2 fun b hb hm => ?_, List.append_assoc, List.map_cons]
    · rfl
    · rw [List.map_append, List.mem_append] at hm
      rcases hm with hm | hm
      · exact h b (List.mem_cons_of_mem _ hb) hm
      · have e : fa b = fa a := by simpa using hm
        exact hn.1 (List.mem_map.mpr ⟨b, hb, e⟩)
theorem dcS {α β : Type} [DecidableEq β] {encA : α → D} {enc : β → D} (K : KeyEnc enc) {h : D → En → Option En} {gc : En → M Bool} {fk fv : En → M D} {ρ : En} (fa : α → β) (items : List α) (hl : items.length ≤ 16000000) (hn : (items.map fa).Nodup)
    (H : ∀ a ∈ items, ∃ ρ1, h (encA a) ρ = some ρ1 ∧ gc ρ1 = some (.ok true) ∧ fk ρ1 = some (.ok (enc (fa a))) ∧ fv ρ1 = some (.ok (.bl true))) :
    dcG h gc fk fv ρ [] (items.map encA) = some ((items.map fa).map (setq enc)) := by
  have := dcG_enc (encA := encA) K (fun _ : Unit => D.bl true) (h := h) (gc := gc) (fk := fk) (fv := fv) (ρ := ρ) (fun _ => true) fa (fun _ => ()) items [] (by simpa using hl) fun a ha => by
    obtain ⟨ρ1, e1, e2, e3, e4⟩ := H a ha
    exact ⟨ρ1, e1, e2, fun _ => ⟨e3, e4⟩⟩
  rw [List.map_nil] at this
  rw [this, List.filter_eq_self.mpr (fun _ _ => rfl), fold_new fa _ items [] hn (by simp), set_as, List.nil_append, List.map_map, List.map_map, List.map_map]
  rfl
def oneR (M : List Int) (x : Int) : List Int := srt (M ++ [x])
def lotsR (M : List Int) : List (List Int) := (List.range M.length).map fun i => M.eraseIdx i
def shR (M : List Int) : List (List Int) := ((List.range M.length).reverse.filter fun i => !decide (M[i]? = M[i + 1]?)).map fun i => M.eraseIdx i
abbrev LedR := Cfg × Bool × Nat × List Cfg
def stepsR (rows : List (List Int)) (st : Int) : List (List Int × Nat) := rows.zipIdx.filter fun p => decide (p.1.getD 0 0 = st)
def ownL (rows : List (List Int)) (c : Cfg) : List LedR := ((stepsR rows c.1).filter fun p => decide (p.1.getD 1 0 ∈ c.2)).map fun p => ((p.1.getD 2 0, afterR c.2 p.1), true, p.2, [c])
def othL (rows : List (List Int)) (K : List Cfg) (c : Cfg) (x : Int) : List LedR :=
  if ((shR (oneR c.2 x)).all fun l => decide ((c.1, l) ∈ K)) = true then ((stepsR rows c.1).filter fun p => decide (p.1.getD 1 0 ∈ oneR c.2 x)).map fun p => ((p.1.getD 2 0, (oneR c.2 x).erase (p.1.getD 1 0)), false, p.2, (shR (oneR c.2 x)).map fun l => (c.1, l)) else []
def ledR (rows : List (List Int)) (Q : Nat) (K : List Cfg) (c : Cfg) : List LedR := ownL rows c ++ (ivl Q).flatMap (othL rows K c)
def otherB (rows : List (List Int)) (K : List Cfg) (c : Cfg) : List Cfg := (rows.filter fun r => decide (r.getD 0 0 = c.1) && (lotsR (oneR c.2 (r.getD 1 0))).all fun l => decide ((c.1, l) ∈ K)).map fun r => (r.getD 2 0, c.2)
def lackL (rows : List (List Int)) (K : List Cfg) : List Cfg := K.flatMap fun c => succsR rows c ++ otherB rows K c
theorem mem_succs {rows : List (List Int)} {c d : Cfg} : d ∈ succsR rows c ↔ ∃ r ∈ rows, selR c.1 c.2 r = true ∧ d = (r.getD 2 0, afterR c.2 r) := by
  unfold succsR
  rw [List.mem_map]
  constructor
  · rintro ⟨j, hj, rfl⟩
    obtain ⟨h1, h2⟩ := mem_ready.mp hj
    exact ⟨rows.getD j [], by rw [List.getD_eq_getElem?_getD, List.getElem?_eq_getElem h1]; exact List.getElem_mem h1, h2, rfl⟩
  · rintro ⟨r, hr, h2, rfl⟩
    obtain ⟨j, hj, e⟩ := List.getElem_of_mem hr
    have e2 : rows.getD j [] = r := by rw [List.getD_eq_getElem?_getD, List.getElem?_eq_getElem hj]; exact e
    exact ⟨j, mem_ready.mpr ⟨hj, by rw [e2]; exact h2⟩, by unfold nextR; rw [e2]⟩
theorem mem_other {rows : List (List Int)} {K : List Cfg} {c d : Cfg} : d ∈ otherB rows K c ↔ ∃ r ∈ rows, r.getD 0 0 = c.1 ∧ (∀ l ∈ lotsR (oneR c.2 (r.getD 1 0)), (c.1, l) ∈ K) ∧ d = (r.getD 2 0, c.2) := by
  unfold otherB
  rw [List.mem_map]
  constructor
  · rintro ⟨r, h, rfl⟩
    obtain ⟨h1, h2⟩ := List.mem_filter.mp h
    obtain ⟨h3, h4⟩ := Bool.and_eq_true_iff.mp h2
    rw [List.all_eq_true] at h4
    exact ⟨r, h1, of_decide_eq_true h3, fun l hl => of_decide_eq_true (h4 l hl), rfl⟩
  · rintro ⟨r, h1, h3, h4, rfl⟩
    exact ⟨r, List.mem_filter.mpr ⟨h1, Bool.and_eq_true_iff.mpr ⟨decide_eq_true h3, List.all_eq_true.mpr fun l hl => decide_eq_true (h4 l hl)⟩⟩, rfl⟩
theorem mem_lack {rows : List (List Int)} {K : List Cfg} {d : Cfg} : d ∈ lackL rows K ↔ ∃ c ∈ K, d ∈ succsR rows c ∨ d ∈ otherB rows K c := by
  unfold lackL
  rw [List.mem_flatMap]
  constructor
  · rintro ⟨c, hc, h⟩
    exact ⟨c, hc, List.mem_append.mp h⟩
  · rintro ⟨c, hc, h⟩
    exact ⟨c, hc, List.mem_append.mpr h⟩
theorem asc_nodup {l : List Cfg} (h : Asc cfgLt l) : l.Nodup := List.Pairwise.imp (fun {a b} hab e => by
  subst e
  rw [sto_cfg.irr] at hab
  cases hab) h
theorem sort_len_aux {α : Type} [DecidableEq α] {lt : α → α → Bool} : ∀ (l acc : List α), (l.foldl (insR lt) acc).length ≤ acc.length + l.length
  | [], acc => Nat.le_refl _
  | a :: l, acc => by
    have := sort_len_aux l (insR lt acc a) (lt := lt)
    have h2 : (insR lt acc a).length ≤ acc.length + 1 := by
      unfold insR
      have h3 : (acc.takeWhile fun y => lt y a).length + (acc.dropWhile fun y => lt y a).length = acc.length := by
        rw [← List.length_append, List.takeWhile_append_dropWhile]
      split <;> simp only [List.length_append, List.length_cons, List.length_nil] <;> omega
    rw [List.foldl_cons, List.length_cons]
    omega
theorem sort_len {α : Type} [DecidableEq α] {lt : α → α → Bool} (l : List α) : (sortR lt l).length ≤ l.length := by
  have := sort_len_aux (lt := lt) l []
  simpa [sortR] using this
def ntD (w : Int) (N : List Cfg) : D := .obj 3 [.int w, .lst (N.map encC), .dct (N.map (setq keyD))]
def setN (N : List Cfg) (st : Int) (Ms : List (List Int)) : List Cfg := (N.filter fun c => decide (c.1 < st)) ++ (sortR HT.lexLt Ms).map (fun M => (st, M)) ++ N.filter fun c => decide (c.1 > st)
theorem mem_setN {N : List Cfg} {st : Int} {Ms : List (List Int)} {c : Cfg} : c ∈ setN N st Ms ↔ (c ∈ N ∧ c.1 ≠ st) ∨ (c.1 = st ∧ c.2 ∈ Ms) := by
  unfold setN
  rw [List.mem_append, List.mem_append, List.mem_filter, List.mem_filter, List.mem_map, decide_eq_true_eq, decide_eq_true_eq]
  constructor
  · rintro ((h | ⟨M, hM, rfl⟩) | h)
    · exact .inl ⟨h.1, by omega⟩
    · exact .inr ⟨rfl, mem_sort.mp hM⟩
    · exact .inl ⟨h.1, by omega⟩
  · rintro (⟨h1, h2⟩ | ⟨rfl, h2⟩)
    · by_cases h : c.1 < st
      · exact .inl (.inl ⟨h1, h⟩)
      · exact .inr ⟨h1, by omega⟩
    · exact .inl (.inr ⟨c.2, mem_sort.mpr h2, rfl⟩)
theorem setN_asc {N : List Cfg} (h : Asc cfgLt N) (st : Int) (Ms : List (List Int)) : Asc cfgLt (setN N st Ms) := by
  have lt1 : ∀ {a b : Cfg}, a.1 < b.1 → cfgLt a b = true := fun {a b} hab => by
    unfold cfgLt pairLt
    rw [if_neg (by omega)]
    exact decide_eq_true hab
  unfold setN
  refine List.pairwise_append.mpr ⟨List.pairwise_append.mpr ⟨h.filter _, ?_, fun a ha b hb => ?_⟩, h.filter _, fun a ha b hb => ?_⟩
  · refine List.pairwise_map.mpr ((asc_sort sto_lex Ms).imp fun {a b} hab => ?_)
    unfold cfgLt pairLt
    rw [if_pos rfl]
    exact hab
  · obtain ⟨M, _, rfl⟩ := List.mem_map.mp hb
    exact lt1 (of_decide_eq_true (List.mem_filter.mp ha).2)
  · have hb := of_decide_eq_true (List.mem_filter.mp hb).2
    rcases List.mem_append.mp ha with ha | ha
    · have ha := of_decide_eq_true (List.mem_filter.mp ha).2
      exact lt1 (by omega)
    · obtain ⟨M, _, rfl⟩ := List.mem_map.mp ha
      exact lt1 hb
theorem setN_len (N : List Cfg) (st : Int) (Ms : List (List Int)) (h : Asc cfgLt N) : (setN N st Ms).length ≤ N.length + Ms.length := by
  unfold setN
  have e : ((N.filter fun c => decide (c.1 < st)) ++ (N.filter fun c => decide (c.1 > st))).length ≤ N.length := by
    rw [List.length_append]
    clear h
    induction N with
    | nil => simp
    | cons a N ih =>
      rw [List.filter_cons, List.filter_cons, List.length_cons]
      by_cases h1 : a.1 < st
      · rw [if_pos (decide_eq_true h1), if_neg (by simp; omega), List.length_cons]; omega
      · rw [if_neg (by simp; omega)]
        split
        · rw [List.length_cons]; omega
        · omega
  have := sort_len (lt := HT.lexLt) Ms
  rw [List.length_append] at e
  rw [List.length_append, List.length_append, List.length_map]
  omega
def addU {α : Type} [DecidableEq α] (F : List α) (c : α) : List α := if c ∈ F then F else F ++ [c]
theorem mem_addU {α : Type} [DecidableEq α] {F : List α} {c d : α} : d ∈ addU F c ↔ d ∈ F ∨ d = c := by
  unfold addU
  split
  · rename_i h
    exact ⟨.inl, fun h2 => h2.elim id fun e => e ▸ h⟩
  · rw [List.mem_append, List.mem_singleton]
theorem addU_nodup {α : Type} [DecidableEq α] {F : List α} (h : F.Nodup) (c : α) : (addU F c).Nodup := by
  unfold addU
  split
  · exact h
  · rename_i hn
    exact List.nodup_append.mpr ⟨h, by simp, fun x hx y hy e => by rw [List.mem_singleton.mp hy] at e; exact hn (e ▸ hx)⟩
end DL
namespace DL
open PySem PySem.Spec L2
section
variable {X : Cx} {o e : Expr} {es : List Expr} {to : TE} {t : TA} {name : Str} {apos cpos : Pos} {id : String} {r : V → List V → Hp → VK → Prop}
end
section
variable {G : Gm} {k : Nat} {W : WX} {N : List Str} {sc : Scope} {e : Expr} {f : En → M D} {pos : Pos}
end
section
variable {G : Gm} {k : Nat} {W : WX} {N : List Str} {sc : Scope} {e : Expr} {f : En → M D} {pos apos cpos : Pos}
end
end DL
namespace DL
open PySem PySem.Spec L2
def Lk (rows : List (List Int)) (P : Cfg → Prop) (d : Cfg) : Prop := ∃ c, P c ∧ (d ∈ succsR rows c ∨ ∃ r ∈ rows, r.getD 0 0 = c.1 ∧ (∀ l ∈ lotsR (oneR c.2 (r.getD 1 0)), P (c.1, l)) ∧ d = (r.getD 2 0, c.2))
theorem lk_mono {rows : List (List Int)} {P P' : Cfg → Prop} (h : ∀ c, P c → P' c) {d : Cfg} : Lk rows P d → Lk rows P' d := by
  rintro ⟨c, hc, h2⟩
  exact ⟨c, h c hc, h2.imp id fun ⟨r, hr, h3, h4, h5⟩ => ⟨r, hr, h3, fun l hl => h _ (h4 l hl), h5⟩⟩
theorem lk_lack {rows : List (List Int)} {K : List Cfg} {P : Cfg → Prop} (h : ∀ c, c ∈ K ↔ P c) (d : Cfg) : d ∈ lackL rows K ↔ Lk rows P d := by
  have e : d ∈ lackL rows K ↔ Lk rows (fun c => c ∈ K) d := by
    rw [mem_lack]
    exact ⟨fun ⟨c, hc, h2⟩ => ⟨c, hc, h2.imp id mem_other.mp⟩, fun ⟨c, hc, h2⟩ => ⟨c, hc, h2.imp id mem_other.mpr⟩⟩
  rw [e]
  exact ⟨lk_mono fun c hc => (h c).mp hc, lk_mono fun c hc => (h c).mpr hc⟩
def InK (rows : List (List Int)) (B : Cfg → Prop) : Nat → Cfg → Prop
  | 0, d => B d
  | n + 1, d => InK rows B n d ∨ Lk rows (InK rows B n) d
theorem inK_le {rows : List (List Int)} {B : Cfg → Prop} {n : Nat} {d : Cfg} (h : InK rows B n d) : ∀ {m}, n ≤ m → InK rows B m d := by
  intro m hm
  induction m with
  | zero => have : n = 0 := by omega
            subst this; exact h
  | succ m ih =>
    by_cases e : n = m + 1
    · subst e; exact h
    · exact .inl (ih (by omega))
def AtK (rows : List (List Int)) (B : Cfg → Prop) (n : Nat) (d : Cfg) : Prop := InK rows B n d ∧ ∀ m, m < n → ¬ InK rows B m d
theorem at_succ {rows : List (List Int)} {B : Cfg → Prop} {n : Nat} {d : Cfg} : AtK rows B (n + 1) d ↔ InK rows B (n + 1) d ∧ ¬ InK rows B n d :=
  ⟨fun h => ⟨h.1, h.2 n (by omega)⟩, fun h => ⟨h.1, fun m hm h2 => h.2 (inK_le h2 (by omega))⟩⟩
def Least (rows : List (List Int)) (B : Cfg → Prop) (d : Cfg) : Prop := ∃ n, InK rows B n d
theorem inK_stop {rows : List (List Int)} {B : Cfg → Prop} {n : Nat} (h : ∀ d, InK rows B (n + 1) d → InK rows B n d) {d : Cfg} (hl : Least rows B d) : InK rows B n d := by
  obtain ⟨m, hm⟩ := hl
  have key : ∀ k d, InK rows B (n + k) d → InK rows B n d := by
    intro k
    induction k with
    | zero => intro d h; exact h
    | succ k ih =>
      intro d hd
      rcases (show InK rows B (n + k) d ∨ Lk rows (InK rows B (n + k)) d from hd) with hd | hd
      · exact ih d hd
      · exact h d (.inr (lk_mono (fun c hc => ih c hc) hd))
  by_cases hmn : m ≤ n
  · exact inK_le hm hmn
  · exact key (m - n) d (by rw [show n + (m - n) = m by omega]; exact hm)
abbrev Rsn := Nat × Str × Option Nat × List Cfg
abbrev CRow := Cfg × Rsn
def rsnR (t : Nat) (q : LedR) : Rsn := (t, (if q.2.1 = true then "own" else "other" : Str), some q.2.2.1, q.2.2.2)
def addC (K : List Cfg) (t : Nat) (F : List CRow) (q : LedR) : List CRow := if q.1 ∈ K ∨ q.1 ∈ F.map (·.1) then F else F ++ [(q.1, rsnR t q)]
def nextC (rows : List (List Int)) (Q t : Nat) (R : List CRow) (fresh : List Cfg) : List CRow := (fresh.flatMap (ledR rows Q (R.map (·.1)))).foldl (addC (R.map (·.1)) t) []
inductive Clos (rows : List (List Int)) (Q : Nat) (c0 : Cfg) : Nat → List CRow → List Cfg → Prop
  | zero : Clos rows Q c0 0 [(c0, (0, "start", none, []))] [c0]
  | next {t : Nat} {R : List CRow} {fresh : List Cfg} : Clos rows Q c0 t R fresh → fresh ≠ [] → Clos rows Q c0 (t + 1) (R ++ nextC rows Q (t + 1) R fresh) ((nextC rows Q (t + 1) R fresh).map (·.1))
structure FInv (rows : List (List Int)) (B : Cfg → Prop) (t : Nat) (Kp : List (Cfg × Nat)) : Prop where
  nd : (Kp.map (·.1)).Nodup
  mem : ∀ d, d ∈ Kp.map (·.1) ↔ InK rows B t d
  at_ : ∀ q ∈ Kp, AtK rows B q.2 q.1
  len : t ≤ Kp.length
theorem FInv.next {rows : List (List Int)} {B : Cfg → Prop} {t : Nat} {Kp : List (Cfg × Nat)} (h : FInv rows B t Kp) {L : List Cfg} (hn : L.Nodup) (hL : ∀ d, d ∈ L ↔ d ∈ lackL rows (Kp.map (·.1)) ∧ d ∉ Kp.map (·.1)) (hne : L ≠ []) : FInv rows B (t + 1) (Kp ++ L.map fun d => (d, t + 1)) := by
  have e1 : (L.map fun d => (d, t + 1)).map (·.1) = L := by
    rw [List.map_map]
    exact List.map_id' L
  have lL : ∀ d, d ∈ L ↔ AtK rows B (t + 1) d := fun d => by
    rw [hL, at_succ, lk_lack h.mem, h.mem]
    exact ⟨fun h => ⟨.inr h.1, h.2⟩, fun h => ⟨(show InK rows B t d ∨ Lk rows (InK rows B t) d from h.1).resolve_left h.2, h.2⟩⟩
  refine ⟨?_, fun d => ?_, fun q hq => ?_, ?_⟩
  · rw [List.map_append, e1]
    exact List.nodup_append.mpr ⟨h.nd, hn, fun x hx y hy e => ((hL y).mp hy).2 (e ▸ hx)⟩
  · rw [List.map_append, e1, List.mem_append, lL, at_succ, h.mem]
    constructor
    · rintro (h | h)
      · exact .inl h
      · exact h.1
    · intro h
      by_cases h2 : InK rows B t d
      · exact .inl h2
      · exact .inr ⟨h, h2⟩
  · rcases List.mem_append.mp hq with hq | hq
    · exact h.at_ q hq
    · obtain ⟨d, hd, rfl⟩ := List.mem_map.mp hq
      exact (lL d).mp hd
  · have := h.len
    have : 0 < L.length := List.length_pos_iff.mpr hne
    rw [List.length_append, List.length_map]
    omega
theorem FInv.done {rows : List (List Int)} {B : Cfg → Prop} {t : Nat} {Kp : List (Cfg × Nat)} (h : FInv rows B t Kp) (hL : ∀ d, ¬ (d ∈ lackL rows (Kp.map (·.1)) ∧ d ∉ Kp.map (·.1))) (d : Cfg) : d ∈ Kp.map (·.1) ↔ Least rows B d := by
  constructor
  · intro hd
    exact ⟨t, (h.mem d).mp hd⟩
  · intro hd
    refine (h.mem d).mpr (inK_stop (fun d hd => ?_) hd)
    rcases (show InK rows B t d ∨ Lk rows (InK rows B t) d from hd) with hd | hd
    · exact hd
    · refine Classical.byContradiction fun hn => hL d ⟨(lk_lack h.mem d).mpr hd, fun h2 => hn ((h.mem d).mp h2)⟩
end DL
namespace DL
open PySem PySem.Spec L2
theorem count_erase_le (M : List Int) (o x : Int) : (M.erase o).count x = M.count x - if x = o then 1 else 0 := by
  by_cases h : x = o
  · subst h
    rw [if_pos rfl, List.count_erase_self]
  · rw [if_neg h, List.count_erase_of_ne h, Nat.sub_zero]
end DL
namespace DL
open PySem PySem.Spec L2
def D.isB : D → D → Option D
  | .bl a, .bl b => some (.bl (decide (a = b)))
  | _, _ => none
def D.isNotB : D → D → Option D
  | .bl a, .bl b => some (.bl (!decide (a = b)))
  | _, _ => none
section
variable {G : Gm} {kd : Kd} {k : Nat} {W : WX} {N : List Str} {sc : Scope} {a b : Expr} {fa fb : En → M D} {pos : Pos}
end
end DL
namespace DL
open PySem PySem.Spec L2
section
variable {G : Gm} {k : Nat} {W : WX} {N : List Str} {sc : Scope} {e : Expr} {f : En → M D} {pos apos cpos : Pos}
end
end DL
namespace DL
open PySem PySem.Spec L2
theorem after_ok {S Q n : Nat} {rows : List (List Int)} (hg : ∀ r ∈ rows, Good S Q r) {c : Cfg} (hc : OkC S Q n c) {r : List Int} (hr : r ∈ rows) (hs : selR c.1 c.2 r = true) : OkC S Q n (r.getD 2 0, afterR c.2 r) := next_ok hg hc (mem_succs.mpr ⟨r, hr, hs, rfl⟩)
theorem sub_same {a b : List Int} (ha : a.Pairwise (· ≤ ·)) (hb : b.Pairwise (· ≤ ·)) (h : ∀ x, a.count x ≤ b.count x) (hl : b.length ≤ a.length) : a = b := by
  have p := perm_counts a b h hl
  exact (srt_id ha).symm.trans ((srt_congr p).trans (srt_id hb))
end DL
namespace DL
open PySem PySem.Spec L2
def selB (st : Option (List Int)) (s : Int) : Bool := match st with
  | none => true
  | some l => decide (s ∈ l)
end DL
namespace DL
open PySem PySem.Spec L2
section
variable {prog : PySem.Program} {w : World} {A : Around} {E : Value → Shared → Prop} {s : Shared} {d : Addr} {xs : List (NestedKey × Addr × Value)}
end
section
variable {G : Gm} {kd : Kd} {k : Nat} {W : WX} {N : List Str} {sc : Scope} {e a b c o : Expr} {f fa fb fc : En → M D} {pos : Pos} {X : Cx}
end
end DL
namespace DL
open PySem PySem.Spec L2
section
variable {S Q w : Nat} {rows : List (List Int)} {s0 s1 : Int}
end
end DL
namespace DL
open PySem PySem.Spec L2
section
variable {X : Cx} {Ct : CXT} {k n : Nat} {f : Addr} {fd : FuncData} {ps : List Str} {nm : Str} {sp : Sp} {E : L2.St → XK} {x : Str} {p pos : Pos} {e : Expr} {es : List Expr} {kws : List Keyword} {t tk : TA}
end
section
variable {G : Gm} {k j : Nat} {W : WX} {N : List Str} {sc : Scope} {e ek : Expr} {es : List Expr} {fk : En → M D} {fs : En → M (List D)} {pos p kpos : Pos} {ad : Addr} {fd : FuncData} {ps : List Str} {ks : List PK} {Fn : List D → Option FOut} {x nm : Str}
end
theorem Dflt.int {G : Gm} {fd : FuncData} {ps : List Str} {i : Int} (h : ∃ ds, Vals [V.int i] ds ∧ Binds G.K fd ps ds) : Dflt G fd ps (.int i) := by
  obtain ⟨ds, h1, h2⟩ := h
  obtain ⟨w, rfl, r⟩ := vals1 h1
  exact ⟨.int i, w, h2, r, fun F H => rfl⟩
end DL
namespace DL
open PySem PySem.Spec L2
def BadK (rows : List (List Int)) (B : Cfg → Prop) : Nat → Cfg → Prop
  | 0, _ => False
  | n + 1, d => B d ∨ ∃ r ∈ rows, selR d.1 d.2 r = true ∧ BadK rows B n (r.getD 2 0, afterR d.2 r)
def Bad (rows : List (List Int)) (B : Cfg → Prop) (d : Cfg) : Prop := ∃ n, BadK rows B n d
theorem badK_step {rows : List (List Int)} {B : Cfg → Prop} : ∀ {n : Nat} {d : Cfg}, BadK rows B n d → BadK rows B (n + 1) d
  | 0, d, h => h.elim
  | n + 1, d, h => h.imp id fun ⟨r, hr, hs, h2⟩ => ⟨r, hr, hs, badK_step h2⟩
theorem bad_back {rows : List (List Int)} {B : Cfg → Prop} {d : Cfg} {r : List Int} (hr : r ∈ rows) (hs : selR d.1 d.2 r = true) (h : Bad rows B (r.getD 2 0, afterR d.2 r)) : Bad rows B d := by
  obtain ⟨n, hn⟩ := h
  exact ⟨n + 1, .inr ⟨r, hr, hs, hn⟩⟩
theorem bad_in {rows : List (List Int)} {B P : Cfg → Prop} {C : Cfg → Prop} (hC : ∀ d, C d → ∀ r ∈ rows, selR d.1 d.2 r = true → C (r.getD 2 0, afterR d.2 r)) (h0 : ∀ d, C d → B d → P d) (h1 : ∀ d, C d → ∀ r ∈ rows, selR d.1 d.2 r = true → P (r.getD 2 0, afterR d.2 r) → P d) : ∀ (n : Nat) (d : Cfg), C d → BadK rows B n d → P d
  | 0, d, _, h => h.elim
  | n + 1, d, hc, h => by
    rcases h with h | ⟨r, hr, hs, h⟩
    · exact h0 d hc h
    · exact h1 d hc r hr hs (bad_in hC h0 h1 n _ (hC d hc r hr hs) h)
structure TInv (S Q w : Nat) (rows : List (List Int)) (B : Cfg → Prop) (t : Nat) (T : List Cfg) : Prop where
  nd : T.Nodup
  mem : ∀ d, d ∈ T ↔ OkC S Q w d ∧ BadK rows B t d
  len : t ≤ T.length
def turnB (rows : List (List Int)) (b : Cfg → Bool) (T : List Cfg) (d : Cfg) : Bool := b d || rows.any fun r => selR d.1 d.2 r && decide ((r.getD 2 0, afterR d.2 r) ∈ T)
def freshB (S Q w : Nat) (rows : List (List Int)) (b : Cfg → Bool) (T : List Cfg) : List Cfg := (uniR S Q w).filter fun d => !decide (d ∈ T) && turnB rows b T d
section
variable {S Q w : Nat} {rows : List (List Int)} {b : Cfg → Bool}
theorem turn_iff {T : List Cfg} {d : Cfg} : turnB rows b T d = true ↔ b d = true ∨ ∃ r ∈ rows, selR d.1 d.2 r = true ∧ (r.getD 2 0, afterR d.2 r) ∈ T := by
  unfold turnB
  rw [Bool.or_eq_true, List.any_eq_true]
  refine or_congr Iff.rfl ⟨fun ⟨r, hr, h⟩ => ?_, fun ⟨r, hr, h1, h2⟩ => ⟨r, hr, by rw [h1, decide_eq_true h2]; rfl⟩⟩
  obtain ⟨h1, h2⟩ := Bool.and_eq_true_iff.mp h
  exact ⟨r, hr, h1, of_decide_eq_true h2⟩
theorem TInv.turn (hg : ∀ r ∈ rows, Good S Q r) {t : Nat} {T : List Cfg} (h : TInv S Q w rows (fun d => b d = true) t T) {d : Cfg} (hd : OkC S Q w d) : turnB rows b T d = true ↔ BadK rows (fun d => b d = true) (t + 1) d := by
  rw [turn_iff]
  refine or_congr Iff.rfl ⟨fun ⟨r, hr, h1, h2⟩ => ⟨r, hr, h1, ((h.mem _).mp h2).2⟩, fun ⟨r, hr, h1, h2⟩ => ⟨r, hr, h1, (h.mem _).mpr ⟨after_ok hg hd hr h1, h2⟩⟩⟩
theorem mem_fresh {T : List Cfg} {d : Cfg} : d ∈ freshB S Q w rows b T ↔ OkC S Q w d ∧ d ∉ T ∧ turnB rows b T d = true := by
  unfold freshB
  rw [List.mem_filter, mem_uni, Bool.and_eq_true_iff, Bool.not_eq_true', decide_eq_false_iff_not]
theorem fresh_nodup (T : List Cfg) : (freshB S Q w rows b T).Nodup := (asc_nodup (uni_asc S Q w)).filter _
theorem TInv.next (hg : ∀ r ∈ rows, Good S Q r) {t : Nat} {T : List Cfg} (h : TInv S Q w rows (fun d => b d = true) t T) (hne : freshB S Q w rows b T ≠ []) : TInv S Q w rows (fun d => b d = true) (t + 1) (T ++ freshB S Q w rows b T) := by
  refine ⟨?_, fun d => ?_, ?_⟩
  · rw [List.nodup_append]
    refine ⟨h.nd, fresh_nodup T, fun x hx y hy e => ?_⟩
    subst e
    exact (mem_fresh.mp hy).2.1 hx
  · rw [List.mem_append, mem_fresh]
    constructor
    · rintro (h2 | ⟨h1, h2, h3⟩)
      · have := (h.mem d).mp h2
        exact ⟨this.1, badK_step this.2⟩
      · exact ⟨h1, (h.turn hg h1).mp h3⟩
    · rintro ⟨h1, h2⟩
      by_cases hm : d ∈ T
      · exact .inl hm
      · exact .inr ⟨h1, hm, (h.turn hg h1).mpr h2⟩
  · rw [List.length_append]
    have := List.length_pos_iff.mpr hne
    have := h.len
    omega
theorem TInv.done (hg : ∀ r ∈ rows, Good S Q r) {t : Nat} {T : List Cfg} (h : TInv S Q w rows (fun d => b d = true) t T) (he : freshB S Q w rows b T = []) (d : Cfg) : d ∈ T ↔ OkC S Q w d ∧ Bad rows (fun d => b d = true) d := by
  have hno : ∀ d, OkC S Q w d → turnB rows b T d = true → d ∈ T := fun d hd ht => Classical.byContradiction fun hm => by
    have : d ∈ freshB S Q w rows b T := mem_fresh.mpr ⟨hd, hm, ht⟩
    rw [he] at this
    cases this
  constructor
  · intro hd
    have := (h.mem d).mp hd
    exact ⟨this.1, t, this.2⟩
  · rintro ⟨hk, n, hn⟩
    exact bad_in (C := OkC S Q w) (P := fun d => d ∈ T) (fun d hd r hr hs => after_ok hg hd hr hs) (fun d hd hb => hno d hd (turn_iff.mpr (.inl hb))) (fun d hd r hr hs hm => hno d hd (turn_iff.mpr (.inr ⟨r, hr, hs, hm⟩))) n d hk hn
def backR (x : Cfg) (r : List Int) : Cfg := (r.getD 0 0, srt (x.2.erase (r.getD 3 0) ++ [r.getD 1 0]))
def backB (x : Cfg) (r : List Int) : Bool := decide (r.getD 2 0 = x.1) && decide (r.getD 3 0 ∈ x.2)
theorem back_after {x : Cfg} {r : List Int} (hx : x.2.Pairwise (· ≤ ·)) (h : backB x r = true) : selR (backR x r).1 (backR x r).2 r = true ∧ (r.getD 2 0, afterR (backR x r).2 r) = x := by
  obtain ⟨h1, h2⟩ := Bool.and_eq_true_iff.mp h
  have h1 := of_decide_eq_true h1
  have h2 := of_decide_eq_true h2
  have hp := List.count_pos_iff.mpr h2
  have hm : r.getD 1 0 ∈ srt (x.2.erase (r.getD 3 0) ++ [r.getD 1 0]) := (srt_perm _).mem_iff.mpr (List.mem_append.mpr (.inr (by simp)))
  refine ⟨?_, Prod.ext h1 ?_⟩
  · unfold selR backR
    rw [decide_eq_true rfl, decide_eq_true hm]
    rfl
  · show srt ((srt (x.2.erase (r.getD 3 0) ++ [r.getD 1 0])).erase (r.getD 1 0) ++ [r.getD 3 0]) = x.2
    have e : srt ((srt (x.2.erase (r.getD 3 0) ++ [r.getD 1 0])).erase (r.getD 1 0) ++ [r.getD 3 0]) = srt x.2 := srt_cnt fun y => by
      rw [count_snoc, count_erase_le, srt_count, count_snoc, count_erase_le]
      by_cases a1 : y = r.getD 3 0
      · subst a1
        by_cases a2 : r.getD 3 0 = r.getD 1 0
        · rw [if_pos rfl, if_pos a2.symm, if_pos a2]; omega
        · rw [if_pos rfl, if_neg (Ne.symm a2), if_neg a2]; omega
      · by_cases a2 : y = r.getD 1 0
        · rw [if_neg a1, if_pos a2.symm, if_pos a2, if_neg (Ne.symm a1)]; omega
        · rw [if_neg a1, if_neg (Ne.symm a2), if_neg a2, if_neg (Ne.symm a1)]; omega
    rw [e, srt_id hx]
theorem after_back {d : Cfg} {r : List Int} (hd : d.2.Pairwise (· ≤ ·)) (h : selR d.1 d.2 r = true) : backB (r.getD 2 0, afterR d.2 r) r = true ∧ backR (r.getD 2 0, afterR d.2 r) r = d := by
  obtain ⟨h1, h2⟩ := Bool.and_eq_true_iff.mp h
  have h1 := of_decide_eq_true h1
  have h2 := of_decide_eq_true h2
  have hp := List.count_pos_iff.mpr h2
  have hm : r.getD 3 0 ∈ afterR d.2 r := by
    unfold afterR
    exact (srt_perm _).mem_iff.mpr (List.mem_append.mpr (.inr (by simp)))
  refine ⟨?_, Prod.ext h1 ?_⟩
  · unfold backB
    rw [decide_eq_true rfl, decide_eq_true hm]
    rfl
  · show srt ((srt (d.2.erase (r.getD 1 0) ++ [r.getD 3 0])).erase (r.getD 3 0) ++ [r.getD 1 0]) = d.2
    have e : srt ((srt (d.2.erase (r.getD 1 0) ++ [r.getD 3 0])).erase (r.getD 3 0) ++ [r.getD 1 0]) = srt d.2 := srt_cnt fun y => by
      rw [count_snoc, count_erase_le, srt_count, count_snoc, count_erase_le]
      by_cases a1 : y = r.getD 1 0
      · subst a1
        by_cases a2 : r.getD 1 0 = r.getD 3 0
        · rw [if_pos rfl, if_pos a2.symm, if_pos a2]; omega
        · rw [if_pos rfl, if_neg (Ne.symm a2), if_neg a2]; omega
      · by_cases a2 : y = r.getD 3 0
        · rw [if_neg a1, if_pos a2.symm, if_pos a2, if_neg (Ne.symm a1)]; omega
        · rw [if_neg a1, if_neg (Ne.symm a2), if_neg a2, if_neg (Ne.symm a1)]; omega
    rw [e, srt_id hd]
theorem back_ok (hg : ∀ r ∈ rows, Good S Q r) {x : Cfg} (hx : OkC S Q w x) {r : List Int} (hr : r ∈ rows) (h : backB x r = true) : OkC S Q w (backR x r) := by
  obtain ⟨a, o, t, m, er, g1, g2, g3, g4, g5, g6, g7, g8⟩ := (hg r hr).ex
  obtain ⟨_, h2⟩ := Bool.and_eq_true_iff.mp h
  have h2 := of_decide_eq_true h2
  have e0 : r.getD 0 0 = a := by rw [er]; rfl
  have e1 : r.getD 1 0 = o := by rw [er]; rfl
  refine ⟨by show 0 ≤ r.getD 0 0; omega, by show r.getD 0 0 < S; omega, ?_, fun y hy => ?_, srt_sorted _⟩
  · show (srt (x.2.erase (r.getD 3 0) ++ [r.getD 1 0])).length = w
    rw [srt_length, List.length_append, List.length_erase_of_mem h2, List.length_singleton, hx.row.len]
    have := List.length_pos_of_mem h2
    rw [hx.row.len] at this
    omega
  · have hy := (srt_perm _).mem_iff.mp hy
    rcases List.mem_append.mp hy with hy | hy
    · exact hx.row.mem y ((List.erase_sublist ..).subset hy)
    · rw [List.mem_singleton.mp hy, e1]
      exact mem_ivl.mpr ⟨g3, g4⟩
def addBk (x : Cfg) (R : List Cfg) (r : List Int) : List Cfg := if backB x r = true then addU R (backR x r) else R
structure BkI (S Q w : Nat) (rows : List (List Int)) (b : Cfg → Bool) (i : Nat) (R : List Cfg) : Prop where
  nd : R.Nodup
  ok : ∀ d ∈ R, OkC S Q w d
  bad : ∀ d ∈ R, Bad rows (fun d => b d = true) d
  ban : ∀ d, OkC S Q w d → b d = true → d ∈ R
  cl : ∀ j x, j < i → R[j]? = some x → ∀ r ∈ rows, backB x r = true → backR x r ∈ R
  le : i ≤ R.length
theorem addBk_pre (x : Cfg) (R : List Cfg) (r : List Int) : ∃ l, addBk x R r = R ++ l := by
  unfold addBk addU
  split
  · split
    · exact ⟨[], (List.append_nil R).symm⟩
    · exact ⟨_, rfl⟩
  · exact ⟨[], (List.append_nil R).symm⟩
theorem addBks_pre (x : Cfg) : ∀ (rs : List (List Int)) (R : List Cfg), ∃ l, rs.foldl (addBk x) R = R ++ l
  | [], R => ⟨[], (List.append_nil R).symm⟩
  | r :: rs, R => by
    obtain ⟨l, hl⟩ := addBk_pre x R r
    obtain ⟨l2, hl2⟩ := addBks_pre x rs (R ++ l)
    exact ⟨l ++ l2, by rw [List.foldl_cons, hl, hl2, List.append_assoc]⟩
theorem mem_addBks (x : Cfg) : ∀ (rs : List (List Int)) (R : List Cfg) (d : Cfg), d ∈ rs.foldl (addBk x) R ↔ d ∈ R ∨ ∃ r ∈ rs, backB x r = true ∧ d = backR x r
  | [], R, d => by simp
  | r :: rs, R, d => by
    rw [List.foldl_cons, mem_addBks x rs]
    unfold addBk
    constructor
    · rintro (h | ⟨r', h1, h2, h3⟩)
      · split at h
        · rename_i hb
          rcases mem_addU.mp h with h | h
          · exact .inl h
          · exact .inr ⟨r, List.mem_cons_self, hb, h⟩
        · exact .inl h
      · exact .inr ⟨r', List.mem_cons_of_mem _ h1, h2, h3⟩
    · rintro (h | ⟨r', h1, h2, h3⟩)
      · refine .inl ?_
        split
        · exact mem_addU.mpr (.inl h)
        · exact h
      · rcases List.mem_cons.mp h1 with rfl | h1
        · refine .inl ?_
          rw [if_pos h2]
          exact mem_addU.mpr (.inr h3)
        · exact .inr ⟨r', h1, h2, h3⟩
theorem addBks_nodup (x : Cfg) : ∀ (rs : List (List Int)) (R : List Cfg), R.Nodup → (rs.foldl (addBk x) R).Nodup
  | [], R, h => h
  | r :: rs, R, h => by
    rw [List.foldl_cons]
    refine addBks_nodup x rs _ ?_
    unfold addBk
    split
    · exact addU_nodup h _
    · exact h
theorem BkI.next (hg : ∀ r ∈ rows, Good S Q r) {i : Nat} {R : List Cfg} (h : BkI S Q w rows b i R) {x : Cfg} (hx : R[i]? = some x) : BkI S Q w rows b (i + 1) (rows.foldl (addBk x) R) := by
  have hxm := List.mem_of_getElem? hx
  have hxk := h.ok x hxm
  have mm := mem_addBks x rows R
  obtain ⟨l, hl⟩ := addBks_pre x rows R
  have hi : i < R.length := (List.getElem?_eq_some_iff.mp hx).1
  refine ⟨addBks_nodup x rows R h.nd, fun d hd => ?_, fun d hd => ?_, fun d hk hb => (mm d).mpr (.inl (h.ban d hk hb)), fun j y hj hy r hr hb => ?_, ?_⟩
  · rcases (mm d).mp hd with hd | ⟨r, hr, hb, rfl⟩
    · exact h.ok d hd
    · exact back_ok hg hxk hr hb
  · rcases (mm d).mp hd with hd | ⟨r, hr, hb, rfl⟩
    · exact h.bad d hd
    · obtain ⟨h1, h2⟩ := back_after hxk.row.asc hb
      exact bad_back hr h1 (by rw [h2]; exact h.bad x hxm)
  · have hjR : j < R.length := by omega
    have hy2 : R[j]? = some y := by rw [hl, List.getElem?_append_left hjR] at hy; exact hy
    by_cases e : j = i
    · subst e
      rw [hx] at hy2
      cases hy2
      exact (mm _).mpr (.inr ⟨r, hr, hb, rfl⟩)
    · exact (mm _).mpr (.inl (h.cl j y (by omega) hy2 r hr hb))
  · rw [hl, List.length_append]
    omega
theorem BkI.done (hg : ∀ r ∈ rows, Good S Q r) {R : List Cfg} (h : BkI S Q w rows b R.length R) (d : Cfg) : d ∈ R ↔ OkC S Q w d ∧ Bad rows (fun d => b d = true) d := by
  refine ⟨fun hd => ⟨h.ok d hd, h.bad d hd⟩, ?_⟩
  rintro ⟨hk, n, hn⟩
  refine bad_in (C := OkC S Q w) (P := fun d => d ∈ R) (fun d hd r hr hs => after_ok hg hd hr hs) (fun d hd hb => h.ban d hd hb) (fun d hd r hr hs hm => ?_) n d hk hn
  obtain ⟨h1, h2⟩ := after_back hd.row.asc hs
  obtain ⟨j, hj⟩ := List.getElem?_of_mem hm
  have := h.cl j _ (List.getElem?_eq_some_iff.mp hj).1 hj r hr h1
  rwa [h2] at this
end
end DL
namespace DL
open PySem PySem.Spec L2
section
variable {G : Gm} {kd : Kd} {k : Nat} {W : WX} {N : List Str} {sc : Scope} {pos : Pos} {fk fv : En → M D} {X : Cx}
end
end DL
namespace DL
open PySem PySem.Spec L2
section
variable {G : Gm} {k : Nat} {W : WX} {N : List Str} {sc : Scope} {e e2 : Expr} {f : En → M D} {pos apos cpos : Pos}
end
end DL
namespace DL
open PySem PySem.Spec L2
end DL
namespace DL
open PySem PySem.Spec L2 PyProof.Rows GenW
section
variable {M : Model} {A : Around} {R : GenEnd} {Y : Protocol} {n : Nat} {s₀ : Shared} {c : Code} {fs : List Frame} {s : Shared} {env : Env}
  {K : Flow → Sem PySem.Fin} {J : Value → Sem PySem.Fin} {gd : Bool → Bool} {lv : List Value → List Value}
end
section
variable {prog : Program} {w : World} {A : Around} {R : GenEnd} {Y : Protocol} {n : Nat} {s₀ : Shared} {fs : List Frame} {s : Shared} {env : Env}
end
end DL
namespace DL
open PySem PySem.Spec L2 PyProof.Rows GenW
def FSP (X : Cx) (ip : List (Addr × Obj)) (D : Ends) (f : Flow) (s : Shared) : Prop :=
  match f with
  | .next => ∃ σ H, Inv X ip σ H s ∧ D.nx σ H
  | .brk => ∃ σ H, Inv X ip σ H s ∧ D.bk σ H
  | .cont => ∃ σ H, Inv X ip σ H s ∧ D.ct σ H
  | .ret _ => False
structure FK (X : Cx) (ip : List (Addr × Obj)) (A : Around) (R : GenEnd) (Y : Protocol) (n : Nat) (s₀ : Shared) (c : Code) (fs : List Frame) (K : Flow → Sem PySem.Fin) (J : Value → Sem PySem.Fin) (D : Ends) : Prop where
  ok : ∀ (s : Shared) (f : Flow), FSP X ip D f s → Seg (model X.prog X.w) A R Y (n + 1) s₀ c (K f) fs s
  exc : ∀ (e : Value) (s : Shared), X.xe e s → Seg (model X.prog X.w) A R Y (n + 1) s₀ c (J e) fs s
  yl : ∀ (v : Value) (s : Shared) (kap : Resume → Shared → Prop) (x : V) (ip' : List (Addr × Obj)) (σ : L2.St) (H : Hp), RelV x v → Inv X ip' σ H s → x ≠ .non → D.rt x H → Y n s₀ v s kap
section
variable {X : Cx} {st : Stmt} {rest : List Stmt} {t u : TS}
end
end DL
namespace DL
open PySem PySem.Spec L2 PyProof.Rows GenW
section
variable {P : Program} {w : World} {K : PySem.W.Frag} {mg : Str → Option Value} {base : Heap} {N : List Str} {qual : Str} {scope : Scope} {f : Addr} {cd : Value} {A : Around} {outer : List Env} {s : Shared} {H : Hp} {E : XK} {pn : List (Addr × Obj)}
end
end DL
namespace DL
open PySem PySem.Spec L2 PyProof.Rows GenW
section
variable {X : Cx} {k : Nat} {f : Addr} {fd : FuncData} {ps : List Str} {sp : Sp} {x : Str} {p pos pos' : Pos} {e tg : Expr} {es : List Expr} {body : List Stmt} {t : TA} {g : TG} {tb : TS} {E : L2.St → XK}
end
end DL
namespace DL
open PySem PySem.Spec L2
section
variable {G : Gm} {k : Nat} {W : WX} {N : List Str} {sc : Scope} {e a b c : Expr} {f fa fb fc : En → M D} {ga gb : En → M Bool} {pos yp : Pos} {st : Stmt} {sts : List Stmt} {g h : SO}
end
section
variable {G : Gm} {k j : Nat} {W : WX} {N : List Str} {sc : Scope} {e tg : Expr} {es : List Expr} {fs : En → M (List D)} {pos pos' p : Pos} {ad : Addr} {fd : FuncData} {ps : List Str} {ks : List PK} {Fn : List D → Option FOut} {x : Str} {body : List Stmt} {g : SO} {is : List Nat} {h : D → En → Option En}
end
end DL
namespace DL
open PySem PySem.Spec L2
theorem lex_snoc : ∀ {a b : List Int} (x y : Int), a.length = b.length → HT.lexLt a b = true → HT.lexLt (a ++ [x]) (b ++ [y]) = true
  | [], [], x, y, _, h => by rw [sto_lex.irr] at h; cases h
  | [], b :: bs, x, y, hl, _ => by cases hl
  | a :: as, [], x, y, hl, _ => by cases hl
  | a :: as, b :: bs, x, y, hl, h => by
    rw [HT.lexLt_cons] at h
    rw [List.cons_append, List.cons_append, HT.lexLt_cons]
    by_cases e : a = b
    · rw [if_pos e] at h ⊢
      exact lex_snoc x y (by simpa using hl) h
    · rw [if_neg e] at h ⊢
      exact h
theorem lex_last : ∀ (a : List Int) {x y : Int}, x < y → HT.lexLt (a ++ [x]) (a ++ [y]) = true
  | [], x, y, h => by
    show HT.lexLt [x] [y] = true
    rw [HT.lexLt_cons, if_neg (by omega)]
    exact decide_eq_true h
  | a :: as, x, y, h => by
    rw [List.cons_append, List.cons_append, HT.lexLt_cons, if_pos rfl]
    exact lex_last as h
def SL (a b : List Int) : Prop := a.length < b.length ∨ (a.length = b.length ∧ HT.lexLt a b = true)
def SLE (a b : List Int) : Prop := a = b ∨ SL a b
theorem SL.trans {a b c : List Int} (h : SL a b) (h2 : SL b c) : SL a c := by
  rcases h with h | ⟨h, h'⟩ <;> rcases h2 with h2 | ⟨h2, h2'⟩
  · exact .inl (by omega)
  · exact .inl (by omega)
  · exact .inl (by omega)
  · exact .inr ⟨by omega, sto_lex.tr _ _ _ h' h2'⟩
theorem SL.irr {a : List Int} (h : SL a a) : False := by
  rcases h with h | ⟨_, h⟩
  · omega
  · rw [sto_lex.irr] at h; cases h
theorem SL.tri (a b : List Int) : SL a b ∨ a = b ∨ SL b a := by
  by_cases h1 : a.length < b.length
  · exact .inl (.inl h1)
  · by_cases h2 : b.length < a.length
    · exact .inr (.inr (.inl h2))
    · cases e1 : HT.lexLt a b with
      | true => exact .inl (.inr ⟨by omega, e1⟩)
      | false =>
        cases e2 : HT.lexLt b a with
        | true => exact .inr (.inr (.inr ⟨by omega, e2⟩))
        | false => exact .inr (.inl (sto_lex.tri a b e1 e2))
theorem SL.snoc {a b : List Int} (h : SL a b) (x y : Int) : SL (a ++ [x]) (b ++ [y]) := by
  rcases h with h | ⟨h, h'⟩
  · exact .inl (by rw [List.length_append, List.length_append, List.length_singleton, List.length_singleton]; omega)
  · exact .inr ⟨by rw [List.length_append, List.length_append, List.length_singleton, List.length_singleton]; omega, lex_snoc x y h h'⟩
theorem SL.last (a : List Int) {x y : Int} (h : x < y) : SL (a ++ [x]) (a ++ [y]) := .inr ⟨by rw [List.length_append, List.length_append]; rfl, lex_last a h⟩
theorem SL.nil (a : List Int) (x : Int) : SL [] (a ++ [x]) := .inl (by rw [List.length_append, List.length_singleton]; exact Nat.succ_pos _)
theorem SLE.snoc {a b : List Int} (h : SLE a b) (x : Int) : SLE (a ++ [x]) (b ++ [x]) := by
  rcases h with rfl | h
  · exact .inl rfl
  · exact .inr (h.snoc x x)
theorem SLE.trans {a b c : List Int} (h : SLE a b) (h2 : SLE b c) : SLE a c := by
  rcases h with rfl | h
  · exact h2
  · rcases h2 with rfl | h2
    · exact .inr h
    · exact .inr (h.trans h2)
inductive RunR (rows : List (List Int)) (c0 : Cfg) : List Int → Cfg → Prop
  | nil : RunR rows c0 [] c0
  | snoc {zs : List Int} {c : Cfg} {k : Nat} : RunR rows c0 zs c → k ∈ readyR rows c → RunR rows c0 (zs ++ [(k : Int)]) (nextR rows c k)
theorem Reach.run {rows : List (List Int)} {c0 c : Cfg} (h : Reach rows c0 c) : ∃ zs, RunR rows c0 zs c := by
  induction h with
  | start => exact ⟨[], .nil⟩
  | step _ hd ih =>
    obtain ⟨zs, ih⟩ := ih
    obtain ⟨k, hk, rfl⟩ := List.mem_map.mp hd
    exact ⟨_, ih.snoc hk⟩
abbrev ZRow := XRow × List Int
structure PZ (rows : List (List Int)) (c0 : Cfg) (i : Nat) (Z : List ZRow) : Prop where
  sorted : Z.Pairwise fun a b => SL a.2 b.2
  par : ∀ (q : Nat) (a : ZRow), Z[q]? = some a → (a.1.2 = none ∧ a.2 = []) ∨ ∃ (p k : Nat) (b : ZRow), a.1.2 = some (p, k) ∧ p < q ∧ Z[p]? = some b ∧ a.2 = b.2 ++ [(k : Int)]
  run : ∀ a ∈ Z, RunR rows c0 a.2 a.1.1
  cl : ∀ (j : Nat) (a : ZRow), j < i → Z[j]? = some a → ∀ k ∈ readyR rows a.1.1, ∃ b ∈ Z, b.1.1 = nextR rows a.1.1 k ∧ SLE b.2 (a.2 ++ [(k : Int)])
  up : ∀ b ∈ Z, b.2 = [] ∨ ∃ (p : Nat) (a : ZRow) (k : Nat), p < i ∧ Z[p]? = some a ∧ b.2 = a.2 ++ [((k : Nat) : Int)]
  st : ∃ b ∈ Z, b.1.1 = c0 ∧ b.2 = []
structure InI (rows : List (List Int)) (c0 : Cfg) (i : Nat) (Z : List ZRow) (a0 : ZRow) (done : List Nat) (Z1 : List ZRow) : Prop where
  pre : Z <+: Z1
  sorted : Z1.Pairwise fun a b => SL a.2 b.2
  par : ∀ (q : Nat) (a : ZRow), Z1[q]? = some a → (a.1.2 = none ∧ a.2 = []) ∨ ∃ (p k : Nat) (b : ZRow), a.1.2 = some (p, k) ∧ p < q ∧ Z1[p]? = some b ∧ a.2 = b.2 ++ [(k : Int)]
  run : ∀ a ∈ Z1, RunR rows c0 a.2 a.1.1
  cl : ∀ k ∈ done, ∃ b ∈ Z1, b.1.1 = nextR rows a0.1.1 k ∧ SLE b.2 (a0.2 ++ [(k : Int)])
  up : ∀ b ∈ Z1, b.2 = [] ∨ (∃ (p : Nat) (a : ZRow) (k : Nat), p < i ∧ Z[p]? = some a ∧ b.2 = a.2 ++ [((k : Nat) : Int)]) ∨ ∃ k ∈ done, b.2 = a0.2 ++ [(k : Int)]
theorem inI_next {rows : List (List Int)} {c0 : Cfg} {i : Nat} {Z : List ZRow} {a0 : ZRow} (hP : Z.Pairwise fun a b => SL a.2 b.2) (ha : Z[i]? = some a0) : ∀ (ks done : List Nat) (Z1 : List ZRow), InI rows c0 i Z a0 done Z1 → (done ++ ks).Pairwise (· < ·) → (∀ k ∈ ks, k ∈ readyR rows a0.1.1) →
    ∃ Z2, Z2.map (·.1) = (ks.map fun k => (k, nextR rows a0.1.1 k)).foldl (addMv i) (Z1.map (·.1)) ∧ InI rows c0 i Z a0 (done ++ ks) Z2
  | [], done, Z1, h, _, _ => ⟨Z1, rfl, by rw [List.append_nil]; exact h⟩
  | k :: ks, done, Z1, h, hs, hr => by
    have hpre := h.pre
    have hlt : ∀ b ∈ Z1, SL b.2 (a0.2 ++ [(k : Int)]) := fun b hb => by
      rcases h.up b hb with e | ⟨p, a, k', hp, hpa, e⟩ | ⟨k', hk', e⟩
      · rw [e]; exact SL.nil _ _
      · rw [e]
        refine SL.snoc ?_ _ _
        obtain ⟨h1, e1⟩ := List.getElem?_eq_some_iff.mp hpa
        obtain ⟨h2, e2⟩ := List.getElem?_eq_some_iff.mp ha
        have := List.pairwise_iff_getElem.mp hP p i h1 h2 hp
        rw [e1, e2] at this
        exact this
      · rw [e]
        refine SL.last _ ?_
        have := (List.pairwise_append.mp hs).2.2 k' hk' k List.mem_cons_self
        omega
    have hs2 : ((done ++ [k]) ++ ks).Pairwise (· < ·) := by rw [List.append_assoc]; exact hs
    have haZ1 : Z1[i]? = some a0 := by
      obtain ⟨T, hT⟩ := hpre
      obtain ⟨h2, _⟩ := List.getElem?_eq_some_iff.mp ha
      rw [← hT, List.getElem?_append_left h2]
      exact ha
    have ma : a0 ∈ Z1 := List.mem_of_getElem? haZ1
    have hil : i < Z1.length := (List.getElem?_eq_some_iff.mp haZ1).1
    rw [List.map_cons, List.foldl_cons]
    by_cases hd : nextR rows a0.1.1 k ∈ (Z1.map (·.1)).map (·.1)
    · have e1 : addMv i (Z1.map (·.1)) (k, nextR rows a0.1.1 k) = Z1.map (·.1) := by
        unfold addMv
        rw [if_pos hd]
      have h' : InI rows c0 i Z a0 (done ++ [k]) Z1 := by
        refine ⟨h.pre, h.sorted, h.par, h.run, fun k' hk' => ?_, fun b hb => ?_⟩
        · rcases List.mem_append.mp hk' with hk' | hk'
          · exact h.cl k' hk'
          · rw [List.mem_singleton.mp hk']
            obtain ⟨x, hx, ex⟩ := List.mem_map.mp hd
            obtain ⟨b, hb, rfl⟩ := List.mem_map.mp hx
            exact ⟨b, hb, ex, .inr (hlt b hb)⟩
        · rcases h.up b hb with e | e | ⟨k', hk', e⟩
          · exact .inl e
          · exact .inr (.inl e)
          · exact .inr (.inr ⟨k', List.mem_append_left _ hk', e⟩)
      obtain ⟨Z2, e2, i2⟩ := inI_next hP ha ks (done ++ [k]) Z1 h' hs2 fun k' hk' => hr k' (List.mem_cons_of_mem _ hk')
      exact ⟨Z2, by rw [e1]; exact e2, by rw [List.append_assoc] at i2; exact i2⟩
    · obtain ⟨b0, hb0⟩ : ∃ b : ZRow, b = ((nextR rows a0.1.1 k, some (i, k)), a0.2 ++ [(k : Int)]) := ⟨_, rfl⟩
      have e1 : addMv i (Z1.map (·.1)) (k, nextR rows a0.1.1 k) = (Z1 ++ [b0]).map (·.1) := by
        unfold addMv
        rw [if_neg hd, List.map_append, hb0]
        rfl
      have h' : InI rows c0 i Z a0 (done ++ [k]) (Z1 ++ [b0]) := by
        refine ⟨h.pre.trans (List.prefix_append _ _), List.pairwise_append.mpr ⟨h.sorted, List.pairwise_singleton _ _, fun a ha b hb => ?_⟩, fun q a hq => ?_, fun a ha => ?_, fun k' hk' => ?_, fun b hb => ?_⟩
        · rw [List.mem_singleton.mp hb, hb0]
          exact hlt a ha
        · by_cases hql : q < Z1.length
          · rw [List.getElem?_append_left hql] at hq
            rcases h.par q a hq with e | ⟨p, k', b, e1, e2, e3, e4⟩
            · exact .inl e
            · exact .inr ⟨p, k', b, e1, e2, by rw [List.getElem?_append_left (by omega)]; exact e3, e4⟩
          · rw [List.getElem?_append_right (by omega)] at hq
            obtain ⟨h2, e2⟩ := List.getElem?_eq_some_iff.mp hq
            rw [List.length_singleton] at h2
            have e0 : q - Z1.length = 0 := by omega
            rw [e0] at hq
            have e : a = b0 := (Option.some.inj hq).symm
            rw [e, hb0]
            exact .inr ⟨i, k, a0, rfl, by omega, by rw [List.getElem?_append_left hil]; exact haZ1, rfl⟩
        · rcases List.mem_append.mp ha with ha | ha
          · exact h.run a ha
          · rw [List.mem_singleton.mp ha, hb0]
            exact (h.run a0 ma).snoc (hr k List.mem_cons_self)
        · rcases List.mem_append.mp hk' with hk' | hk'
          · obtain ⟨b, hb, e⟩ := h.cl k' hk'
            exact ⟨b, List.mem_append_left _ hb, e⟩
          · rw [List.mem_singleton.mp hk']
            exact ⟨b0, List.mem_append_right _ (List.mem_singleton.mpr rfl), by rw [hb0], .inl (by rw [hb0])⟩
        · rcases List.mem_append.mp hb with hb | hb
          · rcases h.up b hb with e | e | ⟨k', hk', e⟩
            · exact .inl e
            · exact .inr (.inl e)
            · exact .inr (.inr ⟨k', List.mem_append_left _ hk', e⟩)
          · rw [List.mem_singleton.mp hb, hb0]
            exact .inr (.inr ⟨k, List.mem_append_right _ (List.mem_singleton.mpr rfl), rfl⟩)
      obtain ⟨Z2, e2, i2⟩ := inI_next hP ha ks (done ++ [k]) (Z1 ++ [b0]) h' hs2 fun k' hk' => hr k' (List.mem_cons_of_mem _ hk')
      exact ⟨Z2, by rw [e1]; exact e2, by rw [List.append_assoc] at i2; exact i2⟩
theorem PZ.next {rows : List (List Int)} {c0 : Cfg} {i : Nat} {Z : List ZRow} (h : PZ rows c0 i Z) {a0 : ZRow} (ha : Z[i]? = some a0) : ∃ Z2, Z2.map (·.1) = expandR rows i (Z.map (·.1)) a0.1.1 ∧ PZ rows c0 (i + 1) Z2 := by
  have i0 : InI rows c0 i Z a0 [] Z := ⟨List.prefix_refl _, h.sorted, h.par, h.run, fun k hk => (by cases hk), fun b hb => (h.up b hb).imp id .inl⟩
  have hs : (([] : List Nat) ++ readyR rows a0.1.1).Pairwise (· < ·) := by
    rw [List.nil_append]
    exact List.pairwise_lt_range.sublist List.filter_sublist
  obtain ⟨Z2, e2, i2⟩ := inI_next h.sorted ha (readyR rows a0.1.1) [] Z i0 hs fun k hk => hk
  rw [List.nil_append] at i2
  have hil : i < Z.length := (List.getElem?_eq_some_iff.mp ha).1
  have at2 : ∀ {q : Nat} {a : ZRow}, q < Z.length → (Z2[q]? = some a ↔ Z[q]? = some a) := fun {q a} hq => by
    obtain ⟨T, hT⟩ := i2.pre
    rw [← hT, List.getElem?_append_left hq]
  refine ⟨Z2, e2, i2.sorted, i2.par, i2.run, fun j a hj hja k hk => ?_, fun b hb => ?_, ?_⟩
  · have hj2 : Z[j]? = some a := (at2 (by omega)).mp hja
    by_cases e : j = i
    · subst e
      rw [ha] at hj2
      cases hj2
      exact i2.cl k hk
    · obtain ⟨b, hb, e3⟩ := h.cl j a (by omega) hj2 k hk
      exact ⟨b, i2.pre.subset hb, e3⟩
  · rcases i2.up b hb with e | ⟨p, a, k, hp, hpa, e⟩ | ⟨k, hk, e⟩
    · exact .inl e
    · exact .inr ⟨p, a, k, by omega, (at2 (by omega)).mpr hpa, e⟩
    · exact .inr ⟨i, a0, k, by omega, (at2 hil).mpr ha, e⟩
  · obtain ⟨b, hb, e⟩ := h.st
    exact ⟨b, i2.pre.subset hb, e⟩
end DL
namespace DL
open PySem PySem.Spec L2
def Sup (X : List Int) (c c' : Cfg) : Prop := c'.1 = c.1 ∧ c'.2.Perm (c.2 ++ X)
theorem Sup.next {rows : List (List Int)} {X : List Int} {c c' : Cfg} (h : Sup X c c') {k : Nat} (hk : k ∈ readyR rows c) : k ∈ readyR rows c' ∧ Sup X (nextR rows c k) (nextR rows c' k) := by
  obtain ⟨h1, h2⟩ := h
  obtain ⟨hl, hs⟩ := mem_ready.mp hk
  unfold selR at hs
  obtain ⟨a1, a2⟩ := Bool.and_eq_true_iff.mp hs
  have a1 := of_decide_eq_true a1
  have a2 := of_decide_eq_true a2
  have m' : (rows.getD k []).getD 1 0 ∈ c'.2 := h2.mem_iff.mpr (List.mem_append_left _ a2)
  refine ⟨mem_ready.mpr ⟨hl, ?_⟩, rfl, ?_⟩
  · unfold selR
    rw [h1, decide_eq_true a1, decide_eq_true m']
    rfl
  · show (afterR c'.2 (rows.getD k [])).Perm (afterR c.2 (rows.getD k []) ++ X)
    unfold afterR
    refine (srt_perm _).trans ?_
    have p1 : (c'.2.erase ((rows.getD k []).getD 1 0)).Perm (c.2.erase ((rows.getD k []).getD 1 0) ++ X) := by
      have := h2.erase ((rows.getD k []).getD 1 0)
      rw [List.erase_append_left _ a2] at this
      exact this
    refine (p1.append_right _).trans ?_
    refine List.Perm.trans ?_ ((srt_perm _).symm.append_right X)
    rw [List.append_assoc, List.append_assoc]
    exact List.Perm.append_left _ List.perm_append_comm
theorem Sup.run {rows : List (List Int)} {X : List Int} {c0 c0' : Cfg} (h : Sup X c0 c0') {zs : List Int} {c : Cfg} (hr : RunR rows c0 zs c) : ∃ c', RunR rows c0' zs c' ∧ Sup X c c' := by
  induction hr with
  | nil => exact ⟨c0', .nil, h⟩
  | snoc _ hk ih =>
    obtain ⟨c', r', s'⟩ := ih
    obtain ⟨k', s2⟩ := s'.next hk
    exact ⟨_, r'.snoc k', s2⟩
theorem Sup.start (s0 s1 : Int) (n j : Nat) : Sup (List.replicate j s1) (s0, List.replicate n s1) (s0, List.replicate (n + j) s1) := ⟨rfl, by
  show (List.replicate (n + j) s1).Perm (List.replicate n s1 ++ List.replicate j s1)
  rw [List.replicate_append_replicate]⟩
theorem RunR.len {rows : List (List Int)} {c0 : Cfg} {zs : List Int} {c : Cfg} (h : RunR rows c0 zs c) : ∀ z ∈ zs, 0 ≤ z := by
  induction h with
  | nil => intro z hz; cases hz
  | snoc _ _ ih =>
    intro z hz
    rcases List.mem_append.mp hz with hz | hz
    · exact ih z hz
    · rw [List.mem_singleton.mp hz]; omega
theorem Sup.sub {X m : List Int} {c c' : Cfg} (h : Sup X c c') (hm : subE m c.2 = true) : subE m c'.2 = true := by
  rw [subE_iff] at hm ⊢
  intro x
  have := hm x
  rw [h.2.count_eq x, List.count_append]
  omega
end DL
namespace DL
open PySem PySem.Spec L2 PyProof.Rows
section
variable {G : Gm} {kd : Kd} {k : Nat} {W : WX} {N : List Str} {sc : Scope} {a b : Expr} {fa fb : En → M D} {pos : Pos}
end
end DL
namespace DL
open PySem PySem.Spec L2
end DL
namespace DL
open PySem PySem.Spec L2
theorem Sup.ban {m : List Int} {st : Option (List Int)} {X : List Int} {c c' : Cfg} (h : Sup X c c') (h1 : (selB st c.1 && subE m c.2) = true) : (selB st c'.1 && subE m c'.2) = true := by
  obtain ⟨b1, b2⟩ := Bool.and_eq_true_iff.mp h1
  rw [h.1, b1, h.sub b2]
  rfl
theorem RunR.nil_eq {rows : List (List Int)} {c0 c : Cfg} : ∀ {zs : List Int}, RunR rows c0 zs c → zs = [] → c = c0 := by
  intro zs h
  cases h with
  | nil => exact fun _ => rfl
  | snoc _ _ => intro e; simp at e
theorem RunR.head {rows : List (List Int)} {c0 c : Cfg} {zs : List Int} (h : RunR rows c0 zs c) : ∀ z rest, zs = z :: rest → ∃ k : Nat, z = (k : Int) ∧ k ∈ readyR rows c0 ∧ RunR rows (nextR rows c0 k) rest c := by
  induction h with
  | nil => intro z rest e; cases e
  | @snoc zs c' k h2 hk ih =>
    intro z rest e
    cases hz : zs with
    | nil =>
      rw [hz] at e
      obtain ⟨e1, e2⟩ := List.cons.inj e
      have := h2.nil_eq hz
      subst this
      rw [← e2]
      exact ⟨k, e1.symm, hk, .nil⟩
    | cons z' r' =>
      rw [hz] at e
      obtain ⟨e1, e2⟩ := List.cons.inj e
      obtain ⟨k0, a1, a2, a3⟩ := ih z' r' hz
      rw [← e1, ← e2]
      exact ⟨k0, a1, a2, a3.snoc hk⟩
end DL
namespace DL
open PySem PySem.Spec L2
section
variable {G : Gm} {k : Nat} {W : WX} {N : List Str} {sc : Scope} {kd : Kd} {a b e : Expr} {fa fb f : En → M D} {pos : Pos}
end
end DL
namespace DL
open PySem PySem.Spec L2
section
variable {rows ex : List (List Int)}
end
end DL
namespace DL
open PySem PySem.Spec L2
section
variable {S Q k : Nat} {rows : List (List Int)} {m : List Int} {st : Option (List Int)} {T : Nat → List Cfg}
end
section
variable {S Q k K : Nat} {rows : List (List Int)} {m : List Int} {st : Option (List Int)} {T : Nat → List Cfg} {s0 s1 : Int}
end
end DL
namespace DL
open PySem PySem.Spec L2
def rs : Nat → Str
  | 0 => "own"
  | 1 => "other"
  | 2 => "start"
  | 3 => "Own"
  | 4 => ""
  | _ => "Start"
end DL
namespace DL
open PySem PySem.Spec PySem.Sem
section
variable {prog : Program} {w : World} {A : Around} {E : Value → Shared → Prop} {s : Shared} {o : Obj} {es : Array DictEntry} {ep : Nat}
end
end DL
namespace DL
open PySem PySem.Spec L2
section
variable {G : Gm} {k : Nat} {W : WX} {N : List Str} {sc : Scope} {kd : Kd} {e : Expr} {f : En → M D} {pos : Pos}
end
end DL
namespace DL
open PySem PySem.Spec L2
theorem RepL.dropLast {G : Gm} {F : Hp} {l : List D} {xs : List V} (h : RepL G F l xs) : RepL G F l.dropLast xs.dropLast := by
  rw [List.dropLast_eq_take, List.dropLast_eq_take, h.length]
  exact h.take _
section
variable {G : Gm} {k : Nat} {W : WX} {N : List Str} {sc : Scope} {pos apos cpos : Pos}
end
end DL
namespace DL
open PySem PySem.Spec L2
open PySem.W in
theorem erase_oneR {W : List Int} (hW : W.Pairwise (· ≤ ·)) {x : Int} (hx : x ∈ W) : oneR (W.erase x) x = W := by
  have p : W.Perm (W.erase x ++ [x]) := (List.perm_cons_erase hx).trans (List.perm_append_comm (l₁ := [x]) (l₂ := W.erase x))
  exact (srt_eq p hW).symm
structure Why (rows : List (List Int)) (c0 : Cfg) (R : List CRow) (q : CRow) : Prop where
  pre : ∀ p ∈ q.2.2.2.2, ∃ z ∈ R, z.1 = p ∧ z.2.1 < q.2.1
  by_ : q = ((c0, ((0 : Nat), ("start" : Str), (none : Option Nat), ([] : List Cfg))) : CRow) ∨ (∃ (j : Nat) (row : List Int) (c : Cfg), rows[j]? = some row ∧ row.getD 0 0 = c.1 ∧ row.getD 1 0 ∈ c.2 ∧ q.1 = (row.getD 2 0, afterR c.2 row) ∧ q.2.2 = ((("own" : Str), some j, [c]) : Str × Option Nat × List Cfg)) ∨
    (∃ (j : Nat) (row : List Int), rows[j]? = some row ∧ q.1.1 = row.getD 2 0 ∧ q.2.2 = (("other" : Str), some j, ((shR (oneR q.1.2 (row.getD 1 0))).map fun l => (row.getD 0 0, l) : List Cfg)))
theorem Why.mono {rows : List (List Int)} {c0 : Cfg} {R R' : List CRow} {q : CRow} (h : Why rows c0 R q) (hs : ∀ z ∈ R, z ∈ R') : Why rows c0 R' q :=
  ⟨fun p hp => by
    obtain ⟨z, h1, h2⟩ := h.pre p hp
    exact ⟨z, hs z h1, h2⟩, h.by_⟩
theorem addCs_of (K : List Cfg) (t : Nat) : ∀ (qs : List LedR) (F : List CRow) (q : CRow), q ∈ qs.foldl (addC K t) F → q ∈ F ∨ ∃ p ∈ qs, q = (p.1, rsnR t p)
  | [], F, q, h => .inl h
  | p :: qs, F, q, h => by
    rw [List.foldl_cons] at h
    rcases addCs_of K t qs _ q h with h | ⟨p', h1, h2⟩
    · unfold addC at h
      split at h
      · exact .inl h
      · rcases List.mem_append.mp h with h | h
        · exact .inl h
        · exact .inr ⟨p, List.mem_cons_self, List.mem_singleton.mp h⟩
    · exact .inr ⟨p', List.mem_cons_of_mem _ h1, h2⟩
theorem mem_stepsR {rows : List (List Int)} {st : Int} {p : List Int × Nat} (h : p ∈ stepsR rows st) : rows[p.2]? = some p.1 ∧ p.1.getD 0 0 = st := by
  unfold stepsR at h
  obtain ⟨h1, h2⟩ := List.mem_filter.mp h
  exact ⟨List.mem_zipIdx_iff_getElem?.mp h1, of_decide_eq_true h2⟩
theorem Clos.why {rows : List (List Int)} {Q : Nat} {c0 : Cfg} {t : Nat} {R : List CRow} {fresh : List Cfg} (h : Clos rows Q c0 t R fresh) : (∀ c ∈ fresh, c ∈ R.map (·.1)) ∧ ∀ q ∈ R, Why rows c0 R q ∧ q.2.1 ≤ t := by
  induction h with
  | zero =>
    refine ⟨fun c hc => hc, fun q hq => ?_⟩
    rw [List.mem_singleton.mp hq]
    exact ⟨⟨fun p hp => (by cases hp), .inl rfl⟩, Nat.le_refl _⟩
  | @next t R fresh hc hne ih =>
    obtain ⟨i1, i2⟩ := ih
    refine ⟨fun c hc => ?_, fun q hq => ?_⟩
    · rw [List.map_append]
      exact List.mem_append.mpr (.inr hc)
    · rcases List.mem_append.mp hq with hq | hq
      · obtain ⟨a, b⟩ := i2 q hq
        exact ⟨a.mono fun z hz => List.mem_append.mpr (.inl hz), by omega⟩
      · unfold nextC at hq
        rcases addCs_of _ _ _ _ _ hq with hq | ⟨p, hp, rfl⟩
        · cases hq
        · have pm : ∀ d, d ∈ R.map (·.1) → ∃ z ∈ R ++ nextC rows Q (t + 1) R fresh, z.1 = d ∧ z.2.1 < t + 1 := fun d hd => by
            obtain ⟨z, hz, rfl⟩ := List.mem_map.mp hd
            have := (i2 z hz).2
            exact ⟨z, List.mem_append.mpr (.inl hz), rfl, by omega⟩
          obtain ⟨c, hcf, hp⟩ := List.mem_flatMap.mp hp
          refine ⟨?_, Nat.le_refl _⟩
          unfold ledR at hp
          rcases List.mem_append.mp hp with hp | hp
          · unfold ownL at hp
            obtain ⟨⟨row, j⟩, hs, rfl⟩ := List.mem_map.mp hp
            obtain ⟨h1, h2⟩ := List.mem_filter.mp hs
            obtain ⟨h3, h4⟩ := mem_stepsR h1
            refine ⟨fun d hd => ?_, .inr (.inl ⟨j, row, c, h3, h4, of_decide_eq_true h2, rfl, rfl⟩)⟩
            have hd : d = c := by simpa [rsnR] using hd
            exact pm d (hd ▸ i1 c hcf)
          · obtain ⟨x, hx, hp⟩ := List.mem_flatMap.mp hp
            unfold othL at hp
            split at hp
            · rename_i hall
              obtain ⟨⟨row, j⟩, hs, rfl⟩ := List.mem_map.mp hp
              obtain ⟨h1, h2⟩ := List.mem_filter.mp hs
              obtain ⟨h3, h4⟩ := mem_stepsR h1
              have h2 : row.getD 1 0 ∈ oneR c.2 x := of_decide_eq_true h2
              have e : oneR ((oneR c.2 x).erase (row.getD 1 0)) (row.getD 1 0) = oneR c.2 x := erase_oneR (srt_sorted (c.2 ++ [x])) h2
              have h4 : row.getD 0 0 = c.1 := h4
              refine ⟨fun d hd => ?_, .inr (.inr ⟨j, row, h3, rfl, ?_⟩)⟩
              · obtain ⟨l, hl, rfl⟩ := List.mem_map.mp (show d ∈ (shR (oneR c.2 x)).map fun l => (c.1, l) from hd)
                exact pm _ (of_decide_eq_true (List.all_eq_true.mp hall l hl))
              · show (("other" : Str), some j, (shR (oneR c.2 x)).map fun l => (c.1, l)) = (("other" : Str), some j, (shR (oneR ((oneR c.2 x).erase (row.getD 1 0)) (row.getD 1 0))).map fun l => (row.getD 0 0, l))
                rw [e, h4]
            · cases hp
end DL
namespace DL
open PySem PySem.Spec L2
def rsnOf (R : List CRow) (c : Cfg) : Rsn := (alook R c).getD (0, "start", none, [])
def trn (R : List CRow) (c : Cfg) : Nat := (rsnOf R c).1
def preOf (R : List CRow) (c : Cfg) : List Cfg := (rsnOf R c).2.2.2
structure ROk (rows : List (List Int)) (c0 : Cfg) (R : List CRow) : Prop where
  nd : (R.map (·.1)).Nodup
  why : ∀ q ∈ R, Why rows c0 R q
theorem rsn_of {R : List CRow} (hn : (R.map (·.1)).Nodup) {q : CRow} (h : q ∈ R) : rsnOf R q.1 = q.2 := by
  unfold rsnOf
  rw [alook_mem hn h]
  rfl
theorem rsn_mem {R : List CRow} {c : Cfg} (h : c ∈ R.map (·.1)) : (c, rsnOf R c) ∈ R := by
  cases e : alook R c with
  | none => exact absurd h (alook_none.mp e)
  | some r =>
    have : rsnOf R c = r := by unfold rsnOf; rw [e]; rfl
    rw [this]
    exact alook_some e
theorem ROk.at_ {rows : List (List Int)} {c0 : Cfg} {R : List CRow} (h : ROk rows c0 R) {c : Cfg} (hc : c ∈ R.map (·.1)) : Why rows c0 R (c, rsnOf R c) := h.why _ (rsn_mem hc)
theorem ROk.pre {rows : List (List Int)} {c0 : Cfg} {R : List CRow} (h : ROk rows c0 R) {c : Cfg} (hc : c ∈ R.map (·.1)) {p : Cfg} (hp : p ∈ preOf R c) : p ∈ R.map (·.1) ∧ trn R p < trn R c := by
  obtain ⟨z, hz, rfl, h2⟩ := (h.at_ hc).pre p hp
  refine ⟨List.mem_map.mpr ⟨z, hz, rfl⟩, ?_⟩
  unfold trn
  rw [rsn_of h.nd hz]
  exact h2
structure NInv (R : List CRow) (B N L : List Cfg) : Prop where
  nd : N.Nodup
  nk : ∀ c ∈ N, c ∈ R.map (·.1)
  lk : ∀ c ∈ L, c ∈ R.map (·.1)
  bst : ∀ c ∈ B, c ∈ N ∨ c ∈ L
  cl : ∀ c ∈ N, ∀ p ∈ preOf R c, p ∈ N ∨ p ∈ L
  why : ∀ c, c ∈ N ∨ c ∈ L → c ∈ B ∨ ∃ y ∈ N, c ∈ preOf R y
def nStep (R : List CRow) (N L : List Cfg) (k : Cfg) : List Cfg × List Cfg := if k ∈ N then (N, L) else (N ++ [k], L ++ preOf R k)
theorem NInv.step {rows : List (List Int)} {c0 : Cfg} {R : List CRow} (hR : ROk rows c0 R) {B N L : List Cfg} {k : Cfg} (h : NInv R B N (L ++ [k])) : NInv R B (nStep R N L k).1 (nStep R N L k).2 := by
  have hk : k ∈ R.map (·.1) := h.lk k (by simp)
  unfold nStep
  split
  · rename_i hN
    refine ⟨h.nd, h.nk, fun c hc => h.lk c (by simp [hc]), fun c hc => ?_, fun c hc p hp => ?_, fun c hc => h.why c ?_⟩
    · rcases h.bst c hc with h1 | h1
      · exact .inl h1
      · rcases List.mem_append.mp h1 with h1 | h1
        · exact .inr h1
        · rw [List.mem_singleton.mp h1]
          exact .inl hN
    · rcases h.cl c hc p hp with h1 | h1
      · exact .inl h1
      · rcases List.mem_append.mp h1 with h1 | h1
        · exact .inr h1
        · rw [List.mem_singleton.mp h1]
          exact .inl hN
    · exact hc.imp id fun h => List.mem_append.mpr (.inl h)
  · rename_i hN
    have mv : ∀ c, c ∈ N ∨ c ∈ L ++ [k] → c ∈ N ++ [k] ∨ c ∈ L ++ preOf R k := fun c hc => by
      rcases hc with h1 | h1
      · exact .inl (List.mem_append.mpr (.inl h1))
      · rcases List.mem_append.mp h1 with h1 | h1
        · exact .inr (List.mem_append.mpr (.inl h1))
        · exact .inl (List.mem_append.mpr (.inr h1))
    refine ⟨?_, fun c hc => ?_, fun c hc => ?_, fun c hc => mv c (h.bst c hc), fun c hc p hp => ?_, fun c hc => ?_⟩
    · exact List.nodup_append.mpr ⟨h.nd, by simp, fun x hx y hy e => by
        rw [List.mem_singleton.mp hy] at e
        exact hN (e ▸ hx)⟩
    · rcases List.mem_append.mp hc with h1 | h1
      · exact h.nk c h1
      · rw [List.mem_singleton.mp h1]
        exact hk
    · rcases List.mem_append.mp hc with h1 | h1
      · exact h.lk c (List.mem_append.mpr (.inl h1))
      · exact (hR.pre hk h1).1
    · rcases List.mem_append.mp hc with h1 | h1
      · exact mv p (h.cl c h1 p hp)
      · rw [List.mem_singleton.mp h1] at hp
        exact .inr (List.mem_append.mpr (.inr hp))
    · have hc' : (c ∈ N ∨ c ∈ L ++ [k]) ∨ c ∈ preOf R k := by
        rcases hc with h1 | h1
        · rcases List.mem_append.mp h1 with h1 | h1
          · exact .inl (.inl h1)
          · exact .inl (.inr (List.mem_append.mpr (.inr h1)))
        · rcases List.mem_append.mp h1 with h1 | h1
          · exact .inl (.inr (List.mem_append.mpr (.inl h1)))
          · exact .inr h1
      rcases hc' with h1 | h1
      · rcases h.why c h1 with h2 | ⟨y, hy, h2⟩
        · exact .inl h2
        · exact .inr ⟨y, List.mem_append.mpr (.inl hy), h2⟩
      · exact .inr ⟨k, by simp, h1⟩
theorem NInv.start {R : List CRow} {B : List Cfg} (h : ∀ c ∈ B, c ∈ R.map (·.1)) : NInv R B [] B :=
  ⟨List.nodup_nil, fun c hc => (by cases hc), h, fun c hc => .inr hc, fun c hc => (by cases hc), fun c hc => .inl (hc.elim (fun h => (by cases h)) id)⟩
def rc (s : Str) : Nat := if s = "own" then 0 else if s = "other" then 1 else 2
end DL
namespace DL
open PySem PySem.Spec L2
end DL
namespace DL
open PySem PySem.Spec L2
section
variable {G : Gm} {kd : Kd} {k j : Nat} {W : WX} {N : List Str} {sc : Scope} {b : Expr} {fb : En → M D} {pos p : Pos} {x : Str} {i : Nat} {ad : Addr} {fd : FuncData} {ps : List Str} {Fn : List D → Option FOut}
end
end DL
namespace DL
open PySem PySem.Spec L2
mutual
def nL : D → Bool
  | .lst _ => false
  | .dct _ => false
  | .scr _ => false
  | .tup l => nLs l
  | .obj _ fs => nLs fs
  | .non => true
  | .bl _ => true
  | .int _ => true
  | .str _ => true
  | .typ _ => true
  | .cls _ => true
def nLs : List D → Bool
  | [] => true
  | d :: ds => nL d && nLs ds
end
section
variable {G : Gm} {F F' B H H' : Hp}
def nT : D → Bool
  | .obj _ fs => nLs fs
  | .lst _ => false
  | .dct _ => false
  | .scr _ => false
  | d => nL d
variable {Z : Zn} {σ : L2.St} {ρ : En}
end
section
variable {G : Gm} {k : Nat} {W : WX} {N : List Str} {sc : Scope} {e1 e4 : Expr} {s2 s3 : Stmt} {tl : List Stmt} {f1 : En → M D} {g2 g3 g5 : SO} {pos pos4 p p4 : Pos} {x y : Str} {i j : Nat}
end
end DL
namespace DL
open PySem PySem.Spec L2
abbrev ik (X : Cx) := intKind X.prog X.w
def IRel (G : Gm) (F : Hp) : List (D × D) → List (Int × Value) → Prop
  | [], xs => xs = []
  | q :: l, xs => ∃ x xs', xs = x :: xs' ∧ (q.1 = .int x.1 ∧ ∃ u, Rep G F q.2 u ∧ RelV u x.2) ∧ IRel G F l xs'
section
variable {X : Cx} {pp : List (Addr × Obj)} {σ : L2.St} {H : Hp} {s : Shared} {G : Gm} {F : Hp}
theorem IRel.repE : ∀ {l : List (D × D)} {xs : List (Int × Value)} {es : List DictEntry}, IRel G F l xs → Pairs (ik X) es xs → (∀ e ∈ es, ∃ k, (ik X).is k e.key = true ∧ e.hash = (ik X).hash k) → RepE G F l es
  | [], xs, es, h, p, _ => by
    rw [show xs = [] from h] at p
    cases p
    rfl
  | (d, y) :: l, xs, es, h, p, ks => by
    obtain ⟨x, xs', rfl, ⟨h1, u, h4, h5⟩, h6⟩ := h
    cases p with
    | @cons e _ es' _ p1 p2 p3 =>
      obtain ⟨t, ht⟩ := Value.isInt_shape p1
      obtain ⟨k, k1, k2⟩ := ks e List.mem_cons_self
      have ekk : k = x.1 := (ik X).inj _ _ _ k1 p1
      have h1 : d = .int x.1 := h1
      subst h1
      refine ⟨e, es', rfl, ⟨⟨.num x.1, rfl, Nat.zero_le _, ?_⟩, ⟨.int x.1, rfl, ⟨t, ht⟩⟩, u, h4, by rw [p2]; exact h5⟩, IRel.repE h6 p3 fun e he => ks e (List.mem_cons_of_mem _ he)⟩
      rw [k2, ekk]
      rfl
theorem IRel.length : ∀ {l : List (D × D)} {xs : List (Int × Value)}, IRel G F l xs → xs.length = l.length
  | [], xs, h => by rw [show xs = [] from h]; rfl
  | (d, y) :: l, xs, h => by
    obtain ⟨x, xs', rfl, _, h6⟩ := h
    rw [List.length_cons, List.length_cons, IRel.length h6]
theorem IRel.keys : ∀ {l : List (D × D)} {xs : List (Int × Value)}, IRel G F l xs → l.map (fun q => kOf q.1) = xs.map fun x => some (NestedKey.num x.1)
  | [], xs, h => by rw [show xs = [] from h]; rfl
  | (d, y) :: l, xs, h => by
    obtain ⟨x, xs', rfl, ⟨h1, _⟩, h6⟩ := h
    have h1 : d = .int x.1 := h1
    subst h1
    rw [List.map_cons, List.map_cons, IRel.keys h6]
    rfl
theorem IRel.nodup {l : List (D × D)} {xs : List (Int × Value)} (h : IRel G F l xs) (hn : KN l) : (xs.map (·.1)).Nodup := by
  unfold KN at hn
  rw [h.keys] at hn
  refine nodup_map (fun n => some (NestedKey.num n)) ?_
  rw [List.map_map]
  exact hn
theorem kn_inj {a b : Int} (h : kOf (.int a) = some (.num b)) : a = b := by
  have := Option.some.inj h
  injection this
theorem IRel.at_none {n : Int} : ∀ {l : List (D × D)} {xs : List (Int × Value)}, IRel G F l xs → fnd l (.num n) = none → valueAt xs n = none
  | [], xs, h, _ => by rw [show xs = [] from h]; rfl
  | (d, y) :: l, xs, h, hf => by
    obtain ⟨x, xs', rfl, ⟨h1, _⟩, h6⟩ := h
    have h1 : d = .int x.1 := h1
    subst h1
    by_cases e : x.1 = n
    · rw [fnd_pos (show kOf (.int x.1) = some (.num n) by rw [e]; rfl)] at hf
      cases hf
    · rw [fnd_neg (show ¬ kOf (.int x.1) = some (.num n) from fun z => e (kn_inj z))] at hf
      have := IRel.at_none h6 hf
      simpa [valueAt, List.find?_cons, e] using this
theorem IRel.at_some {n : Int} {y' : D} : ∀ {l : List (D × D)} {xs : List (Int × Value)}, IRel G F l xs → fnd l (.num n) = some y' → ∃ w, valueAt xs n = some w ∧ ∃ u, Rep G F y' u ∧ RelV u w
  | [], xs, h, hf => nomatch hf
  | (d, y) :: l, xs, h, hf => by
    obtain ⟨x, xs', rfl, ⟨h1, u, h4, h5⟩, h6⟩ := h
    have h1 : d = .int x.1 := h1
    subst h1
    by_cases e : x.1 = n
    · rw [fnd_pos (show kOf (.int x.1) = some (.num n) by rw [e]; rfl)] at hf
      cases hf
      exact ⟨x.2, by simp [valueAt, e], u, h4, h5⟩
    · rw [fnd_neg (show ¬ kOf (.int x.1) = some (.num n) from fun z => e (kn_inj z))] at hf
      obtain ⟨p, hp, q⟩ := IRel.at_some h6 hf
      exact ⟨p, by simpa [valueAt, List.find?_cons, e] using hp, q⟩
theorem IRel.any {n : Int} : ∀ {l : List (D × D)} {xs : List (Int × Value)}, IRel G F l xs → xs.any (fun kv => decide (kv.1 = n)) = (fnd l (.num n)).isSome
  | [], xs, h => by rw [show xs = [] from h]; rfl
  | (d, y) :: l, xs, h => by
    obtain ⟨x, xs', rfl, ⟨h1, _⟩, h6⟩ := h
    have h1 : d = .int x.1 := h1
    subst h1
    by_cases e : x.1 = n
    · rw [fnd_pos (show kOf (.int x.1) = some (.num n) by rw [e]; rfl)]
      simp [e]
    · rw [fnd_neg (show ¬ kOf (.int x.1) = some (.num n) from fun z => e (kn_inj z)), ← IRel.any h6]
      simp [e]
theorem IRel.repl {n : Int} {x : D} {u : V} {w : Value} (rx : Rep G F x u) (rv : RelV u w) : ∀ {l : List (D × D)} {xs : List (Int × Value)}, IRel G F l xs →
    IRel G F (l.map fun q => if kOf q.1 = some (.num n) then (q.1, x) else q) (xs.map fun kv => if kv.1 = n then (kv.1, w) else kv)
  | [], xs, h => by rw [show xs = [] from h]; rfl
  | (d, y) :: l, xs, h => by
    obtain ⟨z, xs', rfl, ⟨h1, h4⟩, h6⟩ := h
    have h1 : d = .int z.1 := h1
    subst h1
    rw [List.map_cons, List.map_cons]
    refine ⟨_, _, rfl, ?_, IRel.repl rx rv h6⟩
    by_cases e : z.1 = n
    · rw [if_pos e, if_pos (show kOf (.int z.1) = some (.num n) by rw [e]; rfl)]
      exact ⟨rfl, u, rx, rv⟩
    · rw [if_neg e, if_neg (show ¬ kOf (.int z.1) = some (.num n) from fun q => e (kn_inj q))]
      exact ⟨rfl, h4⟩
theorem IRel.snoc {n : Int} {x : D} {u : V} {w : Value} (rx : Rep G F x u) (rv : RelV u w) : ∀ {l : List (D × D)} {xs : List (Int × Value)}, IRel G F l xs → IRel G F (l ++ [(.int n, x)]) (xs ++ [(n, w)])
  | [], xs, h => by
    rw [show xs = [] from h]
    exact ⟨(n, w), [], rfl, ⟨rfl, u, rx, rv⟩, rfl⟩
  | (d', y) :: l, xs, h => by
    obtain ⟨z', xs', rfl, h1, h6⟩ := h
    exact ⟨z', xs' ++ [(n, w)], rfl, h1, IRel.snoc rx rv h6⟩
theorem IRel.put {n : Int} {x : D} {u : V} {w : Value} {l : List (D × D)} {xs : List (Int × Value)} (h : IRel G F l xs) (rx : Rep G F x u) (rv : RelV u w) : IRel G F (dput l (.int n) (.num n) x) (stored xs n w) := by
  unfold dput stored
  rw [h.any]
  split
  · exact h.repl rx rv
  · exact h.snoc rx rv
end
section
variable {G : Gm} {kd : Kd} {k : Nat} {W : WX} {N : List Str} {sc : Scope} {e a b c o : Expr} {es : List Expr} {f fa fb fc fk fv fo : En → M D} {pos apos cpos : Pos} {F B H F' B' H' : Hp} {Z : Zn} {σ : L2.St} {ρ : En} {v w : V} {X : Cx}
end
section
variable {β : Type} {ev : β → D}
end
end DL
namespace DL
open PySem PySem.Spec L2
open PySem.Builtin.Float PySem.Builtin.Str
def fm3 : PySem.Builtin.Float.FormatSpec := { align := 62, width := some 3 }
def sp3 : Str := ">3"
def sp8 : Str := "<8"
def txt3 (a : Int) : Str := PyProof.Rows.intSpecText fm3 a
def txt8 (y : Str) : Str := if 8 ≤ y.length then y else PySem.Builtin.Str.padded y 0 (8 - y.length) 32
theorem fmt3 (a : Int) (t : Tok) (ha : a.natAbs.log2 < 1920) (hz : (txt3 a).length ≤ sizeLine) (u : Tok) : Meets (Builtin.«int.__format__» ⟨[.int a t, .str sp3 u], []⟩) (fun _ R s => ∀ t' k, R (.ok (.ret (.str (txt3 a) t'))) { s with toks := k }) := by
  apply PySem.W.KPc.meets_of
  intro prog w A s Q E h
  unfold Builtin.«int.__format__»
  refine wpAny_bind (wpAny_of_eq (a := (_, _)) rfl ?_)
  refine wpAny_bind (wpAny_of_eq (a := _) rfl ?_)
  refine wpAny_ite (PySem.W.KPc.ite_no (by exact Bool.false_ne_true) ?_)
  refine wpAny_bind (wpAny_typeNameOf (T := "str") (typeIs_str _ _ _) (by decide) fun _ => ?_)
  refine wpAny_bind (wpAny_of_eq (a := some _) rfl ?_)
  refine wpAny_ite (PySem.W.KPc.ite_no (by decide +kernel) ?_)
  refine wpAny_ite (PySem.W.KPc.ite_no (by decide +kernel) ?_)
  refine wpAny_bind (PyProof.Rows.wpAny_typeNameOfCut_int ?_)
  have hp : parseFormatSpec sp3.cps.toList "int" 62 = .ok fm3 := by kernel_rfl
  rw [hp]
  dsimp only
  refine wpAny_ite (PySem.W.KPc.ite_yes (by decide +kernel) ?_)
  show wpAny _ _ (do let r ← Builtin.overDigitLimit? a; _) _ _ _
  refine wpAny_bind (wpAny_of_eq (overDigitLimit_small ha) ?_)
  show wpAny _ _ (retStr _) _ _ _
  refine (fun e => PySem.W.KXf.ret_text (T := txt3 a) e (by rw [e]; exact hz) h) ?_
  unfold txt3 PyProof.Rows.intSpecText
  rfl
theorem fmt8 (y : Str) (t : Tok) (hy : y.length ≤ 1000) (u : Tok) : Meets (Builtin.«str.__format__» ⟨[.str y t, .str sp8 u], []⟩) (fun _ R s => ∀ t' k, R (.ok (.ret (.str (txt8 y) t'))) { s with toks := k }) := by
  apply PySem.W.KPc.meets_of
  intro prog w A s Q E h
  unfold Builtin.«str.__format__»
  refine wpAny_bind (wpAny_of_eq (a := (_, _, _)) rfl ?_)
  refine wpAny_bind (wpAny_of_eq (a := some _) rfl ?_)
  refine wpAny_ite (PySem.W.KPc.ite_no (by decide +kernel) ?_)
  refine wpAny_ite (PySem.W.KPc.ite_no (by decide +kernel) ?_)
  refine wpAny_bind (PySem.W.KXf.cut_str ?_)
  have hp : parseFormatSpec sp8.cps.toList "str" 60 = .ok { align := 60, width := some 8 } := by kernel_rfl
  rw [hp]
  have hs : strField y { align := 60, width := some 8 } "str" = .ok (if 8 ≤ y.length then none else some (txt8 y)) := by
    unfold strField txt8
    have e0 : strSub y 0 y.length = y := PySem.StrLaws.sub_whole y
    by_cases h8 : 8 ≤ y.length
    · simp [h8]
      rfl
    · simp [h8, e0]
      rfl
  show wpAny _ _ (match ((strField y { align := 60, width := some 8 } "str").bind fun r => Except.ok (some r) : Except String (Option (Option Str))) with
    | .error msg => _
    | .ok none => _
    | .ok (some none) => (do rule "str.__format__.unchanged"; ret (Value.str y t))
    | .ok (some (some text)) => retStr text) Q E s
  rw [hs]
  by_cases h8 : 8 ≤ y.length
  · rw [if_pos h8]
    show wpAny _ _ (do rule "str.__format__.unchanged"; ret (Value.str y t)) Q E s
    exact wpAny_bind (wpAny_rule (PySem.W.KXf.ret_same (T := txt8 y) (by unfold txt8; rw [if_pos h8]) h))
  · rw [if_neg h8]
    show wpAny _ _ (retStr (txt8 y)) Q E s
    refine PySem.W.KXf.ret_text (T := txt8 y) rfl ?_ h
    unfold txt8
    rw [if_neg h8]
    have h9 : (padded y 0 (8 - y.length) 32).length = 8 := by
      show (padded y 0 (8 - y.length) 32).cps.size = 8
      unfold padded
      rw [Array.size_append, Array.size_append, Array.size_replicate, Array.size_replicate]
      have : y.cps.size = y.length := rfl
      omega
    rw [h9]
    decide +kernel
def tFmt3 (te ts : TE) : TE := fun σ H Q => te σ H fun x H1 => ts σ H1 fun y H2 => ∃ a : Int, x = .int a ∧ y = .str sp3 ∧ a.natAbs.log2 < 1920 ∧ (txt3 a).length ≤ sizeLine ∧ Q (.str (txt3 a)) H2
def tFmt8 (te ts : TE) : TE := fun σ H Q => te σ H fun x H1 => ts σ H1 fun y H2 => ∃ z : Str, x = .str z ∧ y = .str sp8 ∧ z.length ≤ 1000 ∧ Q (.str (txt8 z)) H2
section
variable {X : Cx} {e sp : Expr} {te ts : TE} {pos : Pos}
theorem pe_fmt3 (he : PE X e te) (hs : PE X sp ts) : PE X (.FormattedValue e (-1) (some sp) pos) (tFmt3 te ts) := by
  refine ⟨fun pins s σ H Q I h => wpAny_FormattedValue_spec (thn (he.run pins s σ H _ I h) fun v s1 ⟨x, H1, I1, rx, q⟩ => thn (hs.run pins s1 σ H1 _ I1 q) fun r s2 ⟨y, H2, I2, ry, a, ex, ey, h1, h2, q2⟩ => ?_)⟩
  subst ex ey
  obtain ⟨t, rfl⟩ := (show ∃ t, v = Value.int a t from rx)
  obtain ⟨t2, rfl⟩ := (show ∃ t, r = Value.str sp3 t from ry)
  exact ⟨sp3, t2, rfl, PySem.W.KXf.field_int rfl (by decide +kernel) (by decide +kernel) (fun u => fmt3 a t h1 h2 u) fun t' k => ⟨.str (txt3 a), H2, I2.tok k, ⟨_, rfl⟩, q2⟩⟩
theorem pe_fmt8 (he : PE X e te) (hs : PE X sp ts) : PE X (.FormattedValue e (-1) (some sp) pos) (tFmt8 te ts) := by
  refine ⟨fun pins s σ H Q I h => wpAny_FormattedValue_spec (thn (he.run pins s σ H _ I h) fun v s1 ⟨x, H1, I1, rx, q⟩ => thn (hs.run pins s1 σ H1 _ I1 q) fun r s2 ⟨y, H2, I2, ry, z, ex, ey, h1, q2⟩ => ?_)⟩
  subst ex ey
  obtain ⟨t, rfl⟩ := (show ∃ t, v = Value.str z t from rx)
  obtain ⟨t2, rfl⟩ := (show ∃ t, r = Value.str sp8 t from ry)
  exact ⟨sp8, t2, rfl, PySem.W.KXf.field_str rfl rfl (by decide +kernel) (by decide +kernel) (fun u => fmt8 z t h1 u) fun t' k => ⟨.str (txt8 z), H2, I2.tok k, ⟨_, rfl⟩, q2⟩⟩
end
def D.fmt3 : D → Option D
  | .int a => if a.natAbs.log2 < 1920 ∧ (txt3 a).length ≤ 1000 then some (.str (txt3 a)) else none
  | _ => none
def D.fmt8 : D → Option D
  | .str z => if z.length ≤ 1000 then some (.str (txt8 z)) else none
  | _ => none
def jsD (acc : Str) : D → Option Str
  | .str y => if (acc ++ y).length ≤ 16000000 then some (acc ++ y) else none
  | _ => none
def fJs : List (En → M D) → Str → En → M D
  | [], acc => fun _ => some (.ok (.str acc))
  | f :: fs, acc => fun ρ => (f ρ).bnd fun x => match jsD acc x with
    | some acc' => fJs fs acc' ρ
    | none => none
section
variable {G : Gm} {kd : Kd} {k : Nat} {W : WX} {N : List Str} {sc : Scope} {e sp : Expr} {f : En → M D} {pos : Pos} {F B H : Hp} {Z : Zn} {σ : L2.St} {ρ : En}
theorem top_str {F H : Hp} {y : Str} {v : V} (h : Top G F H (.str y) v) : v = .str y := h
theorem top_int {F H : Hp} {a : Int} {v : V} (h : Top G F H (.int a) v) : v = .int a := h
theorem je_fmt3 (he : JE G k W N sc .peek e f) (hs : JE G k W N sc .peek sp (fC (.str sp3))) : JE G k W N sc kd (.FormattedValue e (-1) (some sp) pos) (Fb D.fmt3 f) := by
  obtain ⟨te, a1, a2⟩ := he
  obtain ⟨ts, b1, b2⟩ := hs
  refine ⟨tFmt3 te ts, fun X c => pe_fmt3 (a1 X c) (b1 X c), fun Z F B H σ ρ s r hr Q q => ?_⟩
  rcases bnd_some hr with ⟨x, ex, hr⟩ | ⟨x, ex, rfl⟩
  · refine a2 Z F B H σ ρ s _ ex _ fun F1 B1 H1 v1 u1 k1 => ?_
    refine b2 Z F1 B1 H1 σ ρ (s.up u1) _ rfl _ fun F2 B2 H2 v2 u2 k2 => ?_
    obtain ⟨d, ed, rfl⟩ := up1_ok hr
    unfold D.fmt3 at ed
    split at ed
    · rename_i a
      split at ed
      · rename_i hh
        have e := Option.some.inj ed
        subst e
        exact ⟨a, top_int (show Top G F1 H1 (.int a) v1 from k1), top_str (show Top G F2 H2 (.str sp3) v2 from k2), hh.1, Nat.le_trans hh.2 (by decide +kernel), PostV.here (q.weak (u1.trans u2)).v u2.fb u2.bh rfl rfl⟩
      · cases ed
    · cases ed
  · exact a2 Z F B H σ ρ s _ ex _ q
theorem je_fmt8 (he : JE G k W N sc .peek e f) (hs : JE G k W N sc .peek sp (fC (.str sp8))) : JE G k W N sc kd (.FormattedValue e (-1) (some sp) pos) (Fb D.fmt8 f) := by
  obtain ⟨te, a1, a2⟩ := he
  obtain ⟨ts, b1, b2⟩ := hs
  refine ⟨tFmt8 te ts, fun X c => pe_fmt8 (a1 X c) (b1 X c), fun Z F B H σ ρ s r hr Q q => ?_⟩
  rcases bnd_some hr with ⟨x, ex, hr⟩ | ⟨x, ex, rfl⟩
  · refine a2 Z F B H σ ρ s _ ex _ fun F1 B1 H1 v1 u1 k1 => ?_
    refine b2 Z F1 B1 H1 σ ρ (s.up u1) _ rfl _ fun F2 B2 H2 v2 u2 k2 => ?_
    obtain ⟨d, ed, rfl⟩ := up1_ok hr
    unfold D.fmt8 at ed
    split at ed
    · rename_i z
      split at ed
      · rename_i hh
        have e := Option.some.inj ed
        subst e
        exact ⟨z, top_str (show Top G F1 H1 (.str z) v1 from k1), top_str (show Top G F2 H2 (.str sp8) v2 from k2), hh, PostV.here (q.weak (u1.trans u2)).v u2.fb u2.bh rfl rfl⟩
      · cases ed
    · cases ed
  · exact a2 Z F B H σ ρ s _ ex _ q
theorem je_js1 (he : JE G k W N sc kd e f) : JE G k W N sc kd (.JoinedStr [e] pos) f := by
  obtain ⟨te, a1, a2⟩ := he
  exact ⟨te, fun X c => pe_joined1 (a1 X c), a2⟩
inductive JJ (G : Gm) (k : Nat) (W : WX) (N : List Str) (sc : Scope) : List Expr → List (En → M D) → Prop where
  | nil : JJ G k W N sc [] []
  | cons {e : Expr} {f : En → M D} {es : List Expr} {fs : List (En → M D)} (h : JE G k W N sc .peek e f) (r : JJ G k W N sc es fs) : JJ G k W N sc (e :: es) (f :: fs)
theorem jj_spec {es : List Expr} {fs : List (En → M D)} (h : JJ G k W N sc es fs) : ∃ ts, (∀ X, CnE G k W N sc X → PJ X es ts) ∧
    ∀ acc Z F B H σ ρ, SR G Z F B H σ ρ → ∀ r, fJs fs acc ρ = some r → ∀ Q, PostE G W kd F B H σ Q r → tJs ts acc σ H fun out H1 => Q (.str out) H1 := by
  induction h with
  | nil =>
    refine ⟨[], fun X c => .nil, fun acc Z F B H σ ρ s r hr Q q => ?_⟩
    have e := Option.some.inj hr
    subst e
    exact PostV.here q.v s.fb s.bh rfl rfl
  | @cons e f es fs he r ih =>
    obtain ⟨t, a1, a2⟩ := he
    obtain ⟨ts, b1, b2⟩ := ih
    refine ⟨t :: ts, fun X c => .cons (a1 X c) (b1 X c), fun acc Z F B H σ ρ s r hr Q q => ?_⟩
    rcases bnd_some hr with ⟨x, ex, hr⟩ | ⟨x, ex, rfl⟩
    · refine a2 Z F B H σ ρ s _ ex _ fun F1 B1 H1 v1 u1 k1 => ?_
      split at hr
      · rename_i acc' ea
        unfold jsD at ea
        split at ea
        · rename_i y
          split at ea
          · rename_i hh
            have e := Option.some.inj ea
            subst e
            exact ⟨y, top_str (show Top G F1 H1 (.str y) v1 from k1), lim_line hh, b2 _ Z F1 B1 H1 σ ρ (s.up u1) r hr Q (q.weak u1)⟩
          · cases ea
        · cases ea
      · cases hr
    · exact a2 Z F B H σ ρ s _ ex _ q
theorem je_js {e1 e2 : Expr} {es : List Expr} {fs : List (En → M D)} (h : JJ G k W N sc (e1 :: e2 :: es) fs) : JE G k W N sc kd (.JoinedStr (e1 :: e2 :: es) pos) (fJs fs Str.empty) := by
  obtain ⟨ts, h1, h2⟩ := jj_spec (kd := kd) h
  exact ⟨_, fun X c => pe_joined (h1 X c), fun Z F B H σ ρ s r hr Q q => h2 Str.empty Z F B H σ ρ s r hr Q q⟩
def D.lenS : List D → Option D
  | [.str z] => if z.length ≤ 16000000 then some (.int z.length) else none
  | _ => none
theorem s_lenS : CaS G kd (fun xs H Q => ∃ z : Str, xs = [.str z] ∧ z.length ≤ sizeLine ∧ Q (.int z.length) H) [.peek] D.lenS := by
  intro F B H fb bh xs vs hx d hd Q q
  unfold D.lenS at hd
  split at hd
  · rename_i z
    split at hd
    · rename_i hh
      have e := Option.some.inj hd
      subst e
      obtain ⟨v, rfl, h⟩ := ar1 hx
      exact ⟨z, by rw [top_str h], lim_line hh, PostV.here q fb bh rfl rfl⟩
    · cases hd
  · cases hd
theorem je_lenS {p : Pos} (hg : glB sc "len" = true) (hm : G.mg "len" = none) (hp : PlainArg e) (hpl : NoStar pos []) (ha : JE G k W N sc .peek e f) : JE G k W N sc kd (.Call (.Name "len" p) [e] [] pos) (Ez D.lenS (Ac f Ba)) :=
  je_callB (id := "len") (fun X c => call_len_str) s_lenS hg hm (by decide +kernel) (by decide) (by decide) hp hpl (ja_consP hp ha ja_nil)
def blk (n : Int) : Str := Txt.mul " " n
theorem mulOk_blk (n : Int) (h : -1000 ≤ n ∧ n ≤ 1000) : MulOk " " n := by
  refine ⟨?_, fun h1 h2 h3 => ?_, fun h1 h2 => ?_⟩
  · simp only [Bool.or_eq_false_iff, decide_eq_false_iff_not]
    omega
  · have e : ((" " : Str).length : Int) = 1 := rfl
    rw [e] at h3
    have h4 : (1000 : Int) ≤ (2 ^ 63 - 1) / n := (Int.le_ediv_iff_mul_le (by omega)).mpr (by omega)
    omega
  · have e : (" " : Str).length = 1 := rfl
    rw [e, Nat.one_mul]
    unfold Builtin.Str.tooLong
    refine decide_eq_false ?_
    have : (1000 : Nat) ≤ sizeLine := by decide +kernel
    omega
def rMulS : R2 := fun x y H Q => ∃ n : Int, x = .str " " ∧ y = .int n ∧ (-1000 ≤ n ∧ n ≤ 1000) ∧ Q (.str (blk n)) H
theorem op_mulS {X : Cx} : OpR X (binaryOp .Mult) rMulS := by
  intro pp s σ H x y v u Q J rx ry h
  obtain ⟨n, rfl, rfl, hn, q⟩ := h
  obtain ⟨t, rfl⟩ := (show ∃ t, v = Value.str " " t from rx)
  obtain ⟨t2, rfl⟩ := (show ∃ t, u = Value.int n t from ry)
  exact SB.mul (mulOk_blk n hn) fun t' k => ⟨.str (blk n), H, J.tok k, ⟨_, rfl⟩, q⟩
def mulS : D → D → Option D := fun x y => match x, y with
  | .str z, .int n => if z = " " ∧ -1000 ≤ n ∧ n ≤ 1000 then some (.str (blk n)) else none
  | _, _ => none
theorem s_mulS : OpS G kd rMulS mulS := by
  intro F B H fb bh x y v w hx hy d hd Q q
  unfold mulS at hd
  split at hd
  · rename_i z n
    split at hd
    · rename_i hh
      have e := Option.some.inj hd
      subst e
      obtain ⟨rfl, h1⟩ := hh
      exact ⟨n, top_str hx, top_int hy, h1, PostV.here q fb bh rfl rfl⟩
    · cases hd
  · cases hd
theorem je_mulS {a b : Expr} {fa fb : En → M D} (ha : JE G k W N sc .peek a fa) (hb : JE G k W N sc .peek b fb) : JE G k W N sc kd (.BinOp a .Mult b pos) (Az mulS fa fb) := je_bin (fun X c => op_mulS) s_mulS ha hb
end
end DL
namespace DL
open PySem PySem.Spec L2
def b1__law_draws : SO := (Ca (Ee 2 (Ac (Az D.mod (Ez D.int1 (Ac (Aa 3) Ba)) (fC (.int 1000))) Ba) Ef)
  (Bb 3 (Az D.div (Aa 3) (fC (.int 1000)))))
def b2__law_draws : SO := (Ca (Bb 5 (Az D.mod (Ez D.int1 (Ac (Az D.add (Az D.add (Az D.mul (Aa 0) (fC (.int 7919))) (Az D.mul (Aa 4) (fC (.int 131)))) (fC (.int 7))) Ba)) (fC (.int 1009))))
  (Ee 2 (Ac (Az D.mod (Ez D.int1 (Ac (Az D.add (Az D.add (Az D.mul (Aa 5) (Aa 5)) (Az D.mul (Aa 4) (fC (.int 17)))) (Aa 0)) Ba)) (fC (.int 997))) Ba) Ef))
def s5__law_draws : SO := (Bf 2)
def r5__law_draws : SO := s5__law_draws
def s4__law_draws : SO := (Cy (Ed rng1 (Ac (Aa 1) Ba)) (Ep 4) b2__law_draws)
def r4__law_draws : SO := Ca s4__law_draws r5__law_draws
def s3__law_draws : SO := (Fd (Cc (Az D.ge (Aa 0) (Az D.pow (fC (.int 10)) (fC (.int 18))))) (Ca (Bb 3 (Az D.sub (Aa 0) (Az D.pow (fC (.int 10)) (fC (.int 18)))))
  (Ca (Cy (Ed rng1 (Ac (Aa 1) Ba)) (Ep 4) b1__law_draws)
  (Bf 2))) Fe)
def r3__law_draws : SO := Ca s3__law_draws r4__law_draws
def s2__law_draws : SO := (Bd 2 (Ck Ba))
def r2__law_draws : SO := Ca s2__law_draws r3__law_draws
def s1__law_draws : SO := (Bb 0 (Ez D.abs (Ac (Ez D.int1 (Ac (Aa 0) Ba)) Ba)))
def r1__law_draws : SO := Ca s1__law_draws r2__law_draws
def g__law_draws : SO := r1__law_draws
def Fn__law_draws : List D → Option FOut := Ci [.bo, .bo] 6 g__law_draws
def s2__law_cell : SO := (Cf .fresh (fC (.int 0)))
def r2__law_cell : SO := s2__law_cell
def s1__law_cell : SO := (Fd (Cc (Az D.lt (Aa 1) (Ez D.len (Ac (Aa 0) Ba)))) (Cf .fresh (Ez D.int1 (Ac (Az ixL (Aa 0) (Aa 1)) Ba))) Fe)
def r1__law_cell : SO := Ca s1__law_cell r2__law_cell
def g__law_cell : SO := r1__law_cell
def Fn__law_cell : List D → Option FOut := Ci [.bo, .bo] 2 g__law_cell
def e1__law_ranked : En → M D := (Ay 3)
def c1__law_ranked : En → M Bool := (Cc (Az D.ltN (Aa 3) (Aa 2)))
def b1__law_ranked : SO := (Fd (Cc (Az D.nin (Aa 2) (Aa 1))) (Cm 1 (Ac (Ez D.len (Ac (fLc (Fc (Bc 1)) (Ep 3) c1__law_ranked e1__law_ranked [3]) Ba)) (Ac (Ay 2) Ba)) uIns) Fe)
def s3__law_ranked : SO := (Bf 1)
def r3__law_ranked : SO := s3__law_ranked
def s2__law_ranked : SO := (Cy (Fc (Bc 0)) (Ep 2) b1__law_ranked)
def r2__law_ranked : SO := Ca s2__law_ranked r3__law_ranked
def s1__law_ranked : SO := (Bd 1 (Ck Ba))
def r1__law_ranked : SO := Ca s1__law_ranked r2__law_ranked
def g__law_ranked : SO := r1__law_ranked
def Fn__law_ranked : List D → Option FOut := Ci [.bo] 4 g__law_ranked
def s4_Notes___init__ : SO := (Fg 0 (fC (.dct [])) (setFld 3 2))
def r4_Notes___init__ : SO := s4_Notes___init__
def s3_Notes___init__ : SO := (Fg 0 (Ck Ba) (setFld 3 1))
def r3_Notes___init__ : SO := Ca s3_Notes___init__ r4_Notes___init__
def s2_Notes___init__ : SO := (Fg 0 (Ay 1) (setFld 3 0))
def r2_Notes___init__ : SO := Ca s2_Notes___init__ r3_Notes___init__
def s1_Notes___init__ : SO := (Fd (Cz (Cc (fChain (fun i j => decide (i ≤ j)) (fun i j => decide (i ≤ j)) (fC (.int 0)) (Aa 1) (fCv 3 (.int 4) (fC (.cls 3)))))) (Bh 104) Fe)
def r1_Notes___init__ : SO := Ca s1_Notes___init__ r2_Notes___init__
def g_Notes___init__ : SO := r1_Notes___init__
def Fn_Notes___init__ : List D → Option FOut := Ci [.mu, .bo] 2 g_Notes___init__
def s1_Crowd___len__ : SO := (Cf .fresh (Ez D.len (Ac (Fb (fldD 0 0) (Aa 0)) Ba)))
def r1_Crowd___len__ : SO := s1_Crowd___len__
def g_Crowd___len__ : SO := r1_Crowd___len__
def Fn_Crowd___len__ : List D → Option FOut := Ci [.bo] 1 g_Crowd___len__
def b1_ordered : SO := (Ca (Bb 5 (Az D.div (Az D.add (Aa 3) (Aa 4)) (fC (.int 2))))
  (Fd (Cc (Az D.ltN (Az ixL (Aa 1) (Aa 5)) (Aa 2))) (Bb 3 (Az D.add (Aa 5) (fC (.int 1)))) (Bb 4 (Ay 5))))
def t1_ordered : En → M Bool := (Cc (Az D.lt (Aa 3) (Aa 4)))
def b2_ordered : SO := (Ca (Bb 3 (fC (.int 0)))
  (Ca (Bb 4 (Ez D.len (Ac (Aa 1) Ba)))
  (Ca (whileG t1_ordered b1_ordered 10000000)
  (Fd (Ff (Cc (Az D.eq (Aa 3) (Ez D.len (Ac (Aa 1) Ba)))) (Cc (Az D.ne (Az ixL (Aa 1) (Aa 3)) (Aa 2)))) (Ee 1 (Ac (Ay 3) (Ac (Ay 2) Ba)) uIns) Fe))))
def s3_ordered : SO := (Bf 1)
def r3_ordered : SO := s3_ordered
def s2_ordered : SO := (Cy (Fc (Bc 0)) (Ep 2) b2_ordered)
def r2_ordered : SO := Ca s2_ordered r3_ordered
def s1_ordered : SO := (Bd 1 (Ck Ba))
def r1_ordered : SO := Ca s1_ordered r2_ordered
def g_ordered : SO := r1_ordered
def Fn_ordered : List D → Option FOut := Ci [.bo] 6 g_ordered
def b1_Crowd___init__ : SO := (Fd (Cc (Az D.lt (Aa 2) (fC (.int 0)))) (Bh 101) Fe)
def e1_Crowd___init__ : En → M D := (Ez D.int1 (Ac (Aa 2) Ba))
def s2_Crowd___init__ : SO := (Fg 0 (Ez D.tupl (Ac (Ez D.sorted (Ac (fLc (Fc (Bc 1)) (Ep 2) Cd e1_Crowd___init__ [2]) Ba)) Ba)) (setFld 0 0))
def r2_Crowd___init__ : SO := s2_Crowd___init__
def s1_Crowd___init__ : SO := (Cy (Fc (Bc 1)) (Ep 2) b1_Crowd___init__)
def r1_Crowd___init__ : SO := Ca s1_Crowd___init__ r2_Crowd___init__
def g_Crowd___init__ : SO := r1_Crowd___init__
def Fn_Crowd___init__ : List D → Option FOut := Ci [.mu, .bo] 3 g_Crowd___init__
def b1_Notes___setitem__ : SO := (Fd (Cc (Az D.ne (Ez (opLenO 0 Fn_Crowd___len__) (Ac (Aa 3) Ba)) (Fb (fldD 3 0) (Aa 0)))) (Bh 104) Fe)
def e1_Notes___setitem__ : En → M D := (Fb (fldD 0 0) (Aa 3))
def e2_Notes___setitem__ : En → M D := (Ea (Ac (Ay 1) (Ac (fMk 0 Fn_Crowd___init__ (Ac (Aa 7) Ba)) Ba)))
def e3_Notes___setitem__ : En → M D := (Ay 8)
def c1_Notes___setitem__ : En → M Bool := (Cc (Az D.lt (Az ixL (Aa 8) (fC (.int 0))) (Aa 1)))
def e4_Notes___setitem__ : En → M D := (Ay 8)
def c2_Notes___setitem__ : En → M Bool := (Cc (Az D.gt (Az ixL (Aa 8) (fC (.int 0))) (Aa 1)))
def e5_Notes___setitem__ : En → M D := (Ea (Ac (Az ixL (Aa 8) (fC (.int 0))) (Ac (Fb (fldD 0 0) (Az ixL (Aa 8) (fC (.int 1)))) Ba)))
def e6_Notes___setitem__ : En → M D := (fC (.bl true))
def s6_Notes___setitem__ : SO := (Fg 0 (fDc (Fc (Fb (fldD 3 1) (Aa 0))) (Ep 8) Cd e5_Notes___setitem__ e6_Notes___setitem__ [8]) (setFld 3 2))
def r6_Notes___setitem__ : SO := s6_Notes___setitem__
def s5_Notes___setitem__ : SO := (Fg 0 (Az D.add (Az D.add (Aa 5) (Aa 4)) (Aa 6)) (setFld 3 1))
def r5_Notes___setitem__ : SO := Ca s5_Notes___setitem__ r6_Notes___setitem__
def s4_Notes___setitem__ : SO := (Bd 6 (fLc (Fc (Fb (fldD 3 1) (Aa 0))) (Ep 8) c2_Notes___setitem__ e4_Notes___setitem__ [8]))
def r4_Notes___setitem__ : SO := Ca s4_Notes___setitem__ r5_Notes___setitem__
def s3_Notes___setitem__ : SO := (Bd 5 (fLc (Fc (Fb (fldD 3 1) (Aa 0))) (Ep 8) c1_Notes___setitem__ e3_Notes___setitem__ [8]))
def r3_Notes___setitem__ : SO := Ca s3_Notes___setitem__ r4_Notes___setitem__
def s2_Notes___setitem__ : SO := (Bd 4 (fLc (Fc (Ag Fn_ordered (Ac (fLc (Fc (Bc 2)) (Ep 3) Cd e1_Notes___setitem__ [3]) Ba))) (Ep 7) Cd e2_Notes___setitem__ [7]))
def r2_Notes___setitem__ : SO := Ca s2_Notes___setitem__ r3_Notes___setitem__
def s1_Notes___setitem__ : SO := (Cy (Fc (Bc 2)) (Ep 3) b1_Notes___setitem__)
def r1_Notes___setitem__ : SO := Ca s1_Notes___setitem__ r2_Notes___setitem__
def g_Notes___setitem__ : SO := r1_Notes___setitem__
def Fn_Notes___setitem__ : List D → Option FOut := Ci [.mu, .bo, .bo] 9 g_Notes___setitem__
def e1_Crowd___str__ : En → M D := (Ez D.str1 (Ac (Aa 1) Ba))
def s1_Crowd___str__ : SO := (Cf .fresh (fJoin (fC (.str " ")) (fLc (Fc (Fb (fldD 0 0) (Aa 0))) (Ep 1) Cd e1_Crowd___str__ [1])))
def r1_Crowd___str__ : SO := s1_Crowd___str__
def g_Crowd___str__ : SO := r1_Crowd___str__
def Fn_Crowd___str__ : List D → Option FOut := Ci [.bo] 2 g_Crowd___str__
def e1_Notes_lines : En → M D := (fJs [(Fb D.fmt3 (Aa 1)), (fC (.str " | ")), (Fb D.fmt8 (Ez (opStrO 0 Fn_Crowd___str__) (Ac (Aa 2) Ba))), (fC (.str "|"))] Str.empty)
def s1_Notes_lines : SO := (Cf .fresh (fLc (Fc (Fb (fldD 3 1) (Aa 0))) (Et (Ce (Ep 1) (Ce (Ep 2) Es))) Cd e1_Notes_lines [1, 2]))
def r1_Notes_lines : SO := s1_Notes_lines
def g_Notes_lines : SO := r1_Notes_lines
def Fn_Notes_lines : List D → Option FOut := Ci [.bo] 3 g_Notes_lines
def e1__law_lines : En → M D := (Ez D.str1 (Ac (Aa 5) Ba))
def b1__law_lines : SO := (Ca (Bb 3 (Ez D.str1 (Ac (Az ixL (Aa 2) (fC (.int 0))) Ba)))
  (Ca (Bb 4 (fJoin (fC (.str " ")) (fLc (Fc (Az ixL (Aa 2) (fC (.int 1)))) (Ep 5) Cd e1__law_lines [5])))
  (Ee 1 (Ac (Az D.add (Az D.add (Az D.add (Az D.add (Az D.add (Az mulS (fC (.str " ")) (Az D.sub (fC (.int 3)) (Ez D.lenS (Ac (Aa 3) Ba)))) (Aa 3)) (fC (.str " | "))) (Aa 4)) (Az mulS (fC (.str " ")) (Az D.sub (fC (.int 8)) (Ez D.lenS (Ac (Aa 4) Ba))))) (fC (.str "|"))) Ba) Ef)))
def s3__law_lines : SO := (Bf 1)
def r3__law_lines : SO := s3__law_lines
def s2__law_lines : SO := (Cy (Fc (Bc 0)) (Ep 2) b1__law_lines)
def r2__law_lines : SO := Ca s2__law_lines r3__law_lines
def s1__law_lines : SO := (Bd 1 (Ck Ba))
def r1__law_lines : SO := Ca s1__law_lines r2__law_lines
def g__law_lines : SO := r1__law_lines
def Fn__law_lines : List D → Option FOut := Ci [.bo] 6 g__law_lines
def s1__law_is_integer : SO := (Cf .fresh (Bg (fIsi (Aa 0) (fC (.typ "int"))) (Bj (fIsi (Aa 0) (fC (.typ "bool"))))))
def r1__law_is_integer : SO := s1__law_is_integer
def g__law_is_integer : SO := r1__law_is_integer
def Fn__law_is_integer : List D → Option FOut := Ci [.bo] 1 g__law_is_integer
def s3__law_entry : SO := (Cf .fresh (Ea (Ac (Az ixL (Aa 0) (fC (.int 0))) (Ac (Fb (fldD 0 0) (Az ixL (Aa 0) (fC (.int 1)))) Ba))))
def r3__law_entry : SO := s3__law_entry
def s2__law_entry : SO := (Fd (Ff (Cz (Cc (fIsi (Az ixL (Aa 0) (fC (.int 1))) (fC (.cls 0))))) (Cz (Cc (fIsi (Fb (fldD 0 0) (Az ixL (Aa 0) (fC (.int 1)))) (fC (.typ "tuple")))))) (Cf .fresh (fC .non)) Fe)
def r2__law_entry : SO := Ca s2__law_entry r3__law_entry
def s1__law_entry : SO := (Fd (Ff (Cz (Cc (fIsi (Aa 0) (fC (.typ "tuple"))))) (Ff (Cc (Az D.ne (Ez D.len (Ac (Aa 0) Ba)) (fC (.int 2)))) (Cz (Cc (Ag Fn__law_is_integer (Ac (Az ixL (Aa 0) (fC (.int 0))) Ba)))))) (Cf .fresh (fC .non)) Fe)
def r1__law_entry : SO := Ca s1__law_entry r2__law_entry
def g__law_entry : SO := r1__law_entry
def Fn__law_entry : List D → Option FOut := Ci [.bo] 1 g__law_entry
def e1__law_pairs : En → M D := (Ck (Ac (Ag Fn__law_entry (Ac (Aa 4) Ba)) (Ac (Ag Fn__law_entry (Ac (Aa 5) Ba)) Ba)))
def b1__law_pairs : SO := (Bb 2 (Az D.add (Aa 2) (fLc (fItOL 3 1 (Aa 0)) (Ep 5) Cd e1__law_pairs [5])))
def e2__law_pairs : En → M D := (Ck (Ac (Ay 4) (Ac (Ay 5) Ba)))
def b2__law_pairs : SO := (Bb 3 (Az D.add (Aa 3) (fLc (Fc (Bc 1)) (Ep 5) Cd e2__law_pairs [5])))
def s5__law_pairs : SO := (Cf .fresh (Az D.eq (Aa 2) (Aa 3)))
def r5__law_pairs : SO := s5__law_pairs
def s4__law_pairs : SO := (Cy (Fc (Bc 1)) (Ep 4) b2__law_pairs)
def r4__law_pairs : SO := Ca s4__law_pairs r5__law_pairs
def s3__law_pairs : SO := (Cy (fItOL 3 1 (Aa 0)) (Ep 4) b1__law_pairs)
def r3__law_pairs : SO := Ca s3__law_pairs r4__law_pairs
def s2__law_pairs : SO := (Bb 3 (Ck Ba))
def r2__law_pairs : SO := Ca s2__law_pairs r3__law_pairs
def s1__law_pairs : SO := (Bb 2 (Ck Ba))
def r1__law_pairs : SO := Ca s1__law_pairs r2__law_pairs
def g__law_pairs : SO := r1__law_pairs
def Fn__law_pairs : List D → Option FOut := Ci [.bo, .bo] 6 g__law_pairs
def e1_Notes_copy : En → M D := (Ay 2)
def e2_Notes_copy : En → M D := (fC (.bl true))
def s4_Notes_copy : SO := (Bf 1)
def r4_Notes_copy : SO := s4_Notes_copy
def s3_Notes_copy : SO := (Fg 1 (fDc (fIk (Fb (fldD 3 2) (Aa 0))) (Ep 2) Cd e1_Notes_copy e2_Notes_copy [2]) (setFld 3 2))
def r3_Notes_copy : SO := Ca s3_Notes_copy r4_Notes_copy
def s2_Notes_copy : SO := (Fg 1 (Ez D.list (Ac (Fb (fldD 3 1) (Aa 0)) Ba)) (setFld 3 1))
def r2_Notes_copy : SO := Ca s2_Notes_copy r3_Notes_copy
def s1_Notes_copy : SO := (Bd 1 (fMk 3 Fn_Notes___init__ (Ac (Fb (fldD 3 0) (Aa 0)) Ba)))
def r1_Notes_copy : SO := Ca s1_Notes_copy r2_Notes_copy
def g_Notes_copy : SO := r1_Notes_copy
def Fn_Notes_copy : List D → Option FOut := Ci [.bo] 3 g_Notes_copy
def e1__law_entries : En → M D := (Ag Fn__law_entry (Ac (Aa 1) Ba))
def s1__law_entries : SO := (Cf .fresh (fLc (Fc (Bc 0)) (Ep 1) Cd e1__law_entries [1]))
def r1__law_entries : SO := s1__law_entries
def g__law_entries : SO := r1__law_entries
def Fn__law_entries : List D → Option FOut := Ci [.bo] 2 g__law_entries
def s1_Notes___contains__ : SO := (Cf .fresh (Az (D.inK id) (Ea (Ac (Az ixL (Aa 1) (fC (.int 0))) (Ac (Fb (fldD 0 0) (Az ixL (Aa 1) (fC (.int 1)))) Ba))) (Fb (fldD 3 2) (Aa 0))))
def r1_Notes___contains__ : SO := s1_Notes___contains__
def g_Notes___contains__ : SO := r1_Notes___contains__
def Fn_Notes___contains__ : List D → Option FOut := Ci [.bo, .bo] 2 g_Notes___contains__
def e1_Notes___getitem__ : En → M D := (Ay 3)
def c1_Notes___getitem__ : En → M Bool := (Cc (Az D.eq (Aa 2) (Aa 1)))
def s1_Notes___getitem__ : SO := (Cf .fresh (fLc (Fc (Fb (fldD 3 1) (Aa 0))) (Et (Ce (Ep 2) (Ce (Ep 3) Es))) c1_Notes___getitem__ e1_Notes___getitem__ [2, 3]))
def r1_Notes___getitem__ : SO := s1_Notes___getitem__
def g_Notes___getitem__ : SO := r1_Notes___getitem__
def Fn_Notes___getitem__ : List D → Option FOut := Ci [.bo, .bo] 4 g_Notes___getitem__
def b1_Crowd___le__ : SO := (Fd (Cc (Az D.gt (fCnt (Fb (fldD 0 0) (Aa 0)) (Aa 2)) (fCnt (Fb (fldD 0 0) (Aa 1)) (Aa 2)))) (Cf .fresh (fC (.bl false))) Fe)
def s2_Crowd___le__ : SO := (Cf .fresh (fC (.bl true)))
def r2_Crowd___le__ : SO := s2_Crowd___le__
def s1_Crowd___le__ : SO := (Cy (Fc (Fb (fldD 0 0) (Aa 0))) (Ep 2) b1_Crowd___le__)
def r1_Crowd___le__ : SO := Ca s1_Crowd___le__ r2_Crowd___le__
def g_Crowd___le__ : SO := r1_Crowd___le__
def Fn_Crowd___le__ : List D → Option FOut := Ci [.bo, .bo] 3 g_Crowd___le__
def e1_Crowd_lots : En → M D := (Ay 6)
def c1_Crowd_lots : En → M Bool := (Cc (Az D.nin (Aa 6) (fSl (Fb (fldD 0 0) (Aa 0)) none (some (Aa 5)))))
def i1_Crowd_lots : En → M (List D) := (Fc (Bc 2))
def c2_Crowd_lots : En → M Bool := (Em (Ff (Cc (Az D.eq (Aa 7) (Ea Ba))) (Cc (Az D.le (Az ixL (Aa 7) (Fb D.neg (fC (.int 1)))) (Aa 6)))) (Cc (Az D.lt (fCnt (Aa 7) (Aa 6)) (fCnt (Fb (fldD 0 0) (Aa 0)) (Aa 6)))))
def e2_Crowd_lots : En → M D := (Az D.add (Aa 7) (Ea (Ac (Ay 6) Ba)))
def b1_Crowd_lots : SO := (El 3 (Bd 3 (fLc2 (Fc (Bc 3)) (Ep 7) Cd i1_Crowd_lots (Ep 6) c2_Crowd_lots e2_Crowd_lots [7, 6] [6])))
def e3_Crowd_lots : En → M D := (fMk 0 Fn_Crowd___init__ (Ac (Aa 7) Ba))
def s4_Crowd_lots : SO := (Be 3 (Cf .fresh (fLc (Fc (Bc 3)) (Ep 7) Cd e3_Crowd_lots [7])))
def r4_Crowd_lots : SO := s4_Crowd_lots
def s3_Crowd_lots : SO := (Cy (Ed rng1 (Ac (Aa 1) Ba)) (Ep 4) b1_Crowd_lots)
def r3_Crowd_lots : SO := Ca s3_Crowd_lots r4_Crowd_lots
def s2_Crowd_lots : SO := (Bb 3 (Ck (Ac (Ea Ba) Ba)))
def r2_Crowd_lots : SO := Ca s2_Crowd_lots r3_Crowd_lots
def s1_Crowd_lots : SO := (Bb 2 (fLc (Cl (Fb (fldD 0 0) (Aa 0))) (Et (Ce (Ep 5) (Ce (Ep 6) Es))) c1_Crowd_lots e1_Crowd_lots [5, 6]))
def r1_Crowd_lots : SO := Ca s1_Crowd_lots r2_Crowd_lots
def g_Crowd_lots : SO := r1_Crowd_lots
def Fn_Crowd_lots : List D → Option FOut := Ci [.bo, .bo] 8 g_Crowd_lots
def e1_Notes_admits : En → M D := (fOwn2 0 Eu Fn_Crowd___le__ (Aa 2) (Aa 3))
def e2_Notes_admits : En → M D := (Az (Ch 3 Fn_Notes___contains__ false) (Ea (Ac (Ay 1) (Ac (Ay 4) Ba))) (Aa 0))
def s2_Notes_admits : SO := (Cf .fresh (Ez D.allL (Ac (fLc (Fc (fMe 0 Fn_Crowd_lots (Aa 2) (Ac (Fb (fldD 3 0) (Aa 0)) Ba) Cr)) (Ep 4) Cd e2_Notes_admits [4]) Ba)))
def r2_Notes_admits : SO := s2_Notes_admits
def s1_Notes_admits : SO := (Fd (Cc (Az D.lt (Ez (opLenO 0 Fn_Crowd___len__) (Ac (Aa 2) Ba)) (Fb (fldD 3 0) (Aa 0)))) (Cf .fresh (Ez D.anyL (Ac (fLc (Fc (Az (opGetO 3 Fn_Notes___getitem__) (Aa 0) (Aa 1))) (Ep 3) Cd e1_Notes_admits [3]) Ba))) Fe)
def r1_Notes_admits : SO := Ca s1_Notes_admits r2_Notes_admits
def g_Notes_admits : SO := r1_Notes_admits
def Fn_Notes_admits : List D → Option FOut := Ci [.bo, .bo, .bo] 5 g_Notes_admits
def e1_Notes_lets : En → M D := (Ay 3)
def e2_Notes_lets : En → M D := (fMe 3 Fn_Notes_admits (Aa 0) (Ac (Aa 3) (Ac (Fb (fldD 2 0) (Aa 1)) Ba)) Cr)
def s3_Notes_lets : SO := (Be 2 (Cf .fresh (Ez D.anyL (Ac (fLc (Fc (Bc 2)) (Ep 3) Cd e2_Notes_lets [3]) Ba))))
def r3_Notes_lets : SO := s3_Notes_lets
def s2_Notes_lets : SO := (Fd (Cc (Az D.isN (Aa 2) (fC .non))) (Bd 2 (fLc (Ed rng1 (Ac (fCv 1 (.int 48) (fC (.cls 1))) Ba)) (Ep 3) Cd e1_Notes_lets [3])) Fe)
def r2_Notes_lets : SO := Ca s2_Notes_lets r3_Notes_lets
def s1_Notes_lets : SO := (Bb 2 (Fb (fldD 2 1) (Aa 1)))
def r1_Notes_lets : SO := Ca s1_Notes_lets r2_Notes_lets
def g_Notes_lets : SO := r1_Notes_lets
def Fn_Notes_lets : List D → Option FOut := Ci [.bo, .bo] 4 g_Notes_lets
def e1_Ban___init__ : En → M D := (Ay 4)
def c1_Ban___init__ : En → M Bool := (Cc (Az D.inn (Aa 4) (Aa 2)))
def e2_Ban___init__ : En → M D := (Az D.nin (Aa 4) (Aa 3))
def s4_Ban___init__ : SO := (Fd (Cc (Az D.isNot (Aa 2) (fC .non))) (Ca (Bb 3 (Ez D.tupl (Ac (fLc (Ed rng1 (Ac (fCv 1 (.int 48) (fC (.cls 1))) Ba)) (Ep 4) c1_Ban___init__ e1_Ban___init__ [4]) Ba)))
  (Ca (Fd (Ff (Cc (Az D.eq (Aa 3) (Ea Ba))) (Cc (Ez D.anyL (Ac (fLc (Fc (Bc 2)) (Ep 4) Cd e2_Ban___init__ [4]) Ba)))) (Bh 103) Fe)
  (Fg 0 (Ay 3) (setFld 2 1)))) Fe)
def r4_Ban___init__ : SO := s4_Ban___init__
def s3_Ban___init__ : SO := (Fg 0 (fC .non) (setFld 2 1))
def r3_Ban___init__ : SO := Ca s3_Ban___init__ r4_Ban___init__
def s2_Ban___init__ : SO := (Fg 0 (Ay 1) (setFld 2 0))
def r2_Ban___init__ : SO := Ca s2_Ban___init__ r3_Ban___init__
def s1_Ban___init__ : SO := (Fd (Cc (Az D.gt (Ez (opLenO 0 Fn_Crowd___len__) (Ac (Aa 1) Ba)) (fCv 2 (.int 4) (fC (.cls 2))))) (Bh 103) Fe)
def r1_Ban___init__ : SO := Ca s1_Ban___init__ r2_Ban___init__
def g_Ban___init__ : SO := r1_Ban___init__
def Fn_Ban___init__ : List D → Option FOut := Ci [.mu, .sh, .bo] 5 g_Ban___init__
def s1_Notes___len__ : SO := (Cf .fresh (Ez D.len (Ac (Fb (fldD 3 1) (Aa 0)) Ba)))
def r1_Notes___len__ : SO := s1_Notes___len__
def g_Notes___len__ : SO := r1_Notes___len__
def Fn_Notes___len__ : List D → Option FOut := Ci [.bo] 1 g_Notes___len__
def e1__law_asked : En → M D := (Fb (fldD 0 0) (Aa 7))
def e2__law_asked : En → M D := (Az ixL (Aa 7) (fC (.int 1)))
def c1__law_asked : En → M Bool := (Cc (Az D.eq (Az ixL (Aa 7) (fC (.int 0))) (Az ixL (Aa 3) (fC (.int 0)))))
def b1__law_asked : SO := (Ca (Bb 4 (Az D.inn (Aa 3) (Aa 1)))
  (Ca (Bb 5 (fMk 0 Fn_Crowd___init__ (Ac (Az ixL (Aa 3) (fC (.int 1))) Ba)))
  (Ca (Bb 6 (Ck (Ac (Az (Ch 3 Fn_Notes___contains__ false) (Ea (Ac (Az ixL (Aa 3) (fC (.int 0))) (Ac (Ay 5) Ba))) (Aa 0)) (Ac (fMe 3 Fn_Notes_admits (Aa 0) (Ac (Az ixL (Aa 3) (fC (.int 0))) (Ac (Aa 5) Ba)) Cr) (Ac (fMe 3 Fn_Notes_lets (Aa 0) (Ac (fMkK 2 Fn_Ban___init__ (Ac (Ay 5) Ba) (Ck (Ac (Az ixL (Aa 3) (fC (.int 0))) Ba))) Ba) Cr) Ba)))))
  (Ca (Fd (Cc (Az D.ne (Aa 6) (Ck (Ac (Ay 4) (Ac (Ay 4) (Ac (Ay 4) Ba)))))) (Cf .fresh (fC (.bl false))) Fe)
  (Fd (Cc (Az D.ne (fLc (Fc (Az (opGetO 3 Fn_Notes___getitem__) (Aa 0) (Az ixL (Aa 3) (fC (.int 0))))) (Ep 7) Cd e1__law_asked [7]) (fLc (Fc (Bc 1)) (Ep 7) c1__law_asked e2__law_asked [7]))) (Cf .fresh (fC (.bl false))) Fe)))))
def s2__law_asked : SO := (Cf .fresh (Bg (Az D.eq (Ez (opLenO 3 Fn_Notes___len__) (Ac (Aa 0) Ba)) (Ez D.len (Ac (Aa 1) Ba))) (Az D.eq (fMe 3 Fn_Notes_lines (Aa 0) Ba Cr) (Ag Fn__law_lines (Ac (Aa 1) Ba)))))
def r2__law_asked : SO := s2__law_asked
def s1__law_asked : SO := (Cy (Fc (Az D.add (Aa 1) (Aa 2))) (Ep 3) b1__law_asked)
def r1__law_asked : SO := Ca s1__law_asked r2__law_asked
def g__law_asked : SO := r1__law_asked
def Fn__law_asked : List D → Option FOut := Ci [.bo, .bo, .bo] 8 g__law_asked
def e1_law : En → M D := (Az D.mod (Ez D.int1 (Ac (Az ixL (Aa 1) (Az D.add (Az D.add (fC (.int 10)) (Az D.mul (fC (.int 4)) (Aa 5))) (Aa 14))) Ba)) (Aa 3))
def b1_law : SO := (Ca (Bb 6 (Ez D.tupl (Ac (Ez D.sorted (Ac (fLc (Ed rng1 (Ac (Aa 2) Ba)) (Ep 14) Cd e1_law [14]) Ba)) Ba)))
  (Ee 4 (Ac (Ea (Ac (Az D.add (Az ixL (Ck (Ac (fC (.int 5)) (Ac (fC (.int 10)) (Ac (fC (.int 47)) (Ac (fC (.int 9)) (Ac (fC (.int 5)) (Ac (fC (.int 0)) Ba))))))) (Aa 5)) (Az D.mul (Az D.mod (Ez D.int1 (Ac (Az ixL (Aa 1) (fC (.int 3))) Ba)) (fC (.int 2))) (Az D.mod (Aa 5) (fC (.int 2))))) (Ac (Ay 6) Ba))) Ba) Ef))
def e2_law : En → M D := (Az ixL (Aa 15) (fC (.int 0)))
def e3_law : En → M D := (fMk 0 Fn_Crowd___init__ (Ac (Az ixL (Aa 15) (fC (.int 1))) Ba))
def c1_law : En → M Bool := (Cc (Az D.eq (Az ixL (Aa 15) (fC (.int 0))) (Aa 8)))
def b2_law : SO := (Be 4 (Fd (Cc (Az D.inn (Aa 8) (fLc (Fc (Bc 4)) (Ep 15) Cd e2_law [15]))) (Be 4 (gSetO 7 3 Fn_Notes___setitem__ (fLc (Fc (Bc 4)) (Ep 15) c1_law e3_law [15]) (Bc 8))) Fe))
def e4_law : En → M D := (fIsi (Aa 16) (fC (.typ "str")))
def e5_law : En → M D := (Ay 15)
def e6_law : En → M D := (Ay 15)
def c2_law : En → M Bool := (Cc (Az D.ne (Az ixL (Aa 15) (fC (.int 0))) (fC (.int 5))))
def e7_law : En → M D := (Ay 15)
def e8_law : En → M D := (Ay 15)
def e9_law : En → M D := (Ay 15)
def c3_law : En → M Bool := (Cc (Az D.ne (Az ixL (Aa 15) (fC (.int 0))) (fC (.int 10))))
def e10_law : En → M D := (Ay 15)
def e11_law : En → M D := (Ay 15)
def s25_law : SO := (Cf .fresh (Bg (Ag Fn__law_asked (Ac (Aa 7) (Ac (Aa 13) (Ac (Aa 4) Ba)))) (Bg (Ag Fn__law_asked (Ac (Aa 10) (Ac (Aa 11) (Ac (Az D.add (Aa 4) (Aa 12)) Ba)))) (Bg (Ag Fn__law_asked (Ac (Aa 7) (Ac (Aa 13) (Ac (Ck Ba) Ba)))) (Ag Fn__law_pairs (Ac (Aa 10) (Ac (Aa 11) Ba)))))))
def r25_law : SO := s25_law
def s24_law : SO := (Fd (Ff (Cc (Az D.ne (Ag Fn__law_entries (Ac (fLc (fItOL 3 1 (Aa 10)) (Ep 15) Cd e11_law [15]) Ba)) (Aa 11))) (Cc (Az D.ne (fMe 3 Fn_Notes_lines (Aa 10) Ba Cr) (Ag Fn__law_lines (Ac (Aa 11) Ba))))) (Cf .fresh (fC (.bl false))) Fe)
def r24_law : SO := Ca s24_law r25_law
def s23_law : SO := (Fd (Ff (Cc (Az D.ne (Ag Fn__law_entries (Ac (fLc (fItOL 3 1 (Aa 7)) (Ep 15) Cd e10_law [15]) Ba)) (Aa 13))) (Cc (Az D.ne (fMe 3 Fn_Notes_lines (Aa 7) Ba Cr) (Ag Fn__law_lines (Ac (Aa 13) Ba))))) (Cf .fresh (fC (.bl false))) Fe)
def r23_law : SO := Ca s23_law r24_law
def s22_law : SO := (Be 4 (Bb 13 (Ag Fn__law_ranked (Ac (Az D.add (fLc (Fc (Bc 4)) (Ep 15) c3_law e9_law [15]) (Aa 12)) Ba))))
def r22_law : SO := Ca s22_law r23_law
def s21_law : SO := (Bb 12 (Ck (Ac (Ea (Ac (fC (.int 10)) (Ac (Az mulT (Ea (Ac (fC (.int 1)) Ba)) (Aa 2)) Ba))) (Ac (Ea (Ac (fC (.int 10)) (Ac (Az mulT (Ea (Ac (fC (.int 2)) Ba)) (Aa 2)) Ba))) Ba))))
def r21_law : SO := Ca s21_law r22_law
def s20_law : SO := (gSetO 7 3 Fn_Notes___setitem__ (Ck (Ac (fMk 0 Fn_Crowd___init__ (Ac (Az D.mul (Ck (Ac (fC (.int 2)) Ba)) (Aa 2)) Ba)) (Ac (fMk 0 Fn_Crowd___init__ (Ac (Az D.mul (Ck (Ac (fC (.int 1)) Ba)) (Aa 2)) Ba)) Ba))) (fC (.int 10)))
def r20_law : SO := Ca s20_law r21_law
def s19_law : SO := (Fd (Ff (Cz (Cc (Ag Fn__law_asked (Ac (Aa 10) (Ac (Aa 11) (Ac (Aa 4) Ba)))))) (Cz (Cc (Ag Fn__law_asked (Ac (Aa 7) (Ac (Aa 4) (Ac (Ck Ba) Ba))))))) (Cf .fresh (fC (.bl false))) Fe)
def r19_law : SO := Ca s19_law r20_law
def s18_law : SO := (Fd (Ff (Cc (Az D.ne (Ag Fn__law_entries (Ac (fLc (fItOL 3 1 (Aa 7)) (Ep 15) Cd e7_law [15]) Ba)) (Aa 4))) (Cc (Az D.ne (Ag Fn__law_entries (Ac (fLc (fItOL 3 1 (Aa 10)) (Ep 15) Cd e8_law [15]) Ba)) (Aa 11)))) (Cf .fresh (fC (.bl false))) Fe)
def r18_law : SO := Ca s18_law r19_law
def s17_law : SO := (Be 4 (Bd 11 (fLc (Fc (Bc 4)) (Ep 15) c2_law e6_law [15])))
def r17_law : SO := Ca s17_law r18_law
def s16_law : SO := (gSetO 10 3 Fn_Notes___setitem__ (Ck Ba) (fC (.int 5)))
def r16_law : SO := Ca s16_law r17_law
def s15_law : SO := (Fd (Ff (Cz (Cc (Ag Fn__law_asked (Ac (Aa 7) (Ac (Aa 4) (Ac (Ck Ba) Ba)))))) (Cz (Cc (Ag Fn__law_asked (Ac (Aa 10) (Ac (Aa 4) (Ac (Ck Ba) Ba))))))) (Cf .fresh (fC (.bl false))) Fe)
def r15_law : SO := Ca s15_law r16_law
def s14_law : SO := (Fd (Ff (Cz (Cc (fIsi (Aa 10) (fC (.cls 3))))) (Ff (Cc (Az D.ne (Fb (fldD 3 0) (Aa 10)) (Aa 2))) (Cc (Az D.ne (Ag Fn__law_entries (Ac (fLc (fItOL 3 1 (Aa 10)) (Ep 15) Cd e5_law [15]) Ba)) (Aa 4))))) (Cf .fresh (fC (.bl false))) Fe)
def r14_law : SO := Ca s14_law r15_law
def s13_law : SO := (Bd 10 (fMe 3 Fn_Notes_copy (Aa 7) Ba Cr))
def r13_law : SO := Ca s13_law r14_law
def s12_law : SO := (Fd (Ff (Cc (Az D.ne (fMe 3 Fn_Notes_lines (Aa 7) Ba Cr) (Ag Fn__law_lines (Ac (Aa 4) Ba)))) (Cz (Cc (Ag Fn__law_pairs (Ac (Aa 7) (Ac (Aa 4) Ba)))))) (Cf .fresh (fC (.bl false))) Fe)
def r12_law : SO := Ca s12_law r13_law
def s11_law : SO := (Ee 9 (Ac (fC (.str "")) Ba) Ef)
def r11_law : SO := Ca s11_law r12_law
def s10_law : SO := (Be 9 (Fd (Ff (Cz (Cc (fIsi (Aa 9) (fC (.typ "list"))))) (Ff (Cc (Az D.ne (Aa 9) (Ag Fn__law_lines (Ac (Aa 4) Ba)))) (Cc (Az D.inn (fC (.bl false)) (fLc (Fc (Bc 9)) (Ep 16) Cd e4_law [16]))))) (Cf .fresh (fC (.bl false))) Fe))
def r10_law : SO := Ca s10_law r11_law
def s9_law : SO := (Bd 9 (fMe 3 Fn_Notes_lines (Aa 7) Ba Cr))
def r9_law : SO := Ca s9_law r10_law
def s8_law : SO := (Cy (Ed rng1 (Ac (fC (.int 48)) Ba)) (Ep 8) b2_law)
def r8_law : SO := Ca s8_law r9_law
def s7_law : SO := (Bd 7 (fMk 3 Fn_Notes___init__ (Ac (Aa 2) Ba)))
def r7_law : SO := Ca s7_law r8_law
def s6_law : SO := (El 4 (Bd 4 (Ag Fn__law_ranked (Ac (Aa 4) Ba))))
def r6_law : SO := Ca s6_law r7_law
def s5_law : SO := (Cy (Ed rng1 (Ac (Az D.mod (Ez D.int1 (Ac (Az ixL (Aa 1) (fC (.int 2))) Ba)) (fC (.int 7))) Ba)) (Ep 5) b1_law)
def r5_law : SO := Ca s5_law r6_law
def s4_law : SO := (Bd 4 (Ck Ba))
def r4_law : SO := Ca s4_law r5_law
def s3_law : SO := (Bb 3 (Az ixL (Ck (Ac (fC (.int 3)) (Ac (fC (.int 996)) Ba))) (Az D.mod (Ez D.int1 (Ac (Az ixL (Aa 1) (fC (.int 1))) Ba)) (fC (.int 2)))))
def r3_law : SO := Ca s3_law r4_law
def s2_law : SO := (Bb 2 (Az D.mod (Ez D.int1 (Ac (Az D.add (Az ixL (Aa 1) (fC (.int 0))) (fC (.int 3))) Ba)) (fC (.int 5))))
def r2_law : SO := Ca s2_law r3_law
def s1_law : SO := (Bb 1 (Ag Fn__law_draws (Ac (Ag Fn__law_cell (Ac (Aa 0) (Ac (fC (.int 0)) Ba))) (Ac (fC (.int 40)) Ba))))
def r1_law : SO := Ca s1_law r2_law
def g_law : SO := r1_law
def Fn_law : List D → Option FOut := Ci [.bo] 17 g_law
structure Txt (G : Gm) where
  gok : GOk G
  xok : XOk G
  C_Crowd : Addr
  ct_Crowd : G.ct 0 = some (C_Crowd, (["members"] : List Str))
  mg_Crowd : G.mg "Crowd" = some (.ref C_Crowd)
  C_Program : Addr
  ct_Program : G.ct 1 = some (C_Program, (["states", "locations", "steps", "start"] : List Str))
  mg_Program : G.mg "Program" = some (.ref C_Program)
  C_Ban : Addr
  ct_Ban : G.ct 2 = some (C_Ban, (["crowd", "states"] : List Str))
  mg_Ban : G.mg "Ban" = some (.ref C_Ban)
  C_Notes : Addr
  ct_Notes : G.ct 3 = some (C_Notes, (["width", "rows", "known"] : List Str))
  mg_Notes : G.mg "Notes" = some (.ref C_Notes)
  C_CrowdError : Addr
  ct_CrowdError : G.ct 101 = some (C_CrowdError, ([] : List Str))
  mg_CrowdError : G.mg "CrowdError" = some (.ref C_CrowdError)
  C_BanError : Addr
  ct_BanError : G.ct 103 = some (C_BanError, ([] : List Str))
  mg_BanError : G.mg "BanError" = some (.ref C_BanError)
  C_RangeError : Addr
  ct_RangeError : G.ct 104 = some (C_RangeError, ([] : List Str))
  mg_RangeError : G.mg "RangeError" = some (.ref C_RangeError)
  m_abs : G.mg "abs" = none
  m_all : G.mg "all" = none
  m_any : G.mg "any" = none
  m_bool : G.mg "bool" = none
  m_enumerate : G.mg "enumerate" = none
  m_int : G.mg "int" = none
  m_isinstance : G.mg "isinstance" = none
  m_iter : G.mg "iter" = none
  m_len : G.mg "len" = none
  m_list : G.mg "list" = none
  m_range : G.mg "range" = none
  m_sorted : G.mg "sorted" = none
  m_str : G.mg "str" = none
  m_tuple : G.mg "tuple" = none
  f__law_draws : Addr
  fd__law_draws : FuncData
  F__law_draws : FunD G.K "_law_draws" "_law_draws" (defArgs s__law_draws) (defBody s__law_draws) (defScope s__law_draws) [] [] f__law_draws fd__law_draws
  b__law_draws : Binds G.K fd__law_draws (["_law_cell_here", "_law_many"] : List Str) []
  g__law_draws : G.mg "_law_draws" = some (.ref f__law_draws)
  f__law_cell : Addr
  fd__law_cell : FuncData
  F__law_cell : FunD G.K "_law_cell" "_law_cell" (defArgs s__law_cell) (defBody s__law_cell) (defScope s__law_cell) [] [] f__law_cell fd__law_cell
  b__law_cell : Binds G.K fd__law_cell (["_law_script", "_law_k"] : List Str) []
  g__law_cell : G.mg "_law_cell" = some (.ref f__law_cell)
  f__law_ranked : Addr
  fd__law_ranked : FuncData
  F__law_ranked : FunD G.K "_law_ranked" "_law_ranked" (defArgs s__law_ranked) (defBody s__law_ranked) (defScope s__law_ranked) [] [] f__law_ranked fd__law_ranked
  b__law_ranked : Binds G.K fd__law_ranked (["_law_rows"] : List Str) []
  g__law_ranked : G.mg "_law_ranked" = some (.ref f__law_ranked)
  f_Notes___init__ : Addr
  fd_Notes___init__ : FuncData
  F_Notes___init__ : FunD G.K "__init__" "Notes.__init__" (defArgs s_Notes___init__) (defBody s_Notes___init__) (defScope s_Notes___init__) [] [] f_Notes___init__ fd_Notes___init__
  b_Notes___init__ : Binds G.K fd_Notes___init__ (["self", "width"] : List Str) []
  f_Crowd___len__ : Addr
  fd_Crowd___len__ : FuncData
  F_Crowd___len__ : FunD G.K "__len__" "Crowd.__len__" (defArgs s_Crowd___len__) (defBody s_Crowd___len__) (defScope s_Crowd___len__) [] [] f_Crowd___len__ fd_Crowd___len__
  b_Crowd___len__ : Binds G.K fd_Crowd___len__ (["self"] : List Str) []
  f_ordered : Addr
  fd_ordered : FuncData
  F_ordered : FunD G.K "ordered" "ordered" (defArgs s_ordered) (defBody s_ordered) (defScope s_ordered) [] [] f_ordered fd_ordered
  b_ordered : Binds G.K fd_ordered (["rows"] : List Str) []
  g_ordered : G.mg "ordered" = some (.ref f_ordered)
  f_Crowd___init__ : Addr
  fd_Crowd___init__ : FuncData
  t_Crowd___init___0 : Addr
  F_Crowd___init__ : FunD G.K "__init__" "Crowd.__init__" (defArgs s_Crowd___init__) (defBody s_Crowd___init__) (defScope s_Crowd___init__) [.ref t_Crowd___init___0] [] f_Crowd___init__ fd_Crowd___init__
  b_Crowd___init__ : Binds G.K fd_Crowd___init__ (["self", "locations"] : List Str) []
  f_Notes___setitem__ : Addr
  fd_Notes___setitem__ : FuncData
  F_Notes___setitem__ : FunD G.K "__setitem__" "Notes.__setitem__" (defArgs s_Notes___setitem__) (defBody s_Notes___setitem__) (defScope s_Notes___setitem__) [] [] f_Notes___setitem__ fd_Notes___setitem__
  b_Notes___setitem__ : Binds G.K fd_Notes___setitem__ (["self", "state", "crowds"] : List Str) []
  f_Crowd___str__ : Addr
  fd_Crowd___str__ : FuncData
  F_Crowd___str__ : FunD G.K "__str__" "Crowd.__str__" (defArgs s_Crowd___str__) (defBody s_Crowd___str__) (defScope s_Crowd___str__) [] [] f_Crowd___str__ fd_Crowd___str__
  b_Crowd___str__ : Binds G.K fd_Crowd___str__ (["self"] : List Str) []
  f_Notes_lines : Addr
  fd_Notes_lines : FuncData
  F_Notes_lines : FunD G.K "lines" "Notes.lines" (defArgs s_Notes_lines) (defBody s_Notes_lines) (defScope s_Notes_lines) [] [] f_Notes_lines fd_Notes_lines
  b_Notes_lines : Binds G.K fd_Notes_lines (["self"] : List Str) []
  f__law_lines : Addr
  fd__law_lines : FuncData
  F__law_lines : FunD G.K "_law_lines" "_law_lines" (defArgs s__law_lines) (defBody s__law_lines) (defScope s__law_lines) [] [] f__law_lines fd__law_lines
  b__law_lines : Binds G.K fd__law_lines (["_law_rows"] : List Str) []
  g__law_lines : G.mg "_law_lines" = some (.ref f__law_lines)
  f_Notes___iter__ : Addr
  fd_Notes___iter__ : FuncData
  F_Notes___iter__ : FunD G.K "__iter__" "Notes.__iter__" (defArgs s_Notes___iter__) (defBody s_Notes___iter__) (defScope s_Notes___iter__) [] [] f_Notes___iter__ fd_Notes___iter__
  b_Notes___iter__ : Binds G.K fd_Notes___iter__ (["self"] : List Str) []
  f__law_is_integer : Addr
  fd__law_is_integer : FuncData
  F__law_is_integer : FunD G.K "_law_is_integer" "_law_is_integer" (defArgs s__law_is_integer) (defBody s__law_is_integer) (defScope s__law_is_integer) [] [] f__law_is_integer fd__law_is_integer
  b__law_is_integer : Binds G.K fd__law_is_integer (["_law_x"] : List Str) []
  g__law_is_integer : G.mg "_law_is_integer" = some (.ref f__law_is_integer)
  f__law_entry : Addr
  fd__law_entry : FuncData
  F__law_entry : FunD G.K "_law_entry" "_law_entry" (defArgs s__law_entry) (defBody s__law_entry) (defScope s__law_entry) [] [] f__law_entry fd__law_entry
  b__law_entry : Binds G.K fd__law_entry (["_law_row"] : List Str) []
  g__law_entry : G.mg "_law_entry" = some (.ref f__law_entry)
  f__law_pairs : Addr
  fd__law_pairs : FuncData
  F__law_pairs : FunD G.K "_law_pairs" "_law_pairs" (defArgs s__law_pairs) (defBody s__law_pairs) (defScope s__law_pairs) [] [] f__law_pairs fd__law_pairs
  b__law_pairs : Binds G.K fd__law_pairs (["_law_notes", "_law_rows"] : List Str) []
  g__law_pairs : G.mg "_law_pairs" = some (.ref f__law_pairs)
  f_Notes_copy : Addr
  fd_Notes_copy : FuncData
  F_Notes_copy : FunD G.K "copy" "Notes.copy" (defArgs s_Notes_copy) (defBody s_Notes_copy) (defScope s_Notes_copy) [] [] f_Notes_copy fd_Notes_copy
  b_Notes_copy : Binds G.K fd_Notes_copy (["self"] : List Str) []
  f__law_entries : Addr
  fd__law_entries : FuncData
  F__law_entries : FunD G.K "_law_entries" "_law_entries" (defArgs s__law_entries) (defBody s__law_entries) (defScope s__law_entries) [] [] f__law_entries fd__law_entries
  b__law_entries : Binds G.K fd__law_entries (["_law_rows"] : List Str) []
  g__law_entries : G.mg "_law_entries" = some (.ref f__law_entries)
  f_Notes___contains__ : Addr
  fd_Notes___contains__ : FuncData
  F_Notes___contains__ : FunD G.K "__contains__" "Notes.__contains__" (defArgs s_Notes___contains__) (defBody s_Notes___contains__) (defScope s_Notes___contains__) [] [] f_Notes___contains__ fd_Notes___contains__
  b_Notes___contains__ : Binds G.K fd_Notes___contains__ (["self", "entry"] : List Str) []
  f_Notes___getitem__ : Addr
  fd_Notes___getitem__ : FuncData
  F_Notes___getitem__ : FunD G.K "__getitem__" "Notes.__getitem__" (defArgs s_Notes___getitem__) (defBody s_Notes___getitem__) (defScope s_Notes___getitem__) [] [] f_Notes___getitem__ fd_Notes___getitem__
  b_Notes___getitem__ : Binds G.K fd_Notes___getitem__ (["self", "state"] : List Str) []
  f_Crowd___le__ : Addr
  fd_Crowd___le__ : FuncData
  F_Crowd___le__ : FunD G.K "__le__" "Crowd.__le__" (defArgs s_Crowd___le__) (defBody s_Crowd___le__) (defScope s_Crowd___le__) [] [] f_Crowd___le__ fd_Crowd___le__
  b_Crowd___le__ : Binds G.K fd_Crowd___le__ (["self", "other"] : List Str) []
  f_Crowd_lots : Addr
  fd_Crowd_lots : FuncData
  F_Crowd_lots : FunD G.K "lots" "Crowd.lots" (defArgs s_Crowd_lots) (defBody s_Crowd_lots) (defScope s_Crowd_lots) [] [] f_Crowd_lots fd_Crowd_lots
  b_Crowd_lots : Binds G.K fd_Crowd_lots (["self", "size"] : List Str) []
  f_Notes_admits : Addr
  fd_Notes_admits : FuncData
  F_Notes_admits : FunD G.K "admits" "Notes.admits" (defArgs s_Notes_admits) (defBody s_Notes_admits) (defScope s_Notes_admits) [] [] f_Notes_admits fd_Notes_admits
  b_Notes_admits : Binds G.K fd_Notes_admits (["self", "state", "crowd"] : List Str) []
  f_Notes_lets : Addr
  fd_Notes_lets : FuncData
  F_Notes_lets : FunD G.K "lets" "Notes.lets" (defArgs s_Notes_lets) (defBody s_Notes_lets) (defScope s_Notes_lets) [] [] f_Notes_lets fd_Notes_lets
  b_Notes_lets : Binds G.K fd_Notes_lets (["self", "ban"] : List Str) []
  f_Ban___init__ : Addr
  fd_Ban___init__ : FuncData
  F_Ban___init__ : FunD G.K "__init__" "Ban.__init__" (defArgs s_Ban___init__) (defBody s_Ban___init__) (defScope s_Ban___init__) [] [("states", .non)] f_Ban___init__ fd_Ban___init__
  f_Notes___len__ : Addr
  fd_Notes___len__ : FuncData
  F_Notes___len__ : FunD G.K "__len__" "Notes.__len__" (defArgs s_Notes___len__) (defBody s_Notes___len__) (defScope s_Notes___len__) [] [] f_Notes___len__ fd_Notes___len__
  b_Notes___len__ : Binds G.K fd_Notes___len__ (["self"] : List Str) []
  f__law_asked : Addr
  fd__law_asked : FuncData
  F__law_asked : FunD G.K "_law_asked" "_law_asked" (defArgs s__law_asked) (defBody s__law_asked) (defScope s__law_asked) [] [] f__law_asked fd__law_asked
  b__law_asked : Binds G.K fd__law_asked (["_law_notes", "_law_rows", "_law_others"] : List Str) []
  g__law_asked : G.mg "_law_asked" = some (.ref f__law_asked)
  f_law : Addr
  fd_law : FuncData
  F_law : FunD G.K "law" "law" (defArgs s_law) (defBody s_law) (defScope s_law) [] [] f_law fd_law
  b_law : Binds G.K fd_law (["_law_script"] : List Str) []
  g_law : G.mg "law" = some (.ref f_law)
  cl_Crowd : Cls G.K C_Crowd
  cl_Notes : Cls G.K C_Notes
  cr_Ban : ClX.CRead G.K C_Ban (.type "type")
  cr_Notes : ClX.CRead G.K C_Notes (.type "type")
  cr_Program : ClX.CRead G.K C_Program (.type "type")
  uv_Ban_MOST_MEMBERS : Value
  cv_Ban_MOST_MEMBERS : ClX.CVal G.K C_Ban (.type "type") "MOST_MEMBERS" (.int 4) uv_Ban_MOST_MEMBERS
  uv_Notes_MOST_WIDTH : Value
  cv_Notes_MOST_WIDTH : ClX.CVal G.K C_Notes (.type "type") "MOST_WIDTH" (.int 4) uv_Notes_MOST_WIDTH
  uv_Program_MOST_STATES : Value
  cv_Program_MOST_STATES : ClX.CVal G.K C_Program (.type "type") "MOST_STATES" (.int 48) uv_Program_MOST_STATES
  fni_Notes___getitem__ : PySem.W.fnIn G.K f_Notes___getitem__ = true
  kb_Ban___init__ : KB1 G.K fd_Ban___init__ (["self", "crowd", "states"] : List Str) 2 "states"
  me_Crowd___le__ : Meth G.K C_Crowd "__le__" f_Crowd___le__
  me_Crowd___len__ : Meth G.K C_Crowd "__len__" f_Crowd___len__
  me_Crowd___str__ : Meth G.K C_Crowd "__str__" f_Crowd___str__
  me_Crowd_lots : Meth G.K C_Crowd "lots" f_Crowd_lots
  me_Notes___contains__ : Meth G.K C_Notes "__contains__" f_Notes___contains__
  me_Notes___getitem__ : Meth G.K C_Notes "__getitem__" f_Notes___getitem__
  me_Notes___iter__ : Meth G.K C_Notes "__iter__" f_Notes___iter__
  me_Notes___len__ : Meth G.K C_Notes "__len__" f_Notes___len__
  me_Notes___setitem__ : Meth G.K C_Notes "__setitem__" f_Notes___setitem__
  me_Notes_admits : Meth G.K C_Notes "admits" f_Notes_admits
  me_Notes_copy : Meth G.K C_Notes "copy" f_Notes_copy
  me_Notes_lets : Meth G.K C_Notes "lets" f_Notes_lets
  me_Notes_lines : Meth G.K C_Notes "lines" f_Notes_lines
  mk_Ban : Mk G.K C_Ban f_Ban___init__
  mk_Crowd : Mk G.K C_Crowd f_Crowd___init__
  mk_Notes : Mk G.K C_Notes f_Notes___init__
  nsq_Notes : PySem.W.noSeq G.K C_Notes = true
  xc_BanError : PySem.W.excIn G.K C_BanError He.veBase "ValueError.__new__" = true ∧ PySem.W.keepIn G.K (.ref C_BanError) = true ∧ PySem.W.subIn G.K (.ref C_BanError) (.type "BaseException") = some true ∧ PySem.W.typeIn G.K (.ref C_BanError) = some (.type "type")
  xc_CrowdError : PySem.W.excIn G.K C_CrowdError He.veBase "ValueError.__new__" = true ∧ PySem.W.keepIn G.K (.ref C_CrowdError) = true ∧ PySem.W.subIn G.K (.ref C_CrowdError) (.type "BaseException") = some true ∧ PySem.W.typeIn G.K (.ref C_CrowdError) = some (.type "type")
  xc_RangeError : PySem.W.excIn G.K C_RangeError He.veBase "ValueError.__new__" = true ∧ PySem.W.keepIn G.K (.ref C_RangeError) = true ∧ PySem.W.subIn G.K (.ref C_RangeError) (.type "BaseException") = some true ∧ PySem.W.typeIn G.K (.ref C_RangeError) = some (.type "type")
theorem sc__law_draws : FnScope (["_law_cell_here", "_law_many", "_law_row", "_law_rest", "_law_k", "_law_once"] : List Str) (["_law_cell_here", "_law_many"] : List Str) (defScope s__law_draws) := ⟨rfl, rfl, rfl, by decide +kernel, rfl, by decide +kernel, by decide +kernel⟩
theorem jb__law_draws {G : Gm} (T : Txt G) (W : WX) : JB G 0 W (["_law_cell_here", "_law_many", "_law_row", "_law_rest", "_law_k", "_law_once"] : List Str) (defScope s__law_draws) (defBody s__law_draws) g__law_draws :=
  (jb_cons (js_setS (i := 0) rfl (by decide +kernel) (je_abs (by decide +kernel) T.m_abs (fun _ _ => rfl) (fun _ => rfl) (je_intC (by decide +kernel) T.m_int (fun _ _ => rfl) (fun _ => rfl) (je_varP (i := 0) rfl (by decide +kernel) rfl rfl))) (fun _ _ => rfl))
    (jb_cons (js_setF (i := 2) rfl (by decide +kernel) (je_lst (n := 0) ja_nil) (fun _ _ => rfl))
    (jb_cons (js_if (jt_ge (je_varP (i := 0) rfl (by decide +kernel) rfl rfl) (je_pow je_int je_int)) (jb_cons (js_setS (i := 3) rfl (by decide +kernel) (je_sub (je_varP (i := 0) rfl (by decide +kernel) rfl rfl) (je_pow je_int je_int)) (fun _ _ => rfl))
    (jb_cons (js_for (ji_rng1 (by decide +kernel) T.m_range (fun _ _ => rfl) (je_varP (i := 1) rfl (by decide +kernel) rfl rfl)) (jg_name (pgS (i := 4) rfl (by decide +kernel))) (jb_cons (js_mut (i := 2) (n := 1) slot_app ty_app mt_app lm_app rfl (by decide +kernel) rfl rfl (fun _ => rfl) (fun _ _ => rfl) (fun _ => rfl) (fun _ => ⟨rfl, rfl, rfl⟩) (ja_consS (fun _ _ => rfl) (je_mod (je_intC (by decide +kernel) T.m_int (fun _ _ => rfl) (fun _ => rfl) (je_varP (i := 3) rfl (by decide +kernel) rfl rfl)) je_int) ja_nil))
    (jb_one (js_setS (i := 3) rfl (by decide +kernel) (je_div (je_varP (i := 3) rfl (by decide +kernel) rfl rfl) je_int) (fun _ _ => rfl)))) (fun _ _ => rfl))
    (jb_one (js_retO (i := 2) rfl (by decide +kernel) rfl rfl)))) jb_nil)
    (jb_cons (js_for (ji_rng1 (by decide +kernel) T.m_range (fun _ _ => rfl) (je_varP (i := 1) rfl (by decide +kernel) rfl rfl)) (jg_name (pgS (i := 4) rfl (by decide +kernel))) (jb_cons (js_setS (i := 5) rfl (by decide +kernel) (je_mod (je_intC (by decide +kernel) T.m_int (fun _ _ => rfl) (fun _ => rfl) (je_add (je_add (je_mul (je_varP (i := 0) rfl (by decide +kernel) rfl rfl) je_int).pk_of_fresh (je_mul (je_varP (i := 4) rfl (by decide +kernel) rfl rfl) je_int).pk_of_fresh).pk_of_fresh je_int).pk_of_fresh) je_int) (fun _ _ => rfl))
    (jb_one (js_mut (i := 2) (n := 1) slot_app ty_app mt_app lm_app rfl (by decide +kernel) rfl rfl (fun _ => rfl) (fun _ _ => rfl) (fun _ => rfl) (fun _ => ⟨rfl, rfl, rfl⟩) (ja_consS (fun _ _ => rfl) (je_mod (je_intC (by decide +kernel) T.m_int (fun _ _ => rfl) (fun _ => rfl) (je_add (je_add (je_mul (je_varP (i := 5) rfl (by decide +kernel) rfl rfl) (je_varP (i := 5) rfl (by decide +kernel) rfl rfl)).pk_of_fresh (je_mul (je_varP (i := 4) rfl (by decide +kernel) rfl rfl) je_int).pk_of_fresh).pk_of_fresh (je_varP (i := 0) rfl (by decide +kernel) rfl rfl)).pk_of_fresh) je_int) ja_nil)))) (fun _ _ => rfl))
    (jb_one (js_retO (i := 2) rfl (by decide +kernel) rfl rfl))))))
theorem ok__law_draws {G : Gm} (T : Txt G) : FnG G 1 T.f__law_draws T.fd__law_draws (["_law_cell_here", "_law_many"] : List Str) [.bo, .bo] Fn__law_draws := fn_okD T.F__law_draws sc__law_draws rfl (by decide) (jb__law_draws T)
theorem sc__law_cell : FnScope (["_law_script", "_law_k"] : List Str) (["_law_script", "_law_k"] : List Str) (defScope s__law_cell) := ⟨rfl, rfl, rfl, by decide +kernel, rfl, by decide +kernel, by decide +kernel⟩
theorem jb__law_cell {G : Gm} (T : Txt G) (W : WX) : JB G 0 W (["_law_script", "_law_k"] : List Str) (defScope s__law_cell) (defBody s__law_cell) g__law_cell :=
  (jb_cons (js_if (jt_lt (je_varP (i := 1) rfl (by decide +kernel) rfl rfl) (je_len (by decide +kernel) T.m_len (fun _ _ => rfl) (fun _ => rfl) (je_varP (i := 0) rfl (by decide +kernel) rfl rfl))) (jb_one (js_retF (je_intC (by decide +kernel) T.m_int (fun _ _ => rfl) (fun _ => rfl) (je_ix (je_varP (i := 0) rfl (by decide +kernel) rfl rfl) (je_varP (i := 1) rfl (by decide +kernel) rfl rfl) (fun _ _ => rfl)).pk_of_sh))) jb_nil)
    (jb_one (js_retF je_int)))
theorem ok__law_cell {G : Gm} (T : Txt G) : FnG G 1 T.f__law_cell T.fd__law_cell (["_law_script", "_law_k"] : List Str) [.bo, .bo] Fn__law_cell := fn_okD T.F__law_cell sc__law_cell rfl (by decide) (jb__law_cell T)
theorem sc__law_ranked : FnScope (["_law_rows", "_law_due", "_law_row", "_law_x"] : List Str) (["_law_rows"] : List Str) (defScope s__law_ranked) := ⟨rfl, rfl, rfl, by decide +kernel, rfl, by decide +kernel, by decide +kernel⟩
theorem jb__law_ranked {G : Gm} (T : Txt G) (W : WX) : JB G 0 W (["_law_rows", "_law_due", "_law_row", "_law_x"] : List Str) (defScope s__law_ranked) (defBody s__law_ranked) g__law_ranked :=
  (jb_cons (js_setF (i := 1) rfl (by decide +kernel) (je_lst (n := 0) ja_nil) (fun _ _ => rfl))
    (jb_cons (js_for (ji_sq (je_varB (i := 0) rfl (by decide +kernel) rfl rfl)) (jg_name (pgS (i := 2) rfl (by decide +kernel))) (jb_one (js_if (jt_nin (je_varP (i := 2) rfl (by decide +kernel) rfl rfl) (je_varP (i := 1) rfl (by decide +kernel) rfl rfl) rfl) (jb_one (js_mutL (i := 1) (n := 2) slot_ins ty_ins mt_ins lm_ins rfl (by decide +kernel) rfl rfl (fun _ => rfl) (fun _ _ => rfl) (fun _ => rfl) (fun _ => ⟨rfl, rfl, rfl⟩) (ja_consS (fun _ _ => rfl) (je_len (by decide +kernel) T.m_len (fun _ _ => rfl) (fun _ => rfl) (je_lc (own := [("_law_x", 3)]) (by decide +kernel) (by decide) (ji_sq (je_varB (i := 1) rfl (by decide +kernel) rfl rfl)) (jg_name (pgE (i := 3) rfl (by decide +kernel))) (jts_one (jt_ltN (je_varP (i := 3) rfl (by decide +kernel) rfl rfl) (je_varP (i := 2) rfl (by decide +kernel) rfl rfl))) (je_varS (i := 3) rfl (by decide +kernel) rfl rfl) (fun _ _ => rfl)).pk_of_fresh) (ja_consS (fun _ _ => rfl) (je_varS (i := 2) rfl (by decide +kernel) rfl rfl) ja_nil)))) jb_nil)) (fun _ _ => rfl))
    (jb_one (js_retO (i := 1) rfl (by decide +kernel) rfl rfl))))
theorem ok__law_ranked {G : Gm} (T : Txt G) : FnG G 1 T.f__law_ranked T.fd__law_ranked (["_law_rows"] : List Str) [.bo] Fn__law_ranked := fn_okD T.F__law_ranked sc__law_ranked rfl (by decide) (jb__law_ranked T)
theorem sc_Notes___init__ : FnScope (["self", "width"] : List Str) (["self", "width"] : List Str) (defScope s_Notes___init__) := ⟨rfl, rfl, rfl, by decide +kernel, rfl, by decide +kernel, by decide +kernel⟩
theorem jb_Notes___init__ {G : Gm} (T : Txt G) (W : WX) : JB G 0 W (["self", "width"] : List Str) (defScope s_Notes___init__) (defBody s_Notes___init__) g_Notes___init__ :=
  (jb_cons (js_if (jt_not (jt_chain (fun _ => op_le) (fun _ => op_le) je_int (je_varP (i := 1) rfl (by decide +kernel) rfl rfl) (je_cval (c := 3) T.ct_Notes T.cr_Notes T.cv_Notes_MOST_WIDTH (fun _ => rfl) (je_cls (i := 3) (by decide +kernel) T.mg_Notes T.ct_Notes rfl)) rfl)) (jb_one (js_raise (c := 104) T.ct_RangeError T.xc_RangeError.1 T.mg_RangeError T.xc_RangeError.2.1 T.xc_RangeError.2.2.1 T.xc_RangeError.2.2.2 (by decide +kernel) rfl)) jb_nil)
    (jb_cons (js_fld T.gok (c := 3) (i := 0) (sl := 0) T.ct_Notes (by decide) rfl rfl (by decide +kernel) rfl rfl (fun _ _ => rfl) (je_varS (i := 1) rfl (by decide +kernel) rfl rfl))
    (jb_cons (js_fld T.gok (c := 3) (i := 1) (sl := 0) T.ct_Notes (by decide) rfl rfl (by decide +kernel) rfl rfl (fun _ _ => rfl) (je_lst (n := 0) ja_nil).sh_of_fresh)
    (jb_one (js_fld T.gok (c := 3) (i := 2) (sl := 0) T.ct_Notes (by decide) rfl rfl (by decide +kernel) rfl rfl (fun _ _ => rfl) je_dnew.sh_of_fresh)))))
theorem ok_Notes___init__ {G : Gm} (T : Txt G) : FnG G 1 T.f_Notes___init__ T.fd_Notes___init__ (["self", "width"] : List Str) [.mu, .bo] Fn_Notes___init__ := fn_okD T.F_Notes___init__ sc_Notes___init__ rfl (by decide) (jb_Notes___init__ T)
theorem sc_Crowd___len__ : FnScope (["self"] : List Str) (["self"] : List Str) (defScope s_Crowd___len__) := ⟨rfl, rfl, rfl, by decide +kernel, rfl, by decide +kernel, by decide +kernel⟩
theorem jb_Crowd___len__ {G : Gm} (T : Txt G) (W : WX) : JB G 0 W (["self"] : List Str) (defScope s_Crowd___len__) (defBody s_Crowd___len__) g_Crowd___len__ :=
  (jb_one (js_retF (je_len (by decide +kernel) T.m_len (fun _ _ => rfl) (fun _ => rfl) (je_fld T.gok (c := 0) (i := 0) T.ct_Crowd (by decide) rfl (fun _ => rfl) (je_varP (i := 0) rfl (by decide +kernel) rfl rfl)).pk_of_sh)))
theorem ok_Crowd___len__ {G : Gm} (T : Txt G) : FnG G 1 T.f_Crowd___len__ T.fd_Crowd___len__ (["self"] : List Str) [.bo] Fn_Crowd___len__ := fn_okD T.F_Crowd___len__ sc_Crowd___len__ rfl (by decide) (jb_Crowd___len__ T)
theorem sc_ordered : FnScope (["rows", "result", "row", "low", "high", "middle"] : List Str) (["rows"] : List Str) (defScope s_ordered) := ⟨rfl, rfl, rfl, by decide +kernel, rfl, by decide +kernel, by decide +kernel⟩
theorem jb_ordered {G : Gm} (T : Txt G) (W : WX) : JB G 0 W (["rows", "result", "row", "low", "high", "middle"] : List Str) (defScope s_ordered) (defBody s_ordered) g_ordered :=
  (jb_cons (js_setF (i := 1) rfl (by decide +kernel) (je_lst (n := 0) ja_nil) (fun _ _ => rfl))
    (jb_cons (js_for (ji_sq (je_varB (i := 0) rfl (by decide +kernel) rfl rfl)) (jg_name (pgS (i := 2) rfl (by decide +kernel))) (jb_cons (js_setS (i := 3) rfl (by decide +kernel) je_int (fun _ _ => rfl))
    (jb_cons (js_setS (i := 4) rfl (by decide +kernel) (je_len (by decide +kernel) T.m_len (fun _ _ => rfl) (fun _ => rfl) (je_varP (i := 1) rfl (by decide +kernel) rfl rfl)) (fun _ _ => rfl))
    (jb_cons (js_while 10000000 (jt_lt (je_varP (i := 3) rfl (by decide +kernel) rfl rfl) (je_varP (i := 4) rfl (by decide +kernel) rfl rfl)) (jb_cons (js_setS (i := 5) rfl (by decide +kernel) (je_div (je_add (je_varP (i := 3) rfl (by decide +kernel) rfl rfl) (je_varP (i := 4) rfl (by decide +kernel) rfl rfl)).pk_of_fresh je_int) (fun _ _ => rfl))
    (jb_one (js_if (jt_ltN (je_ix (je_varP (i := 1) rfl (by decide +kernel) rfl rfl) (je_varP (i := 5) rfl (by decide +kernel) rfl rfl) (fun _ _ => rfl)).pk_of_sh (je_varP (i := 2) rfl (by decide +kernel) rfl rfl)) (jb_one (js_setS (i := 3) rfl (by decide +kernel) (je_add (je_varP (i := 5) rfl (by decide +kernel) rfl rfl) je_int).sh_of_fresh (fun _ _ => rfl))) (jb_one (js_setS (i := 4) rfl (by decide +kernel) (je_varS (i := 5) rfl (by decide +kernel) rfl rfl) (fun _ _ => rfl)))))))
    (jb_one (js_if (jw_or (jt_eq (je_varP (i := 3) rfl (by decide +kernel) rfl rfl) (je_len (by decide +kernel) T.m_len (fun _ _ => rfl) (fun _ => rfl) (je_varP (i := 1) rfl (by decide +kernel) rfl rfl))) (jw_or1 (jt_ne (je_ix (je_varP (i := 1) rfl (by decide +kernel) rfl rfl) (je_varP (i := 3) rfl (by decide +kernel) rfl rfl) (fun _ _ => rfl)).pk_of_sh (je_varP (i := 2) rfl (by decide +kernel) rfl rfl)))).jt (jb_one (js_mut (i := 1) (n := 2) slot_ins ty_ins mt_ins lm_ins rfl (by decide +kernel) rfl rfl (fun _ => rfl) (fun _ _ => rfl) (fun _ => rfl) (fun _ => ⟨rfl, rfl, rfl⟩) (ja_consS (fun _ _ => rfl) (je_varS (i := 3) rfl (by decide +kernel) rfl rfl) (ja_consS (fun _ _ => rfl) (je_varS (i := 2) rfl (by decide +kernel) rfl rfl) ja_nil)))) jb_nil))))) (fun _ _ => rfl))
    (jb_one (js_retO (i := 1) rfl (by decide +kernel) rfl rfl))))
theorem ok_ordered {G : Gm} (T : Txt G) : FnG G 1 T.f_ordered T.fd_ordered (["rows"] : List Str) [.bo] Fn_ordered := fn_okD T.F_ordered sc_ordered rfl (by decide) (jb_ordered T)
theorem sc_Crowd___init__ : FnScope (["self", "locations", "location"] : List Str) (["self", "locations"] : List Str) (defScope s_Crowd___init__) := ⟨rfl, rfl, rfl, by decide +kernel, rfl, by decide +kernel, by decide +kernel⟩
theorem jb_Crowd___init__ {G : Gm} (T : Txt G) (W : WX) : JB G 0 W (["self", "locations", "location"] : List Str) (defScope s_Crowd___init__) (defBody s_Crowd___init__) g_Crowd___init__ :=
  (jb_cons (js_for (ji_sq (je_varB (i := 1) rfl (by decide +kernel) rfl rfl)) (jg_name (pgS (i := 2) rfl (by decide +kernel))) (jb_one (js_if (jt_lt (je_varP (i := 2) rfl (by decide +kernel) rfl rfl) je_int) (jb_one (js_raise (c := 101) T.ct_CrowdError T.xc_CrowdError.1 T.mg_CrowdError T.xc_CrowdError.2.1 T.xc_CrowdError.2.2.1 T.xc_CrowdError.2.2.2 (by decide +kernel) rfl)) jb_nil)) (fun _ _ => rfl))
    (jb_one (js_fld T.gok (c := 0) (i := 0) (sl := 0) T.ct_Crowd (by decide) rfl rfl (by decide +kernel) rfl rfl (fun _ _ => rfl) (je_tupl (by decide +kernel) T.m_tuple (fun _ _ => rfl) (fun _ => rfl) (je_sorted (by decide +kernel) T.m_sorted (fun _ _ => rfl) (fun _ => rfl) (je_lc (own := [("location", 2)]) (by decide +kernel) (by decide) (ji_sq (je_varB (i := 1) rfl (by decide +kernel) rfl rfl)) (jg_name (pgE (i := 2) rfl (by decide +kernel))) jts_nil (je_intC (by decide +kernel) T.m_int (fun _ _ => rfl) (fun _ => rfl) (je_varP (i := 2) rfl (by decide +kernel) rfl rfl)) (fun _ _ => rfl)).pk_of_fresh).pk_of_fresh))))
theorem ok_Crowd___init__ {G : Gm} (T : Txt G) : FnG G 1 T.f_Crowd___init__ T.fd_Crowd___init__ (["self", "locations"] : List Str) [.mu, .bo] Fn_Crowd___init__ := fn_okD T.F_Crowd___init__ sc_Crowd___init__ rfl (by decide) (jb_Crowd___init__ T)
theorem sc_Notes___setitem__ : FnScope (["self", "state", "crowds", "crowd", "fresh", "below", "above", "members", "row"] : List Str) (["self", "state", "crowds"] : List Str) (defScope s_Notes___setitem__) := ⟨rfl, rfl, rfl, by decide +kernel, rfl, by decide +kernel, by decide +kernel⟩
theorem jb_Notes___setitem__ {G : Gm} (T : Txt G) (W : WX) : JB G 2 W (["self", "state", "crowds", "crowd", "fresh", "below", "above", "members", "row"] : List Str) (defScope s_Notes___setitem__) (defBody s_Notes___setitem__) g_Notes___setitem__ :=
  (jb_cons (js_for (ji_sq (je_varB (i := 2) rfl (by decide +kernel) rfl rfl)) (jg_name (pgS (i := 3) rfl (by decide +kernel))) (jb_one (js_if (jt_ne (je_lenO (c := 0) T.ct_Crowd T.me_Crowd___len__ (ok_Crowd___len__ T) (by decide) T.b_Crowd___len__ (by decide +kernel) T.m_len (fun _ _ => rfl) (fun _ => rfl) (je_varP (i := 3) rfl (by decide +kernel) rfl rfl)) (je_fld T.gok (c := 3) (i := 0) T.ct_Notes (by decide) rfl (fun _ => rfl) (je_varP (i := 0) rfl (by decide +kernel) rfl rfl)).pk_of_sh) (jb_one (js_raise (c := 104) T.ct_RangeError T.xc_RangeError.1 T.mg_RangeError T.xc_RangeError.2.1 T.xc_RangeError.2.2.1 T.xc_RangeError.2.2.2 (by decide +kernel) rfl)) jb_nil)) (fun _ _ => rfl))
    (jb_cons (js_setLc (i := 4) (own := [("members", 7)]) rfl (by decide +kernel) rfl (by decide +kernel) rfl rfl (by decide +kernel) (by decide) (ji_sq (je_callF (ok_ordered T) (by decide) rfl (by decide +kernel) T.g_ordered T.F_ordered.kp T.b_ordered rfl (fun _ _ => rfl) (fun _ => rfl) (ja_consP (fun _ _ => rfl) (je_lc (own := [("crowd", 3)]) (by decide +kernel) (by decide) (ji_sq (je_varB (i := 2) rfl (by decide +kernel) rfl rfl)) (jg_name (pgE (i := 3) rfl (by decide +kernel))) jts_nil (je_fld T.gok (c := 0) (i := 0) T.ct_Crowd (by decide) rfl (fun _ => rfl) (je_varP (i := 3) rfl (by decide +kernel) rfl rfl)) (fun _ _ => rfl)).pk_of_fresh ja_nil)).bo_of_fresh) (jg_name (pgE (i := 7) rfl (by decide +kernel))) jts_nil (je_tup (n := 2) (ja_consS (fun _ _ => rfl) (je_varS (i := 1) rfl (by decide +kernel) rfl rfl) (ja_consS (fun _ _ => rfl) (je_mk (c := 0) T.ct_Crowd T.mk_Crowd (ok_Crowd___init__ T) (by decide) rfl (by decide +kernel) T.mg_Crowd T.b_Crowd___init__ rfl (fun _ _ => rfl) (fun _ => rfl) (ja_consP (fun _ _ => rfl) (je_varP (i := 7) rfl (by decide +kernel) rfl rfl) ja_nil)).sh_of_fresh ja_nil))) (fun _ _ => rfl))
    (jb_cons (js_setLc (i := 5) (own := [("row", 8)]) rfl (by decide +kernel) rfl (by decide +kernel) rfl rfl (by decide +kernel) (by decide) (ji_sq (je_fld T.gok (c := 3) (i := 1) T.ct_Notes (by decide) rfl (fun _ => rfl) (je_varP (i := 0) rfl (by decide +kernel) rfl rfl)).bo_of_sh) (jg_name (pgE (i := 8) rfl (by decide +kernel))) (jts_one (jt_lt (je_ix (je_varP (i := 8) rfl (by decide +kernel) rfl rfl) je_int (fun _ _ => rfl)).pk_of_sh (je_varP (i := 1) rfl (by decide +kernel) rfl rfl))) (je_varS (i := 8) rfl (by decide +kernel) rfl rfl) (fun _ _ => rfl))
    (jb_cons (js_setLc (i := 6) (own := [("row", 8)]) rfl (by decide +kernel) rfl (by decide +kernel) rfl rfl (by decide +kernel) (by decide) (ji_sq (je_fld T.gok (c := 3) (i := 1) T.ct_Notes (by decide) rfl (fun _ => rfl) (je_varP (i := 0) rfl (by decide +kernel) rfl rfl)).bo_of_sh) (jg_name (pgE (i := 8) rfl (by decide +kernel))) (jts_one (jt_gt (je_ix (je_varP (i := 8) rfl (by decide +kernel) rfl rfl) je_int (fun _ _ => rfl)).pk_of_sh (je_varP (i := 1) rfl (by decide +kernel) rfl rfl))) (je_varS (i := 8) rfl (by decide +kernel) rfl rfl) (fun _ _ => rfl))
    (jb_cons (js_fld T.gok (c := 3) (i := 1) (sl := 0) T.ct_Notes (by decide) rfl rfl (by decide +kernel) rfl rfl (fun _ _ => rfl) (je_add (je_add (je_varP (i := 5) rfl (by decide +kernel) rfl rfl) (je_varP (i := 4) rfl (by decide +kernel) rfl rfl)).pk_of_fresh (je_varP (i := 6) rfl (by decide +kernel) rfl rfl)).sh_of_fresh)
    (jb_one (js_fld T.gok (c := 3) (i := 2) (sl := 0) T.ct_Notes (by decide) rfl rfl (by decide +kernel) rfl rfl (fun _ _ => rfl) (je_dc (own := [("row", 8)]) (by decide +kernel) (by decide) (ji_sq (je_fld T.gok (c := 3) (i := 1) T.ct_Notes (by decide) rfl (fun _ => rfl) (je_varP (i := 0) rfl (by decide +kernel) rfl rfl)).bo_of_sh) (jg_name (pgE (i := 8) rfl (by decide +kernel))) jts_nil (je_tup (n := 2) (ja_consS (fun _ _ => rfl) (je_ix (je_varP (i := 8) rfl (by decide +kernel) rfl rfl) je_int (fun _ _ => rfl)) (ja_consS (fun _ _ => rfl) (je_fld T.gok (c := 0) (i := 0) T.ct_Crowd (by decide) rfl (fun _ => rfl) (je_ix (je_varP (i := 8) rfl (by decide +kernel) rfl rfl) je_int (fun _ _ => rfl)).pk_of_sh) ja_nil))) je_bl (fun _ _ => rfl)).sh_of_fresh)))))))
theorem ok_Notes___setitem__ {G : Gm} (T : Txt G) : FnG G 3 T.f_Notes___setitem__ T.fd_Notes___setitem__ (["self", "state", "crowds"] : List Str) [.mu, .bo, .bo] Fn_Notes___setitem__ := fn_okD T.F_Notes___setitem__ sc_Notes___setitem__ rfl (by decide) (jb_Notes___setitem__ T)
theorem sc_Crowd___str__ : FnScope (["self", "location"] : List Str) (["self"] : List Str) (defScope s_Crowd___str__) := ⟨rfl, rfl, rfl, by decide +kernel, rfl, by decide +kernel, by decide +kernel⟩
theorem jb_Crowd___str__ {G : Gm} (T : Txt G) (W : WX) : JB G 0 W (["self", "location"] : List Str) (defScope s_Crowd___str__) (defBody s_Crowd___str__) g_Crowd___str__ :=
  (jb_one (js_retF (je_joinL (fun _ => rfl) (fun _ => rfl) rfl je_str (je_lc (own := [("location", 1)]) (by decide +kernel) (by decide) (ji_sq (je_fld T.gok (c := 0) (i := 0) T.ct_Crowd (by decide) rfl (fun _ => rfl) (je_varP (i := 0) rfl (by decide +kernel) rfl rfl)).bo_of_sh) (jg_name (pgE (i := 1) rfl (by decide +kernel))) jts_nil (je_strI (by decide +kernel) T.m_str (fun _ _ => rfl) (fun _ => rfl) (je_varP (i := 1) rfl (by decide +kernel) rfl rfl)) (fun _ _ => rfl)).pk_of_fresh)))
theorem ok_Crowd___str__ {G : Gm} (T : Txt G) : FnG G 1 T.f_Crowd___str__ T.fd_Crowd___str__ (["self"] : List Str) [.bo] Fn_Crowd___str__ := fn_okD T.F_Crowd___str__ sc_Crowd___str__ rfl (by decide) (jb_Crowd___str__ T)
theorem sc_Notes_lines : FnScope (["self", "state", "crowd"] : List Str) (["self"] : List Str) (defScope s_Notes_lines) := ⟨rfl, rfl, rfl, by decide +kernel, rfl, by decide +kernel, by decide +kernel⟩
theorem jb_Notes_lines {G : Gm} (T : Txt G) (W : WX) : JB G 3 W (["self", "state", "crowd"] : List Str) (defScope s_Notes_lines) (defBody s_Notes_lines) g_Notes_lines :=
  (jb_one (js_retF (je_lc (own := [("state", 1), ("crowd", 2)]) (by decide +kernel) (by decide) (ji_sq (je_fld T.gok (c := 3) (i := 1) T.ct_Notes (by decide) rfl (fun _ => rfl) (je_varP (i := 0) rfl (by decide +kernel) rfl rfl)).bo_of_sh) (jg_tup (n := 2) (fun _ c => ⟨c.calm, c.hK⟩) (jgs_cons (jg_name (pgE (i := 1) rfl (by decide +kernel))) (jgs_cons (jg_name (pgE (i := 2) rfl (by decide +kernel))) jgs_nil (fun _ => rfl)) (fun _ => rfl)) (fun _ => rfl) (fun _ => rfl) (fun _ _ _ h => hCons_len (fun _ _ _ h => hCons_len (fun _ _ _ h => hNil_len h) h) h)) jts_nil (je_js (JJ.cons (je_fmt3 (je_varP (i := 1) rfl (by decide +kernel) rfl rfl) (je_js1 je_str)) (JJ.cons je_str (JJ.cons (je_fmt8 (je_strO (c := 0) T.ct_Crowd T.me_Crowd___str__ (ok_Crowd___str__ T) (by decide) T.b_Crowd___str__ (by decide +kernel) T.m_str (fun _ _ => rfl) (fun _ => rfl) (je_varP (i := 2) rfl (by decide +kernel) rfl rfl)) (je_js1 je_str)) (JJ.cons je_str JJ.nil))))) (fun _ _ => rfl))))
theorem ok_Notes_lines {G : Gm} (T : Txt G) : FnG G 4 T.f_Notes_lines T.fd_Notes_lines (["self"] : List Str) [.bo] Fn_Notes_lines := fn_okD T.F_Notes_lines sc_Notes_lines rfl (by decide) (jb_Notes_lines T)
theorem sc__law_lines : FnScope (["_law_rows", "_law_due", "_law_row", "_law_number", "_law_text", "_law_x"] : List Str) (["_law_rows"] : List Str) (defScope s__law_lines) := ⟨rfl, rfl, rfl, by decide +kernel, rfl, by decide +kernel, by decide +kernel⟩
theorem jb__law_lines {G : Gm} (T : Txt G) (W : WX) : JB G 0 W (["_law_rows", "_law_due", "_law_row", "_law_number", "_law_text", "_law_x"] : List Str) (defScope s__law_lines) (defBody s__law_lines) g__law_lines :=
  (jb_cons (js_setF (i := 1) rfl (by decide +kernel) (je_lst (n := 0) ja_nil) (fun _ _ => rfl))
    (jb_cons (js_for (ji_sq (je_varB (i := 0) rfl (by decide +kernel) rfl rfl)) (jg_name (pgS (i := 2) rfl (by decide +kernel))) (jb_cons (js_setS (i := 3) rfl (by decide +kernel) (je_strI (by decide +kernel) T.m_str (fun _ _ => rfl) (fun _ => rfl) (je_ix (je_varP (i := 2) rfl (by decide +kernel) rfl rfl) je_int (fun _ _ => rfl)).pk_of_sh) (fun _ _ => rfl))
    (jb_cons (js_setS (i := 4) rfl (by decide +kernel) (je_joinL (fun _ => rfl) (fun _ => rfl) rfl je_str (je_lc (own := [("_law_x", 5)]) (by decide +kernel) (by decide) (ji_sq (je_ix (je_varP (i := 2) rfl (by decide +kernel) rfl rfl) je_int (fun _ _ => rfl)).bo_of_sh) (jg_name (pgE (i := 5) rfl (by decide +kernel))) jts_nil (je_strI (by decide +kernel) T.m_str (fun _ _ => rfl) (fun _ => rfl) (je_varP (i := 5) rfl (by decide +kernel) rfl rfl)) (fun _ _ => rfl)).pk_of_fresh) (fun _ _ => rfl))
    (jb_one (js_mut (i := 1) (n := 1) slot_app ty_app mt_app lm_app rfl (by decide +kernel) rfl rfl (fun _ => rfl) (fun _ _ => rfl) (fun _ => rfl) (fun _ => ⟨rfl, rfl, rfl⟩) (ja_consS (fun _ _ => rfl) (je_add (je_add (je_add (je_add (je_add (je_mulS je_str (je_sub je_int (je_lenS (by decide +kernel) T.m_len (fun _ _ => rfl) (fun _ => rfl) (je_varP (i := 3) rfl (by decide +kernel) rfl rfl)))) (je_varP (i := 3) rfl (by decide +kernel) rfl rfl)).pk_of_fresh je_str).pk_of_fresh (je_varP (i := 4) rfl (by decide +kernel) rfl rfl)).pk_of_fresh (je_mulS je_str (je_sub je_int (je_lenS (by decide +kernel) T.m_len (fun _ _ => rfl) (fun _ => rfl) (je_varP (i := 4) rfl (by decide +kernel) rfl rfl))))).pk_of_fresh je_str).sh_of_fresh ja_nil))))) (fun _ _ => rfl))
    (jb_one (js_retO (i := 1) rfl (by decide +kernel) rfl rfl))))
theorem ok__law_lines {G : Gm} (T : Txt G) : FnG G 1 T.f__law_lines T.fd__law_lines (["_law_rows"] : List Str) [.bo] Fn__law_lines := fn_okD T.F__law_lines sc__law_lines rfl (by decide) (jb__law_lines T)
theorem sc_Notes___iter__ : FnScope (["self"] : List Str) (["self"] : List Str) (defScope s_Notes___iter__) := ⟨rfl, rfl, rfl, by decide +kernel, rfl, by decide +kernel, by decide +kernel⟩
theorem it_Notes {G : Gm} (T : Txt G) : ItrC G T.C_Notes "rows" := ⟨⟨T.f_Notes___iter__, T.fd_Notes___iter__, _, _, _, _, _, _, _, _, _, T.F_Notes___iter__, sc_Notes___iter__, T.b_Notes___iter__, T.me_Notes___iter__, fun X h => gl_of h (by decide +kernel)⟩, T.m_iter⟩
theorem sc__law_is_integer : FnScope (["_law_x"] : List Str) (["_law_x"] : List Str) (defScope s__law_is_integer) := ⟨rfl, rfl, rfl, by decide +kernel, rfl, by decide +kernel, by decide +kernel⟩
theorem jb__law_is_integer {G : Gm} (T : Txt G) (W : WX) : JB G 0 W (["_law_x"] : List Str) (defScope s__law_is_integer) (defBody s__law_is_integer) g__law_is_integer :=
  (jb_one (js_retF (je_and (je_isi T.gok (by decide +kernel) T.m_isinstance (fun _ _ => rfl) (fun _ _ => rfl) (fun _ => rfl) (je_varP (i := 0) rfl (by decide +kernel) rfl rfl) (je_typ (n := "int") (by decide +kernel) T.m_int boot_int (by decide) rfl)) (je_one (je_not (je_isi T.gok (by decide +kernel) T.m_isinstance (fun _ _ => rfl) (fun _ _ => rfl) (fun _ => rfl) (je_varP (i := 0) rfl (by decide +kernel) rfl rfl) (je_typ (n := "bool") (by decide +kernel) T.m_bool boot_bool (by decide) rfl)))))))
theorem ok__law_is_integer {G : Gm} (T : Txt G) : FnG G 1 T.f__law_is_integer T.fd__law_is_integer (["_law_x"] : List Str) [.bo] Fn__law_is_integer := fn_okD T.F__law_is_integer sc__law_is_integer rfl (by decide) (jb__law_is_integer T)
theorem sc__law_entry : FnScope (["_law_row"] : List Str) (["_law_row"] : List Str) (defScope s__law_entry) := ⟨rfl, rfl, rfl, by decide +kernel, rfl, by decide +kernel, by decide +kernel⟩
theorem jb__law_entry {G : Gm} (T : Txt G) (W : WX) : JB G 1 W (["_law_row"] : List Str) (defScope s__law_entry) (defBody s__law_entry) g__law_entry :=
  (jb_cons (js_if (jw_or (jt_not (jt_val (je_isi T.gok (by decide +kernel) T.m_isinstance (fun _ _ => rfl) (fun _ _ => rfl) (fun _ => rfl) (je_varP (i := 0) rfl (by decide +kernel) rfl rfl) (je_typ (n := "tuple") (by decide +kernel) T.m_tuple boot_tuple (by decide) rfl)) (fun _ _ => rfl))) (jw_or (jt_ne (je_len (by decide +kernel) T.m_len (fun _ _ => rfl) (fun _ => rfl) (je_varP (i := 0) rfl (by decide +kernel) rfl rfl)) je_int) (jw_or1 (jt_not (jt_val (je_callF (ok__law_is_integer T) (by decide) rfl (by decide +kernel) T.g__law_is_integer T.F__law_is_integer.kp T.b__law_is_integer rfl (fun _ _ => rfl) (fun _ => rfl) (ja_consP (fun _ _ => rfl) (je_ix (je_varP (i := 0) rfl (by decide +kernel) rfl rfl) je_int (fun _ _ => rfl)).pk_of_sh ja_nil)).pk_of_fresh (fun _ _ => rfl)))))).jt (jb_one (js_retF je_non)) jb_nil)
    (jb_cons (js_if (jw_or (jt_not (jt_val (je_isi T.gok (by decide +kernel) T.m_isinstance (fun _ _ => rfl) (fun _ _ => rfl) (fun _ => rfl) (je_ix (je_varP (i := 0) rfl (by decide +kernel) rfl rfl) je_int (fun _ _ => rfl)).pk_of_sh (je_cls (i := 0) (by decide +kernel) T.mg_Crowd T.ct_Crowd rfl)) (fun _ _ => rfl))) (jw_or1 (jt_not (jt_val (je_isi T.gok (by decide +kernel) T.m_isinstance (fun _ _ => rfl) (fun _ _ => rfl) (fun _ => rfl) (je_fld T.gok (c := 0) (i := 0) T.ct_Crowd (by decide) rfl (fun _ => rfl) (je_ix (je_varP (i := 0) rfl (by decide +kernel) rfl rfl) je_int (fun _ _ => rfl)).pk_of_sh).pk_of_sh (je_typ (n := "tuple") (by decide +kernel) T.m_tuple boot_tuple (by decide) rfl)) (fun _ _ => rfl))))).jt (jb_one (js_retF je_non)) jb_nil)
    (jb_one (js_retF (je_tup (n := 2) (ja_consS (fun _ _ => rfl) (je_ix (je_varP (i := 0) rfl (by decide +kernel) rfl rfl) je_int (fun _ _ => rfl)) (ja_consS (fun _ _ => rfl) (je_fld T.gok (c := 0) (i := 0) T.ct_Crowd (by decide) rfl (fun _ => rfl) (je_ix (je_varP (i := 0) rfl (by decide +kernel) rfl rfl) je_int (fun _ _ => rfl)).pk_of_sh) ja_nil)))))))
theorem ok__law_entry {G : Gm} (T : Txt G) : FnG G 2 T.f__law_entry T.fd__law_entry (["_law_row"] : List Str) [.bo] Fn__law_entry := fn_okD T.F__law_entry sc__law_entry rfl (by decide) (jb__law_entry T)
theorem sc__law_pairs : FnScope (["_law_notes", "_law_rows", "_law_pairs_here", "_law_both", "_law_row", "_law_x"] : List Str) (["_law_notes", "_law_rows"] : List Str) (defScope s__law_pairs) := ⟨rfl, rfl, rfl, by decide +kernel, rfl, by decide +kernel, by decide +kernel⟩
theorem jb__law_pairs {G : Gm} (T : Txt G) (W : WX) : JB G 2 W (["_law_notes", "_law_rows", "_law_pairs_here", "_law_both", "_law_row", "_law_x"] : List Str) (defScope s__law_pairs) (defBody s__law_pairs) g__law_pairs :=
  (jb_cons (js_setS (i := 2) rfl (by decide +kernel) (je_lst (n := 0) ja_nil).sh_of_fresh (fun _ _ => rfl))
    (jb_cons (js_setS (i := 3) rfl (by decide +kernel) (je_lst (n := 0) ja_nil).sh_of_fresh (fun _ _ => rfl))
    (jb_cons (js_for (ji_ownL T.gok (c := 3) T.ct_Notes (by decide) (i := 1) rfl (it_Notes T) (by decide) (je_varP (i := 0) rfl (by decide +kernel) rfl rfl)) (jg_name (pgS (i := 4) rfl (by decide +kernel))) (jb_one (js_setS (i := 2) rfl (by decide +kernel) (je_add (je_varP (i := 2) rfl (by decide +kernel) rfl rfl) (je_lc (own := [("_law_x", 5)]) (by decide +kernel) (by decide) (ji_ownL T.gok (c := 3) T.ct_Notes (by decide) (i := 1) rfl (it_Notes T) (by decide) (je_varP (i := 0) rfl (by decide +kernel) rfl rfl)) (jg_name (pgE (i := 5) rfl (by decide +kernel))) jts_nil (je_lst (n := 2) (ja_consS (fun _ _ => rfl) (je_callF (ok__law_entry T) (by decide) rfl (by decide +kernel) T.g__law_entry T.F__law_entry.kp T.b__law_entry rfl (fun _ _ => rfl) (fun _ => rfl) (ja_consP (fun _ _ => rfl) (je_varP (i := 4) rfl (by decide +kernel) rfl rfl) ja_nil)).sh_of_fresh (ja_consS (fun _ _ => rfl) (je_callF (ok__law_entry T) (by decide) rfl (by decide +kernel) T.g__law_entry T.F__law_entry.kp T.b__law_entry rfl (fun _ _ => rfl) (fun _ => rfl) (ja_consP (fun _ _ => rfl) (je_varP (i := 5) rfl (by decide +kernel) rfl rfl) ja_nil)).sh_of_fresh ja_nil))).sh_of_fresh (fun _ _ => rfl)).pk_of_fresh).sh_of_fresh (fun _ _ => rfl))) (fun _ _ => rfl))
    (jb_cons (js_for (ji_sq (je_varB (i := 1) rfl (by decide +kernel) rfl rfl)) (jg_name (pgS (i := 4) rfl (by decide +kernel))) (jb_one (js_setS (i := 3) rfl (by decide +kernel) (je_add (je_varP (i := 3) rfl (by decide +kernel) rfl rfl) (je_lc (own := [("_law_x", 5)]) (by decide +kernel) (by decide) (ji_sq (je_varB (i := 1) rfl (by decide +kernel) rfl rfl)) (jg_name (pgE (i := 5) rfl (by decide +kernel))) jts_nil (je_lst (n := 2) (ja_consS (fun _ _ => rfl) (je_varS (i := 4) rfl (by decide +kernel) rfl rfl) (ja_consS (fun _ _ => rfl) (je_varS (i := 5) rfl (by decide +kernel) rfl rfl) ja_nil))).sh_of_fresh (fun _ _ => rfl)).pk_of_fresh).sh_of_fresh (fun _ _ => rfl))) (fun _ _ => rfl))
    (jb_one (js_retF (je_eq (je_varP (i := 2) rfl (by decide +kernel) rfl rfl) (je_varP (i := 3) rfl (by decide +kernel) rfl rfl))))))))
theorem ok__law_pairs {G : Gm} (T : Txt G) : FnG G 3 T.f__law_pairs T.fd__law_pairs (["_law_notes", "_law_rows"] : List Str) [.bo, .bo] Fn__law_pairs := fn_okD T.F__law_pairs sc__law_pairs rfl (by decide) (jb__law_pairs T)
theorem sc_Notes_copy : FnScope (["self", "twin", "key"] : List Str) (["self"] : List Str) (defScope s_Notes_copy) := ⟨rfl, rfl, rfl, by decide +kernel, rfl, by decide +kernel, by decide +kernel⟩
theorem jb_Notes_copy {G : Gm} (T : Txt G) (W : WX) : JB G 2 W (["self", "twin", "key"] : List Str) (defScope s_Notes_copy) (defBody s_Notes_copy) g_Notes_copy :=
  (jb_cons (js_setF (i := 1) rfl (by decide +kernel) (je_mk (c := 3) T.ct_Notes T.mk_Notes (ok_Notes___init__ T) (by decide) rfl (by decide +kernel) T.mg_Notes T.b_Notes___init__ rfl (fun _ _ => rfl) (fun _ => rfl) (ja_consP (fun _ _ => rfl) (je_fld T.gok (c := 3) (i := 0) T.ct_Notes (by decide) rfl (fun _ => rfl) (je_varP (i := 0) rfl (by decide +kernel) rfl rfl)).pk_of_sh ja_nil)) (fun _ _ => rfl))
    (jb_cons (js_fld T.gok (c := 3) (i := 1) (sl := 1) T.ct_Notes (by decide) rfl rfl (by decide +kernel) rfl rfl (fun _ _ => rfl) (je_list (by decide +kernel) T.m_list (fun _ _ => rfl) (fun _ => rfl) (je_fld T.gok (c := 3) (i := 1) T.ct_Notes (by decide) rfl (fun _ => rfl) (je_varP (i := 0) rfl (by decide +kernel) rfl rfl)).pk_of_sh).sh_of_fresh)
    (jb_cons (js_fld T.gok (c := 3) (i := 2) (sl := 1) T.ct_Notes (by decide) rfl rfl (by decide +kernel) rfl rfl (fun _ _ => rfl) (je_dc (own := [("key", 2)]) (by decide +kernel) (by decide) (ji_dk (je_fld T.gok (c := 3) (i := 2) T.ct_Notes (by decide) rfl (fun _ => rfl) (je_varP (i := 0) rfl (by decide +kernel) rfl rfl)).bo_of_sh) (jg_name (pgE (i := 2) rfl (by decide +kernel))) jts_nil (je_varS (i := 2) rfl (by decide +kernel) rfl rfl) je_bl (fun _ _ => rfl)).sh_of_fresh)
    (jb_one (js_retO (i := 1) rfl (by decide +kernel) rfl rfl)))))
theorem ok_Notes_copy {G : Gm} (T : Txt G) : FnG G 3 T.f_Notes_copy T.fd_Notes_copy (["self"] : List Str) [.bo] Fn_Notes_copy := fn_okD T.F_Notes_copy sc_Notes_copy rfl (by decide) (jb_Notes_copy T)
theorem sc__law_entries : FnScope (["_law_rows", "_law_row"] : List Str) (["_law_rows"] : List Str) (defScope s__law_entries) := ⟨rfl, rfl, rfl, by decide +kernel, rfl, by decide +kernel, by decide +kernel⟩
theorem jb__law_entries {G : Gm} (T : Txt G) (W : WX) : JB G 2 W (["_law_rows", "_law_row"] : List Str) (defScope s__law_entries) (defBody s__law_entries) g__law_entries :=
  (jb_one (js_retF (je_lc (own := [("_law_row", 1)]) (by decide +kernel) (by decide) (ji_sq (je_varB (i := 0) rfl (by decide +kernel) rfl rfl)) (jg_name (pgE (i := 1) rfl (by decide +kernel))) jts_nil (je_callF (ok__law_entry T) (by decide) rfl (by decide +kernel) T.g__law_entry T.F__law_entry.kp T.b__law_entry rfl (fun _ _ => rfl) (fun _ => rfl) (ja_consP (fun _ _ => rfl) (je_varP (i := 1) rfl (by decide +kernel) rfl rfl) ja_nil)).sh_of_fresh (fun _ _ => rfl))))
theorem ok__law_entries {G : Gm} (T : Txt G) : FnG G 3 T.f__law_entries T.fd__law_entries (["_law_rows"] : List Str) [.bo] Fn__law_entries := fn_okD T.F__law_entries sc__law_entries rfl (by decide) (jb__law_entries T)
theorem sc_Notes___contains__ : FnScope (["self", "entry"] : List Str) (["self", "entry"] : List Str) (defScope s_Notes___contains__) := ⟨rfl, rfl, rfl, by decide +kernel, rfl, by decide +kernel, by decide +kernel⟩
theorem jb_Notes___contains__ {G : Gm} (T : Txt G) (W : WX) : JB G 0 W (["self", "entry"] : List Str) (defScope s_Notes___contains__) (defBody s_Notes___contains__) g_Notes___contains__ :=
  (jb_one (js_retF (je_inK (je_tup (n := 2) (ja_consS (fun _ _ => rfl) (je_ix (je_varP (i := 1) rfl (by decide +kernel) rfl rfl) je_int (fun _ _ => rfl)) (ja_consS (fun _ _ => rfl) (je_fld T.gok (c := 0) (i := 0) T.ct_Crowd (by decide) rfl (fun _ => rfl) (je_ix (je_varP (i := 1) rfl (by decide +kernel) rfl rfl) je_int (fun _ _ => rfl)).pk_of_sh) ja_nil))) (je_fld T.gok (c := 3) (i := 2) T.ct_Notes (by decide) rfl (fun _ => rfl) (je_varP (i := 0) rfl (by decide +kernel) rfl rfl)).pk_of_sh rfl)))
theorem ok_Notes___contains__ {G : Gm} (T : Txt G) : FnG G 1 T.f_Notes___contains__ T.fd_Notes___contains__ (["self", "entry"] : List Str) [.bo, .bo] Fn_Notes___contains__ := fn_okD T.F_Notes___contains__ sc_Notes___contains__ rfl (by decide) (jb_Notes___contains__ T)
theorem sc_Notes___getitem__ : FnScope (["self", "state", "at", "crowd"] : List Str) (["self", "state"] : List Str) (defScope s_Notes___getitem__) := ⟨rfl, rfl, rfl, by decide +kernel, rfl, by decide +kernel, by decide +kernel⟩
theorem jb_Notes___getitem__ {G : Gm} (T : Txt G) (W : WX) : JB G 0 W (["self", "state", "at", "crowd"] : List Str) (defScope s_Notes___getitem__) (defBody s_Notes___getitem__) g_Notes___getitem__ :=
  (jb_one (js_retF (je_lc (own := [("at", 2), ("crowd", 3)]) (by decide +kernel) (by decide) (ji_sq (je_fld T.gok (c := 3) (i := 1) T.ct_Notes (by decide) rfl (fun _ => rfl) (je_varP (i := 0) rfl (by decide +kernel) rfl rfl)).bo_of_sh) (jg_tup (n := 2) (fun _ c => ⟨c.calm, c.hK⟩) (jgs_cons (jg_name (pgE (i := 2) rfl (by decide +kernel))) (jgs_cons (jg_name (pgE (i := 3) rfl (by decide +kernel))) jgs_nil (fun _ => rfl)) (fun _ => rfl)) (fun _ => rfl) (fun _ => rfl) (fun _ _ _ h => hCons_len (fun _ _ _ h => hCons_len (fun _ _ _ h => hNil_len h) h) h)) (jts_one (jt_eq (je_varP (i := 2) rfl (by decide +kernel) rfl rfl) (je_varP (i := 1) rfl (by decide +kernel) rfl rfl))) (je_varS (i := 3) rfl (by decide +kernel) rfl rfl) (fun _ _ => rfl))))
theorem ok_Notes___getitem__ {G : Gm} (T : Txt G) : FnG G 1 T.f_Notes___getitem__ T.fd_Notes___getitem__ (["self", "state"] : List Str) [.bo, .bo] Fn_Notes___getitem__ := fn_okD T.F_Notes___getitem__ sc_Notes___getitem__ rfl (by decide) (jb_Notes___getitem__ T)
theorem sc_Crowd___le__ : FnScope (["self", "other", "location"] : List Str) (["self", "other"] : List Str) (defScope s_Crowd___le__) := ⟨rfl, rfl, rfl, by decide +kernel, rfl, by decide +kernel, by decide +kernel⟩
theorem jb_Crowd___le__ {G : Gm} (T : Txt G) (W : WX) : JB G 0 W (["self", "other", "location"] : List Str) (defScope s_Crowd___le__) (defBody s_Crowd___le__) g_Crowd___le__ :=
  (jb_cons (js_for (ji_sq (je_fld T.gok (c := 0) (i := 0) T.ct_Crowd (by decide) rfl (fun _ => rfl) (je_varP (i := 0) rfl (by decide +kernel) rfl rfl)).bo_of_sh) (jg_name (pgS (i := 2) rfl (by decide +kernel))) (jb_one (js_if (jt_gt (je_cnt (fun _ _ => rfl) (fun _ => rfl) (fun _ => ⟨rfl, rfl, rfl⟩) (je_fld T.gok (c := 0) (i := 0) T.ct_Crowd (by decide) rfl (fun _ => rfl) (je_varP (i := 0) rfl (by decide +kernel) rfl rfl)).pk_of_sh (je_varP (i := 2) rfl (by decide +kernel) rfl rfl)) (je_cnt (fun _ _ => rfl) (fun _ => rfl) (fun _ => ⟨rfl, rfl, rfl⟩) (je_fld T.gok (c := 0) (i := 0) T.ct_Crowd (by decide) rfl (fun _ => rfl) (je_varP (i := 1) rfl (by decide +kernel) rfl rfl)).pk_of_sh (je_varP (i := 2) rfl (by decide +kernel) rfl rfl))) (jb_one (js_retF je_bl)) jb_nil)) (fun _ _ => rfl))
    (jb_one (js_retF je_bl)))
theorem ok_Crowd___le__ {G : Gm} (T : Txt G) : FnG G 1 T.f_Crowd___le__ T.fd_Crowd___le__ (["self", "other"] : List Str) [.bo, .bo] Fn_Crowd___le__ := fn_okD T.F_Crowd___le__ sc_Crowd___le__ rfl (by decide) (jb_Crowd___le__ T)
theorem sc_Crowd_lots : FnScope (["self", "size", "kinds", "rows", "turn", "at", "location", "row"] : List Str) (["self", "size"] : List Str) (defScope s_Crowd_lots) := ⟨rfl, rfl, rfl, by decide +kernel, rfl, by decide +kernel, by decide +kernel⟩
theorem jb_Crowd_lots {G : Gm} (T : Txt G) (W : WX) : JB G 2 W (["self", "size", "kinds", "rows", "turn", "at", "location", "row"] : List Str) (defScope s_Crowd_lots) (defBody s_Crowd_lots) g_Crowd_lots :=
  (jb_cons (js_setS (i := 2) rfl (by decide +kernel) (je_lc (own := [("at", 5), ("location", 6)]) (by decide +kernel) (by decide) (ji_en (by decide +kernel) T.m_enumerate (fun _ => rfl) (fun _ _ => rfl) (je_fld T.gok (c := 0) (i := 0) T.ct_Crowd (by decide) rfl (fun _ => rfl) (je_varP (i := 0) rfl (by decide +kernel) rfl rfl)).bo_of_sh) (jg_tup (n := 2) (fun _ c => ⟨c.calm, c.hK⟩) (jgs_cons (jg_name (pgE (i := 5) rfl (by decide +kernel))) (jgs_cons (jg_name (pgE (i := 6) rfl (by decide +kernel))) jgs_nil (fun _ => rfl)) (fun _ => rfl)) (fun _ => rfl) (fun _ => rfl) (fun _ _ _ h => hCons_len (fun _ _ _ h => hCons_len (fun _ _ _ h => hNil_len h) h) h)) (jts_one (jt_nin (je_varP (i := 6) rfl (by decide +kernel) rfl rfl) (je_sl (je_fld T.gok (c := 0) (i := 0) T.ct_Crowd (by decide) rfl (fun _ => rfl) (je_varP (i := 0) rfl (by decide +kernel) rfl rfl)).pk_of_sh jo_none (jo_some (je_varP (i := 5) rfl (by decide +kernel) rfl rfl))).pk_of_fresh rfl)) (je_varS (i := 6) rfl (by decide +kernel) rfl rfl) (fun _ _ => rfl)).sh_of_fresh (fun X h => sw_cell h rfl))
    (jb_cons (js_setS (i := 3) rfl (by decide +kernel) (je_lst (n := 1) (ja_consS (fun _ _ => rfl) (je_tup (n := 0) ja_nil) ja_nil)).sh_of_fresh (fun _ _ => rfl))
    (jb_cons (js_for (ji_rng1 (by decide +kernel) T.m_range (fun _ _ => rfl) (je_varP (i := 1) rfl (by decide +kernel) rfl rfl)) (jg_name (pgS (i := 4) rfl (by decide +kernel))) (jb_one (js_frz 3 (js_setLc2 (i := 3) (own := [("row", 7), ("location", 6)]) (vs1 := [6]) rfl (by decide +kernel) rfl (by decide +kernel) rfl (by decide +kernel) (by decide) (by decide) (by decide) (ji_sq (je_varB (i := 3) rfl (by decide +kernel) rfl rfl)) (jg_name (pgE (i := 7) rfl (by decide +kernel))) jts_nil (ji_sq (je_varB (i := 2) rfl (by decide +kernel) rfl rfl)) (jg_name (pgE (i := 6) rfl (by decide +kernel))) (jts_one (jw_and (jw_or (jt_eq (je_varP (i := 7) rfl (by decide +kernel) rfl rfl) (je_tup (n := 0) ja_nil)) (jw_or1 (jt_le (je_ix (je_varP (i := 7) rfl (by decide +kernel) rfl rfl) (je_neg je_int) (fun _ _ => rfl)).pk_of_sh (je_varP (i := 6) rfl (by decide +kernel) rfl rfl)))).jt (jw_and1 (jt_lt (je_cnt (fun _ _ => rfl) (fun _ => rfl) (fun _ => ⟨rfl, rfl, rfl⟩) (je_varP (i := 7) rfl (by decide +kernel) rfl rfl) (je_varP (i := 6) rfl (by decide +kernel) rfl rfl)) (je_cnt (fun _ _ => rfl) (fun _ => rfl) (fun _ => ⟨rfl, rfl, rfl⟩) (je_fld T.gok (c := 0) (i := 0) T.ct_Crowd (by decide) rfl (fun _ => rfl) (je_varP (i := 0) rfl (by decide +kernel) rfl rfl)).pk_of_sh (je_varP (i := 6) rfl (by decide +kernel) rfl rfl))))).jt) (je_add (je_varP (i := 7) rfl (by decide +kernel) rfl rfl) (je_tup (n := 1) (ja_consS (fun _ _ => rfl) (je_varS (i := 6) rfl (by decide +kernel) rfl rfl) ja_nil))).sh_of_fresh (fun _ _ => rfl) (fun _ _ => rfl)))) (fun _ _ => rfl))
    (jb_one (js_lend 3 (js_retF (je_lc (own := [("row", 7)]) (by decide +kernel) (by decide) (ji_sq (je_varB (i := 3) rfl (by decide +kernel) rfl rfl)) (jg_name (pgE (i := 7) rfl (by decide +kernel))) jts_nil (je_mk (c := 0) T.ct_Crowd T.mk_Crowd (ok_Crowd___init__ T) (by decide) rfl (by decide +kernel) T.mg_Crowd T.b_Crowd___init__ rfl (fun _ _ => rfl) (fun _ => rfl) (ja_consP (fun _ _ => rfl) (je_varP (i := 7) rfl (by decide +kernel) rfl rfl) ja_nil)).sh_of_fresh (fun _ _ => rfl))))))))
theorem ok_Crowd_lots {G : Gm} (T : Txt G) : FnG G 3 T.f_Crowd_lots T.fd_Crowd_lots (["self", "size"] : List Str) [.bo, .bo] Fn_Crowd_lots := fn_okD T.F_Crowd_lots sc_Crowd_lots rfl (by decide) (jb_Crowd_lots T)
theorem sc_Notes_admits : FnScope (["self", "state", "crowd", "noted", "lot"] : List Str) (["self", "state", "crowd"] : List Str) (defScope s_Notes_admits) := ⟨rfl, rfl, rfl, by decide +kernel, rfl, by decide +kernel, by decide +kernel⟩
theorem jb_Notes_admits {G : Gm} (T : Txt G) (W : WX) : JB G 3 W (["self", "state", "crowd", "noted", "lot"] : List Str) (defScope s_Notes_admits) (defBody s_Notes_admits) g_Notes_admits :=
  (jb_cons (js_if (jt_lt (je_lenO (c := 0) T.ct_Crowd T.me_Crowd___len__ (ok_Crowd___len__ T) (by decide) T.b_Crowd___len__ (by decide +kernel) T.m_len (fun _ _ => rfl) (fun _ => rfl) (je_varP (i := 2) rfl (by decide +kernel) rfl rfl)) (je_fld T.gok (c := 3) (i := 0) T.ct_Notes (by decide) rfl (fun _ => rfl) (je_varP (i := 0) rfl (by decide +kernel) rfl rfl)).pk_of_sh) (jb_one (js_retF (je_any (by decide +kernel) T.m_any (fun _ _ => rfl) (fun _ => rfl) (je_lc (own := [("noted", 3)]) (by decide +kernel) (by decide) (ji_sq (je_getO (c := 3) T.ct_Notes T.me_Notes___getitem__ T.fni_Notes___getitem__ (ok_Notes___getitem__ T) (by decide) T.b_Notes___getitem__ (fun _ _ => by with_unfolding_all rfl) (je_varP (i := 0) rfl (by decide +kernel) rfl rfl) (je_varP (i := 1) rfl (by decide +kernel) rfl rfl)).bo_of_fresh) (jg_name (pgE (i := 3) rfl (by decide +kernel))) jts_nil (je_ownC (c := 0) T.ct_Crowd T.me_Crowd___le__ (by decide +kernel) (fun _ _ => rfl) (ok_Crowd___le__ T) (by decide) T.b_Crowd___le__ (je_varP (i := 2) rfl (by decide +kernel) rfl rfl) (je_varP (i := 3) rfl (by decide +kernel) rfl rfl) rfl).sh_of_fresh (fun _ _ => rfl)).pk_of_fresh))) jb_nil)
    (jb_one (js_retF (je_all (by decide +kernel) T.m_all (fun _ _ => rfl) (fun _ => rfl) (je_lc (own := [("lot", 4)]) (by decide +kernel) (by decide) (ji_sq (je_meF (c := 0) T.ct_Crowd T.cl_Crowd T.me_Crowd_lots (ok_Crowd_lots T) (by decide) rfl (by decide) T.b_Crowd_lots (fun _ _ => rfl) (fun _ => rfl) (fun _ => rfl) (je_varP (i := 2) rfl (by decide +kernel) rfl rfl) (ja_consP (fun _ _ => rfl) (je_fld T.gok (c := 3) (i := 0) T.ct_Notes (by decide) rfl (fun _ => rfl) (je_varP (i := 0) rfl (by decide +kernel) rfl rfl)).pk_of_sh ja_nil)).bo_of_fresh) (jg_name (pgE (i := 4) rfl (by decide +kernel))) jts_nil (je_inO (c := 3) T.ct_Notes T.me_Notes___contains__ (ok_Notes___contains__ T) (by decide) T.b_Notes___contains__ (je_tup (n := 2) (ja_consS (fun _ _ => rfl) (je_varS (i := 1) rfl (by decide +kernel) rfl rfl) (ja_consS (fun _ _ => rfl) (je_varS (i := 4) rfl (by decide +kernel) rfl rfl) ja_nil))) (je_varP (i := 0) rfl (by decide +kernel) rfl rfl) rfl) (fun _ _ => rfl)).pk_of_fresh))))
theorem ok_Notes_admits {G : Gm} (T : Txt G) : FnG G 4 T.f_Notes_admits T.fd_Notes_admits (["self", "state", "crowd"] : List Str) [.bo, .bo, .bo] Fn_Notes_admits := fn_okD T.F_Notes_admits sc_Notes_admits rfl (by decide) (jb_Notes_admits T)
theorem sc_Notes_lets : FnScope (["self", "ban", "states", "state"] : List Str) (["self", "ban"] : List Str) (defScope s_Notes_lets) := ⟨rfl, rfl, rfl, by decide +kernel, rfl, by decide +kernel, by decide +kernel⟩
theorem jb_Notes_lets {G : Gm} (T : Txt G) (W : WX) : JB G 4 W (["self", "ban", "states", "state"] : List Str) (defScope s_Notes_lets) (defBody s_Notes_lets) g_Notes_lets :=
  (jb_cons (js_setS (i := 2) rfl (by decide +kernel) (je_fld T.gok (c := 2) (i := 1) T.ct_Ban (by decide) rfl (fun _ => rfl) (je_varP (i := 1) rfl (by decide +kernel) rfl rfl)) (fun _ _ => rfl))
    (jb_cons (js_if (jt_isN (je_varP (i := 2) rfl (by decide +kernel) rfl rfl) je_non) (jb_one (js_setLc (i := 2) (own := [("state", 3)]) rfl (by decide +kernel) rfl (by decide +kernel) rfl rfl (by decide +kernel) (by decide) (ji_rng1 (by decide +kernel) T.m_range (fun _ _ => rfl) (je_cval (c := 1) T.ct_Program T.cr_Program T.cv_Program_MOST_STATES (fun _ => rfl) (je_cls (i := 1) (by decide +kernel) T.mg_Program T.ct_Program rfl))) (jg_name (pgE (i := 3) rfl (by decide +kernel))) jts_nil (je_varS (i := 3) rfl (by decide +kernel) rfl rfl) (fun _ _ => rfl))) jb_nil)
    (jb_one (js_lend 2 (js_retF (je_any (by decide +kernel) T.m_any (fun _ _ => rfl) (fun _ => rfl) (je_lc (own := [("state", 3)]) (by decide +kernel) (by decide) (ji_sq (je_varB (i := 2) rfl (by decide +kernel) rfl rfl)) (jg_name (pgE (i := 3) rfl (by decide +kernel))) jts_nil (je_meF (c := 3) T.ct_Notes T.cl_Notes T.me_Notes_admits (ok_Notes_admits T) (by decide) rfl (by decide) T.b_Notes_admits (fun _ _ => rfl) (fun _ => rfl) (fun _ => rfl) (je_varP (i := 0) rfl (by decide +kernel) rfl rfl) (ja_consP (fun _ _ => rfl) (je_varP (i := 3) rfl (by decide +kernel) rfl rfl) (ja_consP (fun _ _ => rfl) (je_fld T.gok (c := 2) (i := 0) T.ct_Ban (by decide) rfl (fun _ => rfl) (je_varP (i := 1) rfl (by decide +kernel) rfl rfl)).pk_of_sh ja_nil))).sh_of_fresh (fun _ _ => rfl)).pk_of_fresh))))))
theorem ok_Notes_lets {G : Gm} (T : Txt G) : FnG G 5 T.f_Notes_lets T.fd_Notes_lets (["self", "ban"] : List Str) [.bo, .bo] Fn_Notes_lets := fn_okD T.F_Notes_lets sc_Notes_lets rfl (by decide) (jb_Notes_lets T)
theorem sc_Ban___init__ : FnScope (["self", "crowd", "states", "known", "state"] : List Str) (["self", "crowd", "states"] : List Str) (defScope s_Ban___init__) := ⟨rfl, rfl, rfl, by decide +kernel, rfl, by decide +kernel, by decide +kernel⟩
theorem jb_Ban___init__ {G : Gm} (T : Txt G) (W : WX) : JB G 2 W (["self", "crowd", "states", "known", "state"] : List Str) (defScope s_Ban___init__) (defBody s_Ban___init__) g_Ban___init__ :=
  (jb_cons (js_if (jt_gt (je_lenO (c := 0) T.ct_Crowd T.me_Crowd___len__ (ok_Crowd___len__ T) (by decide) T.b_Crowd___len__ (by decide +kernel) T.m_len (fun _ _ => rfl) (fun _ => rfl) (je_varP (i := 1) rfl (by decide +kernel) rfl rfl)) (je_cval (c := 2) T.ct_Ban T.cr_Ban T.cv_Ban_MOST_MEMBERS (fun _ => rfl) (je_cls (i := 2) (by decide +kernel) T.mg_Ban T.ct_Ban rfl))) (jb_one (js_raise (c := 103) T.ct_BanError T.xc_BanError.1 T.mg_BanError T.xc_BanError.2.1 T.xc_BanError.2.2.1 T.xc_BanError.2.2.2 (by decide +kernel) rfl)) jb_nil)
    (jb_cons (js_fld T.gok (c := 2) (i := 0) (sl := 0) T.ct_Ban (by decide) rfl rfl (by decide +kernel) rfl rfl (fun _ _ => rfl) (je_varS (i := 1) rfl (by decide +kernel) rfl rfl))
    (jb_cons (js_fld T.gok (c := 2) (i := 1) (sl := 0) T.ct_Ban (by decide) rfl rfl (by decide +kernel) rfl rfl (fun _ _ => rfl) je_non)
    (jb_one (js_if (jt_isNot (je_varP (i := 2) rfl (by decide +kernel) rfl rfl) je_non) (jb_cons (js_setS (i := 3) rfl (by decide +kernel) (je_tupl (by decide +kernel) T.m_tuple (fun _ _ => rfl) (fun _ => rfl) (je_lc (own := [("state", 4)]) (by decide +kernel) (by decide) (ji_rng1 (by decide +kernel) T.m_range (fun _ _ => rfl) (je_cval (c := 1) T.ct_Program T.cr_Program T.cv_Program_MOST_STATES (fun _ => rfl) (je_cls (i := 1) (by decide +kernel) T.mg_Program T.ct_Program rfl))) (jg_name (pgE (i := 4) rfl (by decide +kernel))) (jts_one (jt_in (je_varP (i := 4) rfl (by decide +kernel) rfl rfl) (je_varP (i := 2) rfl (by decide +kernel) rfl rfl) rfl)) (je_varS (i := 4) rfl (by decide +kernel) rfl rfl) (fun _ _ => rfl)).pk_of_fresh) (fun _ _ => rfl))
    (jb_cons (js_if (jw_or (jt_eq (je_varP (i := 3) rfl (by decide +kernel) rfl rfl) (je_tup (n := 0) ja_nil)) (jw_or1 (jt_val (je_any (by decide +kernel) T.m_any (fun _ _ => rfl) (fun _ => rfl) (je_lc (own := [("state", 4)]) (by decide +kernel) (by decide) (ji_sq (je_varB (i := 2) rfl (by decide +kernel) rfl rfl)) (jg_name (pgE (i := 4) rfl (by decide +kernel))) jts_nil (je_nin (je_varP (i := 4) rfl (by decide +kernel) rfl rfl) (je_varP (i := 3) rfl (by decide +kernel) rfl rfl) rfl) (fun _ _ => rfl)).pk_of_fresh) (fun _ _ => rfl)))).jt (jb_one (js_raise (c := 103) T.ct_BanError T.xc_BanError.1 T.mg_BanError T.xc_BanError.2.1 T.xc_BanError.2.2.1 T.xc_BanError.2.2.2 (by decide +kernel) rfl)) jb_nil)
    (jb_one (js_fld T.gok (c := 2) (i := 1) (sl := 0) T.ct_Ban (by decide) rfl rfl (by decide +kernel) rfl rfl (fun _ _ => rfl) (je_varS (i := 3) rfl (by decide +kernel) rfl rfl))))) jb_nil)))))
theorem ok_Ban___init__ {G : Gm} (T : Txt G) : FnG G 3 T.f_Ban___init__ T.fd_Ban___init__ (["self", "crowd", "states"] : List Str) [.mu, .sh, .bo] Fn_Ban___init__ := fn_okD T.F_Ban___init__ sc_Ban___init__ rfl (by decide) (jb_Ban___init__ T)
theorem sc_Notes___len__ : FnScope (["self"] : List Str) (["self"] : List Str) (defScope s_Notes___len__) := ⟨rfl, rfl, rfl, by decide +kernel, rfl, by decide +kernel, by decide +kernel⟩
theorem jb_Notes___len__ {G : Gm} (T : Txt G) (W : WX) : JB G 0 W (["self"] : List Str) (defScope s_Notes___len__) (defBody s_Notes___len__) g_Notes___len__ :=
  (jb_one (js_retF (je_len (by decide +kernel) T.m_len (fun _ _ => rfl) (fun _ => rfl) (je_fld T.gok (c := 3) (i := 1) T.ct_Notes (by decide) rfl (fun _ => rfl) (je_varP (i := 0) rfl (by decide +kernel) rfl rfl)).pk_of_sh)))
theorem ok_Notes___len__ {G : Gm} (T : Txt G) : FnG G 1 T.f_Notes___len__ T.fd_Notes___len__ (["self"] : List Str) [.bo] Fn_Notes___len__ := fn_okD T.F_Notes___len__ sc_Notes___len__ rfl (by decide) (jb_Notes___len__ T)
theorem sc__law_asked : FnScope (["_law_notes", "_law_rows", "_law_others", "_law_row", "_law_inside", "_law_bag", "_law_told", "_law_x"] : List Str) (["_law_notes", "_law_rows", "_law_others"] : List Str) (defScope s__law_asked) := ⟨rfl, rfl, rfl, by decide +kernel, rfl, by decide +kernel, by decide +kernel⟩
theorem jb__law_asked {G : Gm} (T : Txt G) (W : WX) : JB G 5 W (["_law_notes", "_law_rows", "_law_others", "_law_row", "_law_inside", "_law_bag", "_law_told", "_law_x"] : List Str) (defScope s__law_asked) (defBody s__law_asked) g__law_asked :=
  (jb_cons (js_for (ji_sq (je_add (je_varP (i := 1) rfl (by decide +kernel) rfl rfl) (je_varP (i := 2) rfl (by decide +kernel) rfl rfl)).bo_of_fresh) (jg_name (pgS (i := 3) rfl (by decide +kernel))) (jb_cons (js_setS (i := 4) rfl (by decide +kernel) (je_in (je_varP (i := 3) rfl (by decide +kernel) rfl rfl) (je_varP (i := 1) rfl (by decide +kernel) rfl rfl) rfl) (fun _ _ => rfl))
    (jb_cons (js_setS (i := 5) rfl (by decide +kernel) (je_mk (c := 0) T.ct_Crowd T.mk_Crowd (ok_Crowd___init__ T) (by decide) rfl (by decide +kernel) T.mg_Crowd T.b_Crowd___init__ rfl (fun _ _ => rfl) (fun _ => rfl) (ja_consP (fun _ _ => rfl) (je_ix (je_varP (i := 3) rfl (by decide +kernel) rfl rfl) je_int (fun _ _ => rfl)).pk_of_sh ja_nil)).sh_of_fresh (fun _ _ => rfl))
    (jb_cons (js_setS (i := 6) rfl (by decide +kernel) (je_lst (n := 3) (ja_consS (fun _ _ => rfl) (je_inO (c := 3) T.ct_Notes T.me_Notes___contains__ (ok_Notes___contains__ T) (by decide) T.b_Notes___contains__ (je_tup (n := 2) (ja_consS (fun _ _ => rfl) (je_ix (je_varP (i := 3) rfl (by decide +kernel) rfl rfl) je_int (fun _ _ => rfl)) (ja_consS (fun _ _ => rfl) (je_varS (i := 5) rfl (by decide +kernel) rfl rfl) ja_nil))) (je_varP (i := 0) rfl (by decide +kernel) rfl rfl) rfl) (ja_consS (fun _ _ => rfl) (je_meF (c := 3) T.ct_Notes T.cl_Notes T.me_Notes_admits (ok_Notes_admits T) (by decide) rfl (by decide) T.b_Notes_admits (fun _ _ => rfl) (fun _ => rfl) (fun _ => rfl) (je_varP (i := 0) rfl (by decide +kernel) rfl rfl) (ja_consP (fun _ _ => rfl) (je_ix (je_varP (i := 3) rfl (by decide +kernel) rfl rfl) je_int (fun _ _ => rfl)).pk_of_sh (ja_consP (fun _ _ => rfl) (je_varP (i := 5) rfl (by decide +kernel) rfl rfl) ja_nil))).sh_of_fresh (ja_consS (fun _ _ => rfl) (je_meF (c := 3) T.ct_Notes T.cl_Notes T.me_Notes_lets (ok_Notes_lets T) (by decide) rfl (by decide) T.b_Notes_lets (fun _ _ => rfl) (fun _ => rfl) (fun _ => rfl) (je_varP (i := 0) rfl (by decide +kernel) rfl rfl) (ja_consP (fun _ _ => rfl) (je_mkK (c := 2) (ks := [.sh]) T.ct_Ban T.mk_Ban (ok_Ban___init__ T) (by decide) rfl (by decide +kernel) T.mg_Ban T.kb_Ban___init__ rfl (fun _ _ => rfl) (fun _ => rfl) (fun _ => rfl) (fun _ => rfl) (ja_consS (fun _ _ => rfl) (je_varS (i := 5) rfl (by decide +kernel) rfl rfl) ja_nil) (je_lst (n := 1) (ja_consS (fun _ _ => rfl) (je_ix (je_varP (i := 3) rfl (by decide +kernel) rfl rfl) je_int (fun _ _ => rfl)) ja_nil)).pk_of_fresh).pk_of_fresh ja_nil)).sh_of_fresh ja_nil)))).sh_of_fresh (fun _ _ => rfl))
    (jb_cons (js_if (jt_ne (je_varP (i := 6) rfl (by decide +kernel) rfl rfl) (je_lst (n := 3) (ja_consS (fun _ _ => rfl) (je_varS (i := 4) rfl (by decide +kernel) rfl rfl) (ja_consS (fun _ _ => rfl) (je_varS (i := 4) rfl (by decide +kernel) rfl rfl) (ja_consS (fun _ _ => rfl) (je_varS (i := 4) rfl (by decide +kernel) rfl rfl) ja_nil)))).pk_of_fresh) (jb_one (js_retF je_bl)) jb_nil)
    (jb_one (js_if (jt_ne (je_lc (own := [("_law_x", 7)]) (by decide +kernel) (by decide) (ji_sq (je_getO (c := 3) T.ct_Notes T.me_Notes___getitem__ T.fni_Notes___getitem__ (ok_Notes___getitem__ T) (by decide) T.b_Notes___getitem__ (fun _ _ => by with_unfolding_all rfl) (je_varP (i := 0) rfl (by decide +kernel) rfl rfl) (je_ix (je_varP (i := 3) rfl (by decide +kernel) rfl rfl) je_int (fun _ _ => rfl)).pk_of_sh).bo_of_fresh) (jg_name (pgE (i := 7) rfl (by decide +kernel))) jts_nil (je_fld T.gok (c := 0) (i := 0) T.ct_Crowd (by decide) rfl (fun _ => rfl) (je_varP (i := 7) rfl (by decide +kernel) rfl rfl)) (fun _ _ => rfl)).pk_of_fresh (je_lc (own := [("_law_x", 7)]) (by decide +kernel) (by decide) (ji_sq (je_varB (i := 1) rfl (by decide +kernel) rfl rfl)) (jg_name (pgE (i := 7) rfl (by decide +kernel))) (jts_one (jt_eq (je_ix (je_varP (i := 7) rfl (by decide +kernel) rfl rfl) je_int (fun _ _ => rfl)).pk_of_sh (je_ix (je_varP (i := 3) rfl (by decide +kernel) rfl rfl) je_int (fun _ _ => rfl)).pk_of_sh)) (je_ix (je_varP (i := 7) rfl (by decide +kernel) rfl rfl) je_int (fun _ _ => rfl)) (fun _ _ => rfl)).pk_of_fresh) (jb_one (js_retF je_bl)) jb_nil)))))) (fun _ _ => rfl))
    (jb_one (js_retF (je_and (je_eq (je_lenO (c := 3) T.ct_Notes T.me_Notes___len__ (ok_Notes___len__ T) (by decide) T.b_Notes___len__ (by decide +kernel) T.m_len (fun _ _ => rfl) (fun _ => rfl) (je_varP (i := 0) rfl (by decide +kernel) rfl rfl)) (je_len (by decide +kernel) T.m_len (fun _ _ => rfl) (fun _ => rfl) (je_varP (i := 1) rfl (by decide +kernel) rfl rfl))) (je_one (je_eq (je_me0F (c := 3) T.ct_Notes T.cl_Notes T.me_Notes_lines (ok_Notes_lines T) (by decide) (by decide) T.b_Notes_lines (fun _ => rfl) (je_varP (i := 0) rfl (by decide +kernel) rfl rfl)).pk_of_fresh (je_callF (ok__law_lines T) (by decide) rfl (by decide +kernel) T.g__law_lines T.F__law_lines.kp T.b__law_lines rfl (fun _ _ => rfl) (fun _ => rfl) (ja_consP (fun _ _ => rfl) (je_varP (i := 1) rfl (by decide +kernel) rfl rfl) ja_nil)).pk_of_fresh))))))
theorem ok__law_asked {G : Gm} (T : Txt G) : FnG G 6 T.f__law_asked T.fd__law_asked (["_law_notes", "_law_rows", "_law_others"] : List Str) [.bo, .bo, .bo] Fn__law_asked := fn_okD T.F__law_asked sc__law_asked rfl (by decide) (jb__law_asked T)
theorem sc_law : FnScope (["_law_script", "_law_draws_here", "_law_width", "_law_below", "_law_rows", "_law_k", "_law_bag", "_law_notes", "_law_state", "_law_told", "_law_twin", "_law_rest", "_law_more", "_law_due", "_law_j", "_law_row", "_law_x"] : List Str) (["_law_script"] : List Str) (defScope s_law) := ⟨rfl, rfl, rfl, by decide +kernel, rfl, by decide +kernel, by decide +kernel⟩
theorem jb_law {G : Gm} (T : Txt G) (W : WX) : JB G 6 W (["_law_script", "_law_draws_here", "_law_width", "_law_below", "_law_rows", "_law_k", "_law_bag", "_law_notes", "_law_state", "_law_told", "_law_twin", "_law_rest", "_law_more", "_law_due", "_law_j", "_law_row", "_law_x"] : List Str) (defScope s_law) (defBody s_law) g_law :=
  (jb_cons (js_setS (i := 1) rfl (by decide +kernel) (je_callF (ok__law_draws T) (by decide) rfl (by decide +kernel) T.g__law_draws T.F__law_draws.kp T.b__law_draws rfl (fun _ _ => rfl) (fun _ => rfl) (ja_consP (fun _ _ => rfl) (je_callF (ok__law_cell T) (by decide) rfl (by decide +kernel) T.g__law_cell T.F__law_cell.kp T.b__law_cell rfl (fun _ _ => rfl) (fun _ => rfl) (ja_consP (fun _ _ => rfl) (je_varP (i := 0) rfl (by decide +kernel) rfl rfl) (ja_consP (fun _ _ => rfl) je_int ja_nil))).pk_of_fresh (ja_consP (fun _ _ => rfl) je_int ja_nil))).sh_of_fresh (fun _ _ => rfl))
    (jb_cons (js_setS (i := 2) rfl (by decide +kernel) (je_mod (je_intC (by decide +kernel) T.m_int (fun _ _ => rfl) (fun _ => rfl) (je_add (je_ix (je_varP (i := 1) rfl (by decide +kernel) rfl rfl) je_int (fun _ _ => rfl)).pk_of_sh je_int).pk_of_fresh) je_int) (fun _ _ => rfl))
    (jb_cons (js_setS (i := 3) rfl (by decide +kernel) (je_ix (je_lst (n := 2) (ja_consS (fun _ _ => rfl) je_int (ja_consS (fun _ _ => rfl) je_int ja_nil))).pk_of_fresh (je_mod (je_intC (by decide +kernel) T.m_int (fun _ _ => rfl) (fun _ => rfl) (je_ix (je_varP (i := 1) rfl (by decide +kernel) rfl rfl) je_int (fun _ _ => rfl)).pk_of_sh) je_int) (fun _ _ => rfl)) (fun _ _ => rfl))
    (jb_cons (js_setF (i := 4) rfl (by decide +kernel) (je_lst (n := 0) ja_nil) (fun _ _ => rfl))
    (jb_cons (js_for (ji_rng1 (by decide +kernel) T.m_range (fun _ _ => rfl) (je_mod (je_intC (by decide +kernel) T.m_int (fun _ _ => rfl) (fun _ => rfl) (je_ix (je_varP (i := 1) rfl (by decide +kernel) rfl rfl) je_int (fun _ _ => rfl)).pk_of_sh) je_int)) (jg_name (pgS (i := 5) rfl (by decide +kernel))) (jb_cons (js_setS (i := 6) rfl (by decide +kernel) (je_tupl (by decide +kernel) T.m_tuple (fun _ _ => rfl) (fun _ => rfl) (je_sorted (by decide +kernel) T.m_sorted (fun _ _ => rfl) (fun _ => rfl) (je_lc (own := [("_law_j", 14)]) (by decide +kernel) (by decide) (ji_rng1 (by decide +kernel) T.m_range (fun _ _ => rfl) (je_varP (i := 2) rfl (by decide +kernel) rfl rfl)) (jg_name (pgE (i := 14) rfl (by decide +kernel))) jts_nil (je_mod (je_intC (by decide +kernel) T.m_int (fun _ _ => rfl) (fun _ => rfl) (je_ix (je_varP (i := 1) rfl (by decide +kernel) rfl rfl) (je_add (je_add je_int (je_mul je_int (je_varP (i := 5) rfl (by decide +kernel) rfl rfl)).pk_of_fresh).pk_of_fresh (je_varP (i := 14) rfl (by decide +kernel) rfl rfl)).pk_of_fresh (fun _ _ => rfl)).pk_of_sh) (je_varP (i := 3) rfl (by decide +kernel) rfl rfl)) (fun _ _ => rfl)).pk_of_fresh).pk_of_fresh) (fun _ _ => rfl))
    (jb_one (js_mut (i := 4) (n := 1) slot_app ty_app mt_app lm_app rfl (by decide +kernel) rfl rfl (fun _ => rfl) (fun _ _ => rfl) (fun _ => rfl) (fun _ => ⟨rfl, rfl, rfl⟩) (ja_consS (fun _ _ => rfl) (je_tup (n := 2) (ja_consS (fun _ _ => rfl) (je_add (je_ix (je_lst (n := 6) (ja_consS (fun _ _ => rfl) je_int (ja_consS (fun _ _ => rfl) je_int (ja_consS (fun _ _ => rfl) je_int (ja_consS (fun _ _ => rfl) je_int (ja_consS (fun _ _ => rfl) je_int (ja_consS (fun _ _ => rfl) je_int ja_nil))))))).pk_of_fresh (je_varP (i := 5) rfl (by decide +kernel) rfl rfl) (fun _ _ => rfl)).pk_of_sh (je_mul (je_mod (je_intC (by decide +kernel) T.m_int (fun _ _ => rfl) (fun _ => rfl) (je_ix (je_varP (i := 1) rfl (by decide +kernel) rfl rfl) je_int (fun _ _ => rfl)).pk_of_sh) je_int) (je_mod (je_varP (i := 5) rfl (by decide +kernel) rfl rfl) je_int)).pk_of_fresh).sh_of_fresh (ja_consS (fun _ _ => rfl) (je_varS (i := 6) rfl (by decide +kernel) rfl rfl) ja_nil))) ja_nil)))) (fun _ _ => rfl))
    (jb_cons (js_frz 4 (js_setF (i := 4) rfl (by decide +kernel) (je_callF (ok__law_ranked T) (by decide) rfl (by decide +kernel) T.g__law_ranked T.F__law_ranked.kp T.b__law_ranked rfl (fun _ _ => rfl) (fun _ => rfl) (ja_consP (fun _ _ => rfl) (je_varP (i := 4) rfl (by decide +kernel) rfl rfl) ja_nil)) (fun _ _ => rfl)))
    (jb_cons (js_setF (i := 7) rfl (by decide +kernel) (je_mk (c := 3) T.ct_Notes T.mk_Notes (ok_Notes___init__ T) (by decide) rfl (by decide +kernel) T.mg_Notes T.b_Notes___init__ rfl (fun _ _ => rfl) (fun _ => rfl) (ja_consP (fun _ _ => rfl) (je_varP (i := 2) rfl (by decide +kernel) rfl rfl) ja_nil)) (fun _ _ => rfl))
    (jb_cons (js_for (ji_rng1 (by decide +kernel) T.m_range (fun _ _ => rfl) je_int) (jg_name (pgS (i := 8) rfl (by decide +kernel))) (jb_one (js_lend 4 (js_if (jt_in (je_varP (i := 8) rfl (by decide +kernel) rfl rfl) (je_lc (own := [("_law_row", 15)]) (by decide +kernel) (by decide) (ji_sq (je_varB (i := 4) rfl (by decide +kernel) rfl rfl)) (jg_name (pgE (i := 15) rfl (by decide +kernel))) jts_nil (je_ix (je_varP (i := 15) rfl (by decide +kernel) rfl rfl) je_int (fun _ _ => rfl)) (fun _ _ => rfl)).pk_of_fresh rfl) (jb_one (js_lend 4 (js_setO (s := 7) (c := 3) T.ct_Notes T.me_Notes___setitem__ T.nsq_Notes (ok_Notes___setitem__ T) (by decide) T.b_Notes___setitem__ rfl (by decide +kernel) rfl rfl (fun _ _ => ⟨fun _ => rfl, rfl, rfl, rfl⟩) (je_lc (own := [("_law_row", 15)]) (by decide +kernel) (by decide) (ji_sq (je_varB (i := 4) rfl (by decide +kernel) rfl rfl)) (jg_name (pgE (i := 15) rfl (by decide +kernel))) (jts_one (jt_eq (je_ix (je_varP (i := 15) rfl (by decide +kernel) rfl rfl) je_int (fun _ _ => rfl)).pk_of_sh (je_varP (i := 8) rfl (by decide +kernel) rfl rfl))) (je_mk (c := 0) T.ct_Crowd T.mk_Crowd (ok_Crowd___init__ T) (by decide) rfl (by decide +kernel) T.mg_Crowd T.b_Crowd___init__ rfl (fun _ _ => rfl) (fun _ => rfl) (ja_consP (fun _ _ => rfl) (je_ix (je_varP (i := 15) rfl (by decide +kernel) rfl rfl) je_int (fun _ _ => rfl)).pk_of_sh ja_nil)).sh_of_fresh (fun _ _ => rfl)).bo_of_fresh (je_varB (i := 8) rfl (by decide +kernel) rfl rfl)))) jb_nil))) (fun _ _ => rfl))
    (jb_cons (js_setF (i := 9) rfl (by decide +kernel) (je_me0F (c := 3) T.ct_Notes T.cl_Notes T.me_Notes_lines (ok_Notes_lines T) (by decide) (by decide) T.b_Notes_lines (fun _ => rfl) (je_varP (i := 7) rfl (by decide +kernel) rfl rfl)) (fun _ _ => rfl))
    (jb_cons (js_lend 9 (js_if (jw_or (jt_not (jt_val (je_isi T.gok (by decide +kernel) T.m_isinstance (fun _ _ => rfl) (fun _ _ => rfl) (fun _ => rfl) (je_varP (i := 9) rfl (by decide +kernel) rfl rfl) (je_typ (n := "list") (by decide +kernel) T.m_list boot_list (by decide) rfl)) (fun _ _ => rfl))) (jw_or (jt_ne (je_varP (i := 9) rfl (by decide +kernel) rfl rfl) (je_callF (ok__law_lines T) (by decide) rfl (by decide +kernel) T.g__law_lines T.F__law_lines.kp T.b__law_lines rfl (fun _ _ => rfl) (fun _ => rfl) (ja_consP (fun _ _ => rfl) (je_varP (i := 4) rfl (by decide +kernel) rfl rfl) ja_nil)).pk_of_fresh) (jw_or1 (jt_in je_bl (je_lc (own := [("_law_x", 16)]) (by decide +kernel) (by decide) (ji_sq (je_varB (i := 9) rfl (by decide +kernel) rfl rfl)) (jg_name (pgE (i := 16) rfl (by decide +kernel))) jts_nil (je_isi T.gok (by decide +kernel) T.m_isinstance (fun _ _ => rfl) (fun _ _ => rfl) (fun _ => rfl) (je_varP (i := 16) rfl (by decide +kernel) rfl rfl) (je_typ (n := "str") (by decide +kernel) T.m_str boot_str (by decide) rfl)) (fun _ _ => rfl)).pk_of_fresh rfl)))).jt (jb_one (js_retF je_bl)) jb_nil))
    (jb_cons (js_mut (i := 9) (n := 1) slot_app ty_app mt_app lm_app rfl (by decide +kernel) rfl rfl (fun _ => rfl) (fun _ _ => rfl) (fun _ => rfl) (fun _ => ⟨rfl, rfl, rfl⟩) (ja_consS (fun _ _ => rfl) je_str ja_nil))
    (jb_cons (js_if (jw_or (jt_ne (je_me0F (c := 3) T.ct_Notes T.cl_Notes T.me_Notes_lines (ok_Notes_lines T) (by decide) (by decide) T.b_Notes_lines (fun _ => rfl) (je_varP (i := 7) rfl (by decide +kernel) rfl rfl)).pk_of_fresh (je_callF (ok__law_lines T) (by decide) rfl (by decide +kernel) T.g__law_lines T.F__law_lines.kp T.b__law_lines rfl (fun _ _ => rfl) (fun _ => rfl) (ja_consP (fun _ _ => rfl) (je_varP (i := 4) rfl (by decide +kernel) rfl rfl) ja_nil)).pk_of_fresh) (jw_or1 (jt_not (jt_val (je_callF (ok__law_pairs T) (by decide) rfl (by decide +kernel) T.g__law_pairs T.F__law_pairs.kp T.b__law_pairs rfl (fun _ _ => rfl) (fun _ => rfl) (ja_consP (fun _ _ => rfl) (je_varP (i := 7) rfl (by decide +kernel) rfl rfl) (ja_consP (fun _ _ => rfl) (je_varP (i := 4) rfl (by decide +kernel) rfl rfl) ja_nil))).pk_of_fresh (fun _ _ => rfl))))).jt (jb_one (js_retF je_bl)) jb_nil)
    (jb_cons (js_setF (i := 10) rfl (by decide +kernel) (je_me0F (c := 3) T.ct_Notes T.cl_Notes T.me_Notes_copy (ok_Notes_copy T) (by decide) (by decide) T.b_Notes_copy (fun _ => rfl) (je_varP (i := 7) rfl (by decide +kernel) rfl rfl)) (fun _ _ => rfl))
    (jb_cons (js_if (jw_or (jt_not (jt_val (je_isi T.gok (by decide +kernel) T.m_isinstance (fun _ _ => rfl) (fun _ _ => rfl) (fun _ => rfl) (je_varP (i := 10) rfl (by decide +kernel) rfl rfl) (je_cls (i := 3) (by decide +kernel) T.mg_Notes T.ct_Notes rfl)) (fun _ _ => rfl))) (jw_or (jt_ne (je_fld T.gok (c := 3) (i := 0) T.ct_Notes (by decide) rfl (fun _ => rfl) (je_varP (i := 10) rfl (by decide +kernel) rfl rfl)).pk_of_sh (je_varP (i := 2) rfl (by decide +kernel) rfl rfl)) (jw_or1 (jt_ne (je_callF (ok__law_entries T) (by decide) rfl (by decide +kernel) T.g__law_entries T.F__law_entries.kp T.b__law_entries rfl (fun _ _ => rfl) (fun _ => rfl) (ja_consP (fun _ _ => rfl) (je_lc (own := [("_law_row", 15)]) (by decide +kernel) (by decide) (ji_ownL T.gok (c := 3) T.ct_Notes (by decide) (i := 1) rfl (it_Notes T) (by decide) (je_varP (i := 10) rfl (by decide +kernel) rfl rfl)) (jg_name (pgE (i := 15) rfl (by decide +kernel))) jts_nil (je_varS (i := 15) rfl (by decide +kernel) rfl rfl) (fun _ _ => rfl)).pk_of_fresh ja_nil)).pk_of_fresh (je_varP (i := 4) rfl (by decide +kernel) rfl rfl))))).jt (jb_one (js_retF je_bl)) jb_nil)
    (jb_cons (js_if (jw_or (jt_not (jt_val (je_callF (ok__law_asked T) (by decide) rfl (by decide +kernel) T.g__law_asked T.F__law_asked.kp T.b__law_asked rfl (fun _ _ => rfl) (fun _ => rfl) (ja_consP (fun _ _ => rfl) (je_varP (i := 7) rfl (by decide +kernel) rfl rfl) (ja_consP (fun _ _ => rfl) (je_varP (i := 4) rfl (by decide +kernel) rfl rfl) (ja_consP (fun _ _ => rfl) (je_lst (n := 0) ja_nil).pk_of_fresh ja_nil)))).pk_of_fresh (fun _ _ => rfl))) (jw_or1 (jt_not (jt_val (je_callF (ok__law_asked T) (by decide) rfl (by decide +kernel) T.g__law_asked T.F__law_asked.kp T.b__law_asked rfl (fun _ _ => rfl) (fun _ => rfl) (ja_consP (fun _ _ => rfl) (je_varP (i := 10) rfl (by decide +kernel) rfl rfl) (ja_consP (fun _ _ => rfl) (je_varP (i := 4) rfl (by decide +kernel) rfl rfl) (ja_consP (fun _ _ => rfl) (je_lst (n := 0) ja_nil).pk_of_fresh ja_nil)))).pk_of_fresh (fun _ _ => rfl))))).jt (jb_one (js_retF je_bl)) jb_nil)
    (jb_cons (js_setO (s := 10) (c := 3) T.ct_Notes T.me_Notes___setitem__ T.nsq_Notes (ok_Notes___setitem__ T) (by decide) T.b_Notes___setitem__ rfl (by decide +kernel) rfl rfl (fun _ _ => ⟨fun _ => rfl, rfl, rfl, rfl⟩) (je_lst (n := 0) ja_nil).bo_of_fresh je_int)
    (jb_cons (js_lend 4 (js_setLc (i := 11) (own := [("_law_row", 15)]) rfl (by decide +kernel) rfl (by decide +kernel) rfl rfl (by decide +kernel) (by decide) (ji_sq (je_varB (i := 4) rfl (by decide +kernel) rfl rfl)) (jg_name (pgE (i := 15) rfl (by decide +kernel))) (jts_one (jt_ne (je_ix (je_varP (i := 15) rfl (by decide +kernel) rfl rfl) je_int (fun _ _ => rfl)).pk_of_sh je_int)) (je_varS (i := 15) rfl (by decide +kernel) rfl rfl) (fun _ _ => rfl)))
    (jb_cons (js_if (jw_or (jt_ne (je_callF (ok__law_entries T) (by decide) rfl (by decide +kernel) T.g__law_entries T.F__law_entries.kp T.b__law_entries rfl (fun _ _ => rfl) (fun _ => rfl) (ja_consP (fun _ _ => rfl) (je_lc (own := [("_law_row", 15)]) (by decide +kernel) (by decide) (ji_ownL T.gok (c := 3) T.ct_Notes (by decide) (i := 1) rfl (it_Notes T) (by decide) (je_varP (i := 7) rfl (by decide +kernel) rfl rfl)) (jg_name (pgE (i := 15) rfl (by decide +kernel))) jts_nil (je_varS (i := 15) rfl (by decide +kernel) rfl rfl) (fun _ _ => rfl)).pk_of_fresh ja_nil)).pk_of_fresh (je_varP (i := 4) rfl (by decide +kernel) rfl rfl)) (jw_or1 (jt_ne (je_callF (ok__law_entries T) (by decide) rfl (by decide +kernel) T.g__law_entries T.F__law_entries.kp T.b__law_entries rfl (fun _ _ => rfl) (fun _ => rfl) (ja_consP (fun _ _ => rfl) (je_lc (own := [("_law_row", 15)]) (by decide +kernel) (by decide) (ji_ownL T.gok (c := 3) T.ct_Notes (by decide) (i := 1) rfl (it_Notes T) (by decide) (je_varP (i := 10) rfl (by decide +kernel) rfl rfl)) (jg_name (pgE (i := 15) rfl (by decide +kernel))) jts_nil (je_varS (i := 15) rfl (by decide +kernel) rfl rfl) (fun _ _ => rfl)).pk_of_fresh ja_nil)).pk_of_fresh (je_varP (i := 11) rfl (by decide +kernel) rfl rfl)))).jt (jb_one (js_retF je_bl)) jb_nil)
    (jb_cons (js_if (jw_or (jt_not (jt_val (je_callF (ok__law_asked T) (by decide) rfl (by decide +kernel) T.g__law_asked T.F__law_asked.kp T.b__law_asked rfl (fun _ _ => rfl) (fun _ => rfl) (ja_consP (fun _ _ => rfl) (je_varP (i := 10) rfl (by decide +kernel) rfl rfl) (ja_consP (fun _ _ => rfl) (je_varP (i := 11) rfl (by decide +kernel) rfl rfl) (ja_consP (fun _ _ => rfl) (je_varP (i := 4) rfl (by decide +kernel) rfl rfl) ja_nil)))).pk_of_fresh (fun _ _ => rfl))) (jw_or1 (jt_not (jt_val (je_callF (ok__law_asked T) (by decide) rfl (by decide +kernel) T.g__law_asked T.F__law_asked.kp T.b__law_asked rfl (fun _ _ => rfl) (fun _ => rfl) (ja_consP (fun _ _ => rfl) (je_varP (i := 7) rfl (by decide +kernel) rfl rfl) (ja_consP (fun _ _ => rfl) (je_varP (i := 4) rfl (by decide +kernel) rfl rfl) (ja_consP (fun _ _ => rfl) (je_lst (n := 0) ja_nil).pk_of_fresh ja_nil)))).pk_of_fresh (fun _ _ => rfl))))).jt (jb_one (js_retF je_bl)) jb_nil)
    (jb_cons (js_setO (s := 7) (c := 3) T.ct_Notes T.me_Notes___setitem__ T.nsq_Notes (ok_Notes___setitem__ T) (by decide) T.b_Notes___setitem__ rfl (by decide +kernel) rfl rfl (fun _ _ => ⟨fun _ => rfl, rfl, rfl, rfl⟩) (je_lst (n := 2) (ja_consS (fun _ _ => rfl) (je_mk (c := 0) T.ct_Crowd T.mk_Crowd (ok_Crowd___init__ T) (by decide) rfl (by decide +kernel) T.mg_Crowd T.b_Crowd___init__ rfl (fun _ _ => rfl) (fun _ => rfl) (ja_consP (fun _ _ => rfl) (je_mul (je_lst (n := 1) (ja_consS (fun _ _ => rfl) je_int ja_nil)).pk_of_fresh (je_varP (i := 2) rfl (by decide +kernel) rfl rfl)).pk_of_fresh ja_nil)).sh_of_fresh (ja_consS (fun _ _ => rfl) (je_mk (c := 0) T.ct_Crowd T.mk_Crowd (ok_Crowd___init__ T) (by decide) rfl (by decide +kernel) T.mg_Crowd T.b_Crowd___init__ rfl (fun _ _ => rfl) (fun _ => rfl) (ja_consP (fun _ _ => rfl) (je_mul (je_lst (n := 1) (ja_consS (fun _ _ => rfl) je_int ja_nil)).pk_of_fresh (je_varP (i := 2) rfl (by decide +kernel) rfl rfl)).pk_of_fresh ja_nil)).sh_of_fresh ja_nil))).bo_of_fresh je_int)
    (jb_cons (js_setS (i := 12) rfl (by decide +kernel) (je_lst (n := 2) (ja_consS (fun _ _ => rfl) (je_tup (n := 2) (ja_consS (fun _ _ => rfl) je_int (ja_consS (fun _ _ => rfl) (je_mulT (je_tup (n := 1) (ja_consS (fun _ _ => rfl) je_int ja_nil)) (je_varP (i := 2) rfl (by decide +kernel) rfl rfl)) ja_nil))) (ja_consS (fun _ _ => rfl) (je_tup (n := 2) (ja_consS (fun _ _ => rfl) je_int (ja_consS (fun _ _ => rfl) (je_mulT (je_tup (n := 1) (ja_consS (fun _ _ => rfl) je_int ja_nil)) (je_varP (i := 2) rfl (by decide +kernel) rfl rfl)) ja_nil))) ja_nil))).sh_of_fresh (fun _ _ => rfl))
    (jb_cons (js_lend 4 (js_setS (i := 13) rfl (by decide +kernel) (je_callF (ok__law_ranked T) (by decide) rfl (by decide +kernel) T.g__law_ranked T.F__law_ranked.kp T.b__law_ranked rfl (fun _ _ => rfl) (fun _ => rfl) (ja_consP (fun _ _ => rfl) (je_add (je_lc (own := [("_law_row", 15)]) (by decide +kernel) (by decide) (ji_sq (je_varB (i := 4) rfl (by decide +kernel) rfl rfl)) (jg_name (pgE (i := 15) rfl (by decide +kernel))) (jts_one (jt_ne (je_ix (je_varP (i := 15) rfl (by decide +kernel) rfl rfl) je_int (fun _ _ => rfl)).pk_of_sh je_int)) (je_varS (i := 15) rfl (by decide +kernel) rfl rfl) (fun _ _ => rfl)).pk_of_fresh (je_varP (i := 12) rfl (by decide +kernel) rfl rfl)).pk_of_fresh ja_nil)).sh_of_fresh (fun _ _ => rfl)))
    (jb_cons (js_if (jw_or (jt_ne (je_callF (ok__law_entries T) (by decide) rfl (by decide +kernel) T.g__law_entries T.F__law_entries.kp T.b__law_entries rfl (fun _ _ => rfl) (fun _ => rfl) (ja_consP (fun _ _ => rfl) (je_lc (own := [("_law_row", 15)]) (by decide +kernel) (by decide) (ji_ownL T.gok (c := 3) T.ct_Notes (by decide) (i := 1) rfl (it_Notes T) (by decide) (je_varP (i := 7) rfl (by decide +kernel) rfl rfl)) (jg_name (pgE (i := 15) rfl (by decide +kernel))) jts_nil (je_varS (i := 15) rfl (by decide +kernel) rfl rfl) (fun _ _ => rfl)).pk_of_fresh ja_nil)).pk_of_fresh (je_varP (i := 13) rfl (by decide +kernel) rfl rfl)) (jw_or1 (jt_ne (je_me0F (c := 3) T.ct_Notes T.cl_Notes T.me_Notes_lines (ok_Notes_lines T) (by decide) (by decide) T.b_Notes_lines (fun _ => rfl) (je_varP (i := 7) rfl (by decide +kernel) rfl rfl)).pk_of_fresh (je_callF (ok__law_lines T) (by decide) rfl (by decide +kernel) T.g__law_lines T.F__law_lines.kp T.b__law_lines rfl (fun _ _ => rfl) (fun _ => rfl) (ja_consP (fun _ _ => rfl) (je_varP (i := 13) rfl (by decide +kernel) rfl rfl) ja_nil)).pk_of_fresh))).jt (jb_one (js_retF je_bl)) jb_nil)
    (jb_cons (js_if (jw_or (jt_ne (je_callF (ok__law_entries T) (by decide) rfl (by decide +kernel) T.g__law_entries T.F__law_entries.kp T.b__law_entries rfl (fun _ _ => rfl) (fun _ => rfl) (ja_consP (fun _ _ => rfl) (je_lc (own := [("_law_row", 15)]) (by decide +kernel) (by decide) (ji_ownL T.gok (c := 3) T.ct_Notes (by decide) (i := 1) rfl (it_Notes T) (by decide) (je_varP (i := 10) rfl (by decide +kernel) rfl rfl)) (jg_name (pgE (i := 15) rfl (by decide +kernel))) jts_nil (je_varS (i := 15) rfl (by decide +kernel) rfl rfl) (fun _ _ => rfl)).pk_of_fresh ja_nil)).pk_of_fresh (je_varP (i := 11) rfl (by decide +kernel) rfl rfl)) (jw_or1 (jt_ne (je_me0F (c := 3) T.ct_Notes T.cl_Notes T.me_Notes_lines (ok_Notes_lines T) (by decide) (by decide) T.b_Notes_lines (fun _ => rfl) (je_varP (i := 10) rfl (by decide +kernel) rfl rfl)).pk_of_fresh (je_callF (ok__law_lines T) (by decide) rfl (by decide +kernel) T.g__law_lines T.F__law_lines.kp T.b__law_lines rfl (fun _ _ => rfl) (fun _ => rfl) (ja_consP (fun _ _ => rfl) (je_varP (i := 11) rfl (by decide +kernel) rfl rfl) ja_nil)).pk_of_fresh))).jt (jb_one (js_retF je_bl)) jb_nil)
    (jb_one (js_retF (je_and (je_callF (ok__law_asked T) (by decide) rfl (by decide +kernel) T.g__law_asked T.F__law_asked.kp T.b__law_asked rfl (fun _ _ => rfl) (fun _ => rfl) (ja_consP (fun _ _ => rfl) (je_varP (i := 7) rfl (by decide +kernel) rfl rfl) (ja_consP (fun _ _ => rfl) (je_varP (i := 13) rfl (by decide +kernel) rfl rfl) (ja_consP (fun _ _ => rfl) (je_varP (i := 4) rfl (by decide +kernel) rfl rfl) ja_nil)))).pk_of_fresh (je_and (je_callF (ok__law_asked T) (by decide) rfl (by decide +kernel) T.g__law_asked T.F__law_asked.kp T.b__law_asked rfl (fun _ _ => rfl) (fun _ => rfl) (ja_consP (fun _ _ => rfl) (je_varP (i := 10) rfl (by decide +kernel) rfl rfl) (ja_consP (fun _ _ => rfl) (je_varP (i := 11) rfl (by decide +kernel) rfl rfl) (ja_consP (fun _ _ => rfl) (je_add (je_varP (i := 4) rfl (by decide +kernel) rfl rfl) (je_varP (i := 12) rfl (by decide +kernel) rfl rfl)).pk_of_fresh ja_nil)))).pk_of_fresh (je_and (je_callF (ok__law_asked T) (by decide) rfl (by decide +kernel) T.g__law_asked T.F__law_asked.kp T.b__law_asked rfl (fun _ _ => rfl) (fun _ => rfl) (ja_consP (fun _ _ => rfl) (je_varP (i := 7) rfl (by decide +kernel) rfl rfl) (ja_consP (fun _ _ => rfl) (je_varP (i := 13) rfl (by decide +kernel) rfl rfl) (ja_consP (fun _ _ => rfl) (je_lst (n := 0) ja_nil).pk_of_fresh ja_nil)))).pk_of_fresh (je_one (je_callF (ok__law_pairs T) (by decide) rfl (by decide +kernel) T.g__law_pairs T.F__law_pairs.kp T.b__law_pairs rfl (fun _ _ => rfl) (fun _ => rfl) (ja_consP (fun _ _ => rfl) (je_varP (i := 10) rfl (by decide +kernel) rfl rfl) (ja_consP (fun _ _ => rfl) (je_varP (i := 11) rfl (by decide +kernel) rfl rfl) ja_nil)))))))))))))))))))))))))))))))))
theorem ok_law {G : Gm} (T : Txt G) : FnG G 7 T.f_law T.fd_law (["_law_script"] : List Str) [.bo] Fn_law := fn_okD T.F_law sc_law rfl (by decide) (jb_law T)
end DL
namespace DL
open PySem PySem.Spec L2
theorem draws_l1 (a m : Int) (hm : 0 ≤ m) (hm2 : m ≤ 1000) (r : Int) : ∃ l : List Int, l.length = m.toNat ∧ (∀ x ∈ l, 0 ≤ x ∧ x < 1000) ∧ ∃ q3 q4, loopG (Ep 4) b1__law_draws (rngD 0 m) [.sh (.int a), .bo (.int m), .ow (.lst []), .sh (.int r), .un, .un] = some (.nx [.sh (.int a), .bo (.int m), .ow (.lst (l.map D.int)), q3, q4, .un]) := by
  obtain ⟨ρ', e, l, r, q4, h1, h2, h3, _⟩ := loop_inv0 (h := Ep 4) (g := b1__law_draws) (fun i ρ => ∃ (l : List Int) (r : Int) (q4 : Sl), ρ = [.sh (.int a), .bo (.int m), .ow (.lst (l.map D.int)), .sh (.int r), q4, .un] ∧ l.length = i ∧ (∀ x ∈ l, 0 ≤ x ∧ x < 1000) ∧ (q4 = .un ∨ ∃ d, q4 = .sh d))
    (rngD 0 m) _ ⟨[], r, .un, rfl, rfl, by simp, .inl rfl⟩ (by
      rintro i d ρ hi ⟨l, r, q4, rfl, hl, hx, hq⟩
      obtain ⟨rfl, hi2⟩ := rngD_at hi
      refine ⟨[.sh (.int a), .bo (.int m), .ow (.lst (l.map D.int)), .sh (.int r), .sh (.int (0 + i)), .un], [.sh (.int a), .bo (.int m), .ow (.lst ((l ++ [r % 1000]).map D.int)), .sh (.int (r / 1000)), .sh (.int (0 + i)), .un], ?_, .inl ?_, l ++ [r % 1000], _, _, rfl, by simp [hl], ?_, .inr ⟨_, rfl⟩⟩
      · rcases hq with rfl | ⟨d, rfl⟩ <;> simp [Ci,Ca,Bb,Bd,Cw,Fd,Cy,Cf,Bf,Bk,Fe,Ee,Bl,Fg,Aj,El,Be,frz,Ez,Ac,Ba,fC,DL.M.bnd,Aa,Ay,Bc,Az,Fb,Cc,Em,Ff,Cz,Bg,Eo,Bj,Fi,Ck,Ea,Fc,Ed,Cd,up1,Eg,Ek,put,Ec,Cq,Eb,Kd.fr,Eh,D.isMut,Ep,Ah,Fh,Bi,Ef,Bm,Bn,D.len,D.list,D.tupl,rng1,rng2,Ak,Al,Am,An,Ai,Ao,Ae,Bo,Bp,Bq,Br,Bs,D.isN,D.isNot,Ei,ixL,Ad,Af,LIM,Ej,Out.upE,Ag,Cr]
      · have : l.length < 16000000 := by omega
        simp [Ci,Ca,Bb,Bd,Cw,Fd,Cy,Cf,Bf,Bk,Fe,Ee,Bl,Fg,Aj,El,Be,frz,Ez,Ac,Ba,fC,DL.M.bnd,Aa,Ay,Bc,Az,Fb,Cc,Em,Ff,Cz,Bg,Eo,Bj,Fi,Ck,Ea,Fc,Ed,Cd,up1,Eg,Ek,put,Ec,Cq,Eb,Kd.fr,Eh,D.isMut,Ep,Ah,Fh,Bi,Ef,Bm,Bn,D.len,D.list,D.tupl,rng1,rng2,Ak,Al,Am,An,Ai,Ao,Ae,Bo,Bp,Bq,Br,Bs,D.isN,D.isNot,Ei,ixL,Ad,Af,LIM,Ej,Out.upE,Ag,Cr,b1__law_draws,this]
      · intro x hxx
        rcases List.mem_append.mp hxx with h | h
        · exact hx x h
        · obtain rfl := List.mem_singleton.mp h
          exact ⟨Int.emod_nonneg _ (by decide), Int.emod_lt_of_pos _ (by decide)⟩)
  rw [rngD_len, show m - 0 = m by omega] at h2
  subst h1
  exact ⟨l, h2, h3, _, q4, e⟩
theorem draws_l2 (a m : Int) (hm : 0 ≤ m) (hm2 : m ≤ 1000) : ∃ l : List Int, l.length = m.toNat ∧ (∀ x ∈ l, 0 ≤ x ∧ x < 1000) ∧ ∃ q4 q5, loopG (Ep 4) b2__law_draws (rngD 0 m) [.sh (.int a), .bo (.int m), .ow (.lst []), .un, .un, .un] = some (.nx [.sh (.int a), .bo (.int m), .ow (.lst (l.map D.int)), .un, q4, q5]) := by
  obtain ⟨ρ', e, l, q4, q5, h1, h2, h3, _⟩ := loop_inv0 (h := Ep 4) (g := b2__law_draws) (fun i ρ => ∃ (l : List Int) (q4 q5 : Sl), ρ = [.sh (.int a), .bo (.int m), .ow (.lst (l.map D.int)), .un, q4, q5] ∧ l.length = i ∧ (∀ x ∈ l, 0 ≤ x ∧ x < 1000) ∧ (q4 = .un ∨ ∃ d, q4 = .sh d) ∧ (q5 = .un ∨ ∃ d, q5 = .sh d))
    (rngD 0 m) _ ⟨[], .un, .un, rfl, rfl, by simp, .inl rfl, .inl rfl⟩ (by
      rintro i d ρ hi ⟨l, q4, q5, rfl, hl, hx, hq, hq5⟩
      obtain ⟨ed, hi2⟩ := rngD_at hi
      obtain ⟨y, hy⟩ : ∃ y : Int, y = 0 + (i : Int) := ⟨_, rfl⟩
      rw [← hy] at ed
      subst ed
      obtain ⟨o, ho⟩ : ∃ o : Int, o = (a * 7919 + y * 131 + 7) % 1009 := ⟨_, rfl⟩
      have o1 : 0 ≤ o := by rw [ho]; exact Int.emod_nonneg _ (by decide)
      have o2 : o < 1009 := by rw [ho]; exact Int.emod_lt_of_pos _ (by decide)
      refine ⟨[.sh (.int a), .bo (.int m), .ow (.lst (l.map D.int)), .un, .sh (.int y), q5], [.sh (.int a), .bo (.int m), .ow (.lst ((l ++ [(o * o + y * 17 + a) % 997]).map D.int)), .un, .sh (.int y), .sh (.int o)], ?_, .inl ?_, l ++ [(o * o + y * 17 + a) % 997], _, _, rfl, by simp [hl], ?_, .inr ⟨_, rfl⟩, .inr ⟨_, rfl⟩⟩
      · rcases hq with rfl | ⟨d, rfl⟩ <;> simp [Ci,Ca,Bb,Bd,Cw,Fd,Cy,Cf,Bf,Bk,Fe,Ee,Bl,Fg,Aj,El,Be,frz,Ez,Ac,Ba,fC,DL.M.bnd,Aa,Ay,Bc,Az,Fb,Cc,Em,Ff,Cz,Bg,Eo,Bj,Fi,Ck,Ea,Fc,Ed,Cd,up1,Eg,Ek,put,Ec,Cq,Eb,Kd.fr,Eh,D.isMut,Ep,Ah,Fh,Bi,Ef,Bm,Bn,D.len,D.list,D.tupl,rng1,rng2,Ak,Al,Am,An,Ai,Ao,Ae,Bo,Bp,Bq,Br,Bs,D.isN,D.isNot,Ei,ixL,Ad,Af,LIM,Ej,Out.upE,Ag,Cr]
      · have h1 : l.length < 16000000 := by omega
        have h6 : -18446744073709551616 < o := by omega
        have h7 : o < 18446744073709551616 := by omega
        refine (gSeq_nx (ρ' := [.sh (.int a), .bo (.int m), .ow (.lst (l.map D.int)), .un, .sh (.int y), .sh (.int o)]) ?_).trans ?_
        · rcases hq5 with rfl | ⟨d, rfl⟩ <;> (simp [Ci,Ca,Bb,Bd,Cw,Fd,Cy,Cf,Bf,Bk,Fe,Ee,Bl,Fg,Aj,El,Be,frz,Ez,Ac,Ba,fC,DL.M.bnd,Aa,Ay,Bc,Az,Fb,Cc,Em,Ff,Cz,Bg,Eo,Bj,Fi,Ck,Ea,Fc,Ed,Cd,up1,Eg,Ek,put,Ec,Cq,Eb,Kd.fr,Eh,D.isMut,Ep,Ah,Fh,Bi,Ef,Bm,Bn,D.len,D.list,D.tupl,rng1,rng2,Ak,Al,Am,An,Ai,Ao,Ae,Bo,Bp,Bq,Br,Bs,D.isN,D.isNot,Ei,ixL,Ad,Af,LIM,Ej,Out.upE,Ag,Cr]; exact ho.symm)
        · simp [Ci,Ca,Bb,Bd,Cw,Fd,Cy,Cf,Bf,Bk,Fe,Ee,Bl,Fg,Aj,El,Be,frz,Ez,Ac,Ba,fC,DL.M.bnd,Aa,Ay,Bc,Az,Fb,Cc,Em,Ff,Cz,Bg,Eo,Bj,Fi,Ck,Ea,Fc,Ed,Cd,up1,Eg,Ek,put,Ec,Cq,Eb,Kd.fr,Eh,D.isMut,Ep,Ah,Fh,Bi,Ef,Bm,Bn,D.len,D.list,D.tupl,rng1,rng2,Ak,Al,Am,An,Ai,Ao,Ae,Bo,Bp,Bq,Br,Bs,D.isN,D.isNot,Ei,ixL,Ad,Af,LIM,Ej,Out.upE,Ag,Cr,h1,h6,h7]
      · intro x hxx
        rcases List.mem_append.mp hxx with h | h
        · exact hx x h
        · obtain rfl := List.mem_singleton.mp h
          have := Int.emod_nonneg (o * o + y * 17 + a) (show (997 : Int) ≠ 0 by decide)
          have := Int.emod_lt_of_pos (o * o + y * 17 + a) (show (0 : Int) < 997 by decide)
          omega)
  rw [rngD_len, show m - 0 = m by omega] at h2
  subst h1
  exact ⟨l, h2, h3, q4, q5, e⟩
theorem draws_ok (c m : Int) (hm : 0 ≤ m) (hm2 : m ≤ 1000) : ∃ l : List Int, l.length = m.toNat ∧ (∀ x ∈ l, 0 ≤ x ∧ x < 1000) ∧ Fn__law_draws [.int c, .int m] = some (.ret true (.lst (l.map D.int)) []) := by
  have hr : -16000000 ≤ m ∧ m ≤ 16000000 := by omega
  obtain ⟨a, ha⟩ : ∃ a : Int, a = if c < 0 then -c else c := ⟨_, rfl⟩
  have e12 : r1__law_draws [.bo (.int c), .bo (.int m), .un, .un, .un, .un] = r3__law_draws [.sh (.int a), .bo (.int m), .ow (.lst []), .un, .un, .un] := by
    refine (gSeq_nx (ρ' := [.sh (.int a), .bo (.int m), .un, .un, .un, .un]) ?_).trans (gSeq_nx ?_)
    · simp [Ci,Ca,Bb,Bd,Cw,Fd,Cy,Cf,Bf,Bk,Fe,Ee,Bl,Fg,Aj,El,Be,frz,Ez,Ac,Ba,fC,DL.M.bnd,Aa,Ay,Bc,Az,Fb,Cc,Em,Ff,Cz,Bg,Eo,Bj,Fi,Ck,Ea,Fc,Ed,Cd,up1,Eg,Ek,put,Ec,Cq,Eb,Kd.fr,Eh,D.isMut,Ep,Ah,Fh,Bi,Ef,Bm,Bn,D.len,D.list,D.tupl,rng1,rng2,Ak,Al,Am,An,Ai,Ao,Ae,Bo,Bp,Bq,Br,Bs,D.isN,D.isNot,Ei,ixL,Ad,Af,LIM,Ej,Out.upE,Ag,Cr,s1__law_draws,ha]
    · simp [Ci,Ca,Bb,Bd,Cw,Fd,Cy,Cf,Bf,Bk,Fe,Ee,Bl,Fg,Aj,El,Be,frz,Ez,Ac,Ba,fC,DL.M.bnd,Aa,Ay,Bc,Az,Fb,Cc,Em,Ff,Cz,Bg,Eo,Bj,Fi,Ck,Ea,Fc,Ed,Cd,up1,Eg,Ek,put,Ec,Cq,Eb,Kd.fr,Eh,D.isMut,Ep,Ah,Fh,Bi,Ef,Bm,Bn,D.len,D.list,D.tupl,rng1,rng2,Ak,Al,Am,An,Ai,Ao,Ae,Bo,Bp,Bq,Br,Bs,D.isN,D.isNot,Ei,ixL,Ad,Af,LIM,Ej,Out.upE,Ag,Cr,s2__law_draws]
  by_cases hc : (1000000000000000000 : Int) ≤ a
  · obtain ⟨l, h1, h2, q3, q4, e⟩ := draws_l1 a m hm hm2 (a - 1000000000000000000)
    refine ⟨l, h1, h2, ?_⟩
    have e3 : r3__law_draws [.sh (.int a), .bo (.int m), .ow (.lst []), .un, .un, .un] = some (.rt .fresh (.lst (l.map D.int)) [.sh (.int a), .bo (.int m), .ow (.lst (l.map D.int)), q3, q4, .un]) := by
      simp [Ci,Ca,Bb,Bd,Cw,Fd,Cy,Cf,Bf,Bk,Fe,Ee,Bl,Fg,Aj,El,Be,frz,Ez,Ac,Ba,fC,DL.M.bnd,Aa,Ay,Bc,Az,Fb,Cc,Em,Ff,Cz,Bg,Eo,Bj,Fi,Ck,Ea,Fc,Ed,Cd,up1,Eg,Ek,put,Ec,Cq,Eb,Kd.fr,Eh,D.isMut,Ep,Ah,Fh,Bi,Ef,Bm,Bn,D.len,D.list,D.tupl,rng1,rng2,Ak,Al,Am,An,Ai,Ao,Ae,Bo,Bp,Bq,Br,Bs,D.isN,D.isNot,Ei,ixL,Ad,Af,LIM,Ej,Out.upE,Ag,Cr,r3__law_draws,s3__law_draws,hc,hr,e]
    show Cq _ (r1__law_draws [.bo (.int c), .bo (.int m), .un, .un, .un, .un]) = _
    rw [e12, e3]
    rfl
  · obtain ⟨l, h1, h2, q4, q5, e⟩ := draws_l2 a m hm hm2
    refine ⟨l, h1, h2, ?_⟩
    have e3 : r3__law_draws [.sh (.int a), .bo (.int m), .ow (.lst []), .un, .un, .un] = some (.rt .fresh (.lst (l.map D.int)) [.sh (.int a), .bo (.int m), .ow (.lst (l.map D.int)), .un, q4, q5]) := by
      simp [Ci,Ca,Bb,Bd,Cw,Fd,Cy,Cf,Bf,Bk,Fe,Ee,Bl,Fg,Aj,El,Be,frz,Ez,Ac,Ba,fC,DL.M.bnd,Aa,Ay,Bc,Az,Fb,Cc,Em,Ff,Cz,Bg,Eo,Bj,Fi,Ck,Ea,Fc,Ed,Cd,up1,Eg,Ek,put,Ec,Cq,Eb,Kd.fr,Eh,D.isMut,Ep,Ah,Fh,Bi,Ef,Bm,Bn,D.len,D.list,D.tupl,rng1,rng2,Ak,Al,Am,An,Ai,Ao,Ae,Bo,Bp,Bq,Br,Bs,D.isN,D.isNot,Ei,ixL,Ad,Af,LIM,Ej,Out.upE,Ag,Cr,r3__law_draws,s3__law_draws,r4__law_draws,s4__law_draws,r5__law_draws,s5__law_draws,hc,hr,e]
    show Cq _ (r1__law_draws [.bo (.int c), .bo (.int m), .un, .un, .un, .un]) = _
    rw [e12, e3]
    rfl
theorem cell_ok (ns : List Int) (k : Nat) (hl : ns.length ≤ 63) : ∃ c : Int, Fn__law_cell [.scr ns, .int k] = some (.ret true (.int c) []) := by
  by_cases hk : k < ns.length
  · refine ⟨ns[k], ?_⟩
    have : atI ns (k : Int) = some ns[k] := atI_nat hk
    have hk' : (k : Int) < (ns.length : Int) := by omega
    simp [Ci,Ca,Bb,Bd,Cw,Fd,Cy,Cf,Bf,Bk,Fe,Ee,Bl,Fg,Aj,El,Be,frz,Ez,Ac,Ba,fC,DL.M.bnd,Aa,Ay,Bc,Az,Fb,Cc,Em,Ff,Cz,Bg,Eo,Bj,Fi,Ck,Ea,Fc,Ed,Cd,up1,Eg,Ek,put,Ec,Cq,Eb,Kd.fr,Eh,D.isMut,Ep,Ah,Fh,Bi,Ef,Bm,Bn,D.len,D.list,D.tupl,rng1,rng2,Ak,Al,Am,An,Ai,Ao,Ae,Bo,Bp,Bq,Br,Bs,D.isN,D.isNot,Ei,ixL,Ad,Af,LIM,Ej,Out.upE,Ag,Cr,Fn__law_cell,g__law_cell,r1__law_cell,s1__law_cell,r2__law_cell,hk',hk,this]
  · refine ⟨0, ?_⟩
    have hk' : ¬ (k : Int) < (ns.length : Int) := by omega
    simp [Ci,Ca,Bb,Bd,Cw,Fd,Cy,Cf,Bf,Bk,Fe,Ee,Bl,Fg,Aj,El,Be,frz,Ez,Ac,Ba,fC,DL.M.bnd,Aa,Ay,Bc,Az,Fb,Cc,Em,Ff,Cz,Bg,Eo,Bj,Fi,Ck,Ea,Fc,Ed,Cd,up1,Eg,Ek,put,Ec,Cq,Eb,Kd.fr,Eh,D.isMut,Ep,Ah,Fh,Bi,Ef,Bm,Bn,D.len,D.list,D.tupl,rng1,rng2,Ak,Al,Am,An,Ai,Ao,Ae,Bo,Bp,Bq,Br,Bs,D.isN,D.isNot,Ei,ixL,Ad,Af,LIM,Ej,Out.upE,Ag,Cr,Fn__law_cell,g__law_cell,r1__law_cell,s1__law_cell,r2__law_cell,s2__law_cell,hk',hk]
theorem init_loop (self : Sl) (its : Sl) (l : List Int) (hl : ∀ x ∈ l, 0 ≤ x) : ∃ q2, loopG (Ep 2) b1_Crowd___init__ (l.map D.int) [self, its, .un] = some (.nx [self, its, q2]) ∧ (q2 = .un ∨ ∃ d, q2 = .sh d) := by
  obtain ⟨ρ', e, q2, rfl, h⟩ := loop_inv0 (h := Ep 2) (g := b1_Crowd___init__) (fun _ ρ => ∃ q2, ρ = [self, its, q2] ∧ (q2 = .un ∨ ∃ d, q2 = .sh d)) (l.map D.int) _ ⟨.un, rfl, .inl rfl⟩ (by
    rintro i d ρ hi ⟨q2, rfl, hq⟩
    rw [List.getElem?_map] at hi
    cases e : l[i]? with
    | none => rw [e] at hi; cases hi
    | some x =>
      rw [e] at hi
      cases hi
      have hx := hl x (List.mem_of_getElem? e)
      have hx' : ¬ x < 0 := by omega
      refine ⟨[self, its, .sh (.int x)], [self, its, .sh (.int x)], ?_, .inl ?_, _, rfl, .inr ⟨_, rfl⟩⟩
      · rcases hq with rfl | ⟨d, rfl⟩ <;> simp [Ci,Ca,Bb,Bd,Cw,Fd,Cy,Cf,Bf,Bk,Fe,Ee,Bl,Fg,Aj,El,Be,frz,Ez,Ac,Ba,fC,DL.M.bnd,Aa,Ay,Bc,Az,Fb,Cc,Em,Ff,Cz,Bg,Eo,Bj,Fi,Ck,Ea,Fc,Ed,Cd,up1,Eg,Ek,put,Ec,Cq,Eb,Kd.fr,Eh,D.isMut,Ep,Ah,Fh,Bi,Ef,Bm,Bn,D.len,D.list,D.tupl,rng1,rng2,Ak,Al,Am,An,Ai,Ao,Ae,Bo,Bp,Bq,Br,Bs,D.isN,D.isNot,Ei,ixL,Ad,Af,LIM,Ej,Out.upE,Ag,Cr]
      · simp [Ci,Ca,Bb,Bd,Cw,Fd,Cy,Cf,Bf,Bk,Fe,Ee,Bl,Fg,Aj,El,Be,frz,Ez,Ac,Ba,fC,DL.M.bnd,Aa,Ay,Bc,Az,Fb,Cc,Em,Ff,Cz,Bg,Eo,Bj,Fi,Ck,Ea,Fc,Ed,Cd,up1,Eg,Ek,put,Ec,Cq,Eb,Kd.fr,Eh,D.isMut,Ep,Ah,Fh,Bi,Ef,Bm,Bn,D.len,D.list,D.tupl,rng1,rng2,Ak,Al,Am,An,Ai,Ao,Ae,Bo,Bp,Bq,Br,Bs,D.isN,D.isNot,Ei,ixL,Ad,Af,LIM,Ej,Out.upE,Ag,Cr,b1_Crowd___init__,hx'])
  exact ⟨q2, e, h⟩
theorem e1_init (self its : Sl) (l : List Int) : compG (Ep 2) Cd e1_Crowd___init__ [self, its, .un] (l.map D.int) = some (l.map D.int) :=
  compG_all D.int D.int l fun x _ => ⟨[self, its, .sh (.int x)], by simp [Ci,Ca,Bb,Bd,Cw,Fd,Cy,Cf,Bf,Bk,Fe,Ee,Bl,Fg,Aj,El,Be,frz,Ez,Ac,Ba,fC,DL.M.bnd,Aa,Ay,Bc,Az,Fb,Cc,Em,Ff,Cz,Bg,Eo,Bj,Fi,Ck,Ea,Fc,Ed,Cd,up1,Eg,Ek,put,Ec,Cq,Eb,Kd.fr,Eh,D.isMut,Ep,Ah,Fh,Bi,Ef,Bm,Bn,D.len,D.list,D.tupl,rng1,rng2,Ak,Al,Am,An,Ai,Ao,Ae,Bo,Bp,Bq,Br,Bs,D.isN,D.isNot,Ei,ixL,Ad,Af,LIM,Ej,Out.upE,Ag,Cr], by simp [Ci,Ca,Bb,Bd,Cw,Fd,Cy,Cf,Bf,Bk,Fe,Ee,Bl,Fg,Aj,El,Be,frz,Ez,Ac,Ba,fC,DL.M.bnd,Aa,Ay,Bc,Az,Fb,Cc,Em,Ff,Cz,Bg,Eo,Bj,Fi,Ck,Ea,Fc,Ed,Cd,up1,Eg,Ek,put,Ec,Cq,Eb,Kd.fr,Eh,D.isMut,Ep,Ah,Fh,Bi,Ef,Bm,Bn,D.len,D.list,D.tupl,rng1,rng2,Ak,Al,Am,An,Ai,Ao,Ae,Bo,Bp,Bq,Br,Bs,D.isN,D.isNot,Ei,ixL,Ad,Af,LIM,Ej,Out.upE,Ag,Cr,e1_Crowd___init__]⟩
theorem init_ok (l : List Int) (hl : ∀ x ∈ l, 0 ≤ x) (hn : l.length ≤ 16000000) (b : Bool) : Fn_Crowd___init__ [.obj 0 [], if b = true then .tup (l.map D.int) else .lst (l.map D.int)] = some (.ret true .non [.obj 0 [.tup ((srt l).map D.int)]]) := by
  have hd : ∃ d : D, d = (if b = true then D.tup (l.map D.int) else D.lst (l.map D.int)) ∧ itemsD d = some (l.map D.int) := by
    refine ⟨_, rfl, ?_⟩
    cases b <;> rfl
  obtain ⟨d, e, hi⟩ := hd
  rw [← e]
  obtain ⟨q2, e1, hq⟩ := init_loop (.mu (.obj 0 [])) (.bo d) l hl
  have a1 : r1_Crowd___init__ [.mu (.obj 0 []), .bo d, .un] = r2_Crowd___init__ [.mu (.obj 0 []), .bo d, q2] := gSeq_nx (by
    simp [Ci,Ca,Bb,Bd,Cw,Fd,Cy,Cf,Bf,Bk,Fe,Ee,Bl,Fg,Aj,El,Be,frz,Ez,Ac,Ba,fC,DL.M.bnd,Aa,Ay,Bc,Az,Fb,Cc,Em,Ff,Cz,Bg,Eo,Bj,Fi,Ck,Ea,Fc,Ed,Cd,up1,Eg,Ek,put,Ec,Cq,Eb,Kd.fr,Eh,D.isMut,Ep,Ah,Fh,Bi,Ef,Bm,Bn,D.len,D.list,D.tupl,rng1,rng2,Ak,Al,Am,An,Ai,Ao,Ae,Bo,Bp,Bq,Br,Bs,D.isN,D.isNot,Ei,ixL,Ad,Af,LIM,Ej,Out.upE,Ag,Cr,s1_Crowd___init__,hi,e1])
  have a2 : r2_Crowd___init__ [.mu (.obj 0 []), .bo d, q2] = some (.nx [.mu (.obj 0 [.tup ((srt l).map D.int)]), .bo d, q2]) := by
    have a3 : (fLc (Fc (Bc 1)) (Ep 2) Cd e1_Crowd___init__ [2]) [.mu (.obj 0 []), .bo d, q2] = some (.ok (.lst (l.map D.int))) := by
      simp [Ci,Ca,Bb,Bd,Cw,Fd,Cy,Cf,Bf,Bk,Fe,Ee,Bl,Fg,Aj,El,Be,frz,Ez,Ac,Ba,fC,DL.M.bnd,Aa,Ay,Bc,Az,Fb,Cc,Em,Ff,Cz,Bg,Eo,Bj,Fi,Ck,Ea,Fc,Ed,Cd,up1,Eg,Ek,put,Ec,Cq,Eb,Kd.fr,Eh,D.isMut,Ep,Ah,Fh,Bi,Ef,Bm,Bn,D.len,D.list,D.tupl,rng1,rng2,Ak,Al,Am,An,Ai,Ao,Ae,Bo,Bp,Bq,Br,Bs,D.isN,D.isNot,Ei,ixL,Ad,Af,LIM,Ej,Out.upE,Ag,Cr,fLc,hi,Cb,e1_init,limL_ok,hn]
    have a4 : D.sorted [.lst (l.map D.int)] = some (.lst ((srt l).map D.int)) := by
      show (ints? (l.map D.int)).map _ = _
      rw [ints?_map]
      rfl
    simp [Ci,Ca,Bb,Bd,Cw,Fd,Cy,Cf,Bf,Bk,Fe,Ee,Bl,Fg,Aj,El,Be,frz,Ez,Ac,Ba,fC,DL.M.bnd,Aa,Ay,Bc,Az,Fb,Cc,Em,Ff,Cz,Bg,Eo,Bj,Fi,Ck,Ea,Fc,Ed,Cd,up1,Eg,Ek,put,Ec,Cq,Eb,Kd.fr,Eh,D.isMut,Ep,Ah,Fh,Bi,Ef,Bm,Bn,D.len,D.list,D.tupl,rng1,rng2,Ak,Al,Am,An,Ai,Ao,Ae,Bo,Bp,Bq,Br,Bs,D.isN,D.isNot,Ei,ixL,Ad,Af,LIM,Ej,Out.upE,Ag,Cr,r2_Crowd___init__,s2_Crowd___init__,a3,a4,setFld]
  show Cq _ (r1_Crowd___init__ [.mu (.obj 0 []), .bo d, .un]) = _
  rw [a1, a2]
  rfl
theorem int_ok (x : Int) : Fn__law_is_integer [.int x] = some (.ret true (.bl true) []) := by
  have h1 : D.isi [.int x, .typ "int"] = some (.bl true) := by kernel_rfl
  have h2 : D.isi [.int x, .typ "bool"] = some (.bl false) := by kernel_rfl
  simp [Ci,Ca,Bb,Bd,Cw,Fd,Cy,Cf,Bf,Bk,Fe,Ee,Bl,Fg,Aj,El,Be,frz,Ez,Ac,Ba,fC,DL.M.bnd,Aa,Ay,Bc,Az,Fb,Cc,Em,Ff,Cz,Bg,Eo,Bj,Fi,Ck,Ea,Fc,Ed,Cd,up1,Eg,Ek,put,Ec,Cq,Eb,Kd.fr,Eh,D.isMut,Ep,Ah,Fh,Bi,Ef,Bm,Bn,D.len,D.list,D.tupl,rng1,rng2,Ak,Al,Am,An,Ai,Ao,Ae,Bo,Bp,Bq,Br,Bs,D.isN,D.isNot,Ei,ixL,Ad,Af,LIM,Ej,Out.upE,Ag,Cr,Fn__law_is_integer,g__law_is_integer,r1__law_is_integer,s1__law_is_integer,fIsi,h1,h2]
theorem entry_ok (c : Int × List Int) : Fn__law_entry [encC c] = some (.ret true (keyD c) []) := by
  obtain ⟨st, M⟩ := c
  have i0 : atI [D.int st, crD M] 0 = some (.int st) := rfl
  have i1 : atI [D.int st, crD M] 1 = some (crD M) := rfl
  have f1 : fldD 0 0 (crD M) = some (.tup (M.map D.int)) := rfl
  have n2 : D.ne (.int 2) (.int 2) = some (.bl false) := (EqR.int 2).ne (by decide)
  have io := int_ok st
  show Fn__law_entry [.tup [.int st, crD M]] = some (.ret true (.tup [.int st, .tup (M.map D.int)]) [])
  have e1 : r1__law_entry [.bo (.tup [.int st, crD M])] = r3__law_entry [.bo (.tup [.int st, crD M])] := by
    refine (gSeq_nx (ρ' := [.bo (.tup [.int st, crD M])]) ?_).trans (gSeq_nx ?_)
    · simp only [s1__law_entry, if_or, if_not]
      simp [Ci,Ca,Bb,Bd,Cw,Fd,Cy,Cf,Bf,Bk,Fe,Ee,Bl,Fg,Aj,El,Be,frz,Ez,Ac,Ba,fC,DL.M.bnd,Aa,Ay,Bc,Az,Fb,Cc,Em,Ff,Cz,Bg,Eo,Bj,Fi,Ck,Ea,Fc,Ed,Cd,up1,Eg,Ek,put,Ec,Cq,Eb,Kd.fr,Eh,D.isMut,Ep,Ah,Fh,Bi,Ef,Bm,Bn,D.len,D.list,D.tupl,rng1,rng2,Ak,Al,Am,An,Ai,Ao,Ae,Bo,Bp,Bq,Br,Bs,D.isN,D.isNot,Ei,ixL,Ad,Af,LIM,Ej,Out.upE,Ag,Cr,fIsi,isi_tt,n2,i0,io]
    · simp only [s2__law_entry, if_or, if_not]
      simp [Ci,Ca,Bb,Bd,Cw,Fd,Cy,Cf,Bf,Bk,Fe,Ee,Bl,Fg,Aj,El,Be,frz,Ez,Ac,Ba,fC,DL.M.bnd,Aa,Ay,Bc,Az,Fb,Cc,Em,Ff,Cz,Bg,Eo,Bj,Fi,Ck,Ea,Fc,Ed,Cd,up1,Eg,Ek,put,Ec,Cq,Eb,Kd.fr,Eh,D.isMut,Ep,Ah,Fh,Bi,Ef,Bm,Bn,D.len,D.list,D.tupl,rng1,rng2,Ak,Al,Am,An,Ai,Ao,Ae,Bo,Bp,Bq,Br,Bs,D.isN,D.isNot,Ei,ixL,Ad,Af,LIM,Ej,Out.upE,Ag,Cr,fIsi,i1,isi_c0,f1,isi_tt]
  simp [Ci,Ca,Bb,Bd,Cw,Fd,Cy,Cf,Bf,Bk,Fe,Ee,Bl,Fg,Aj,El,Be,frz,Ez,Ac,Ba,fC,DL.M.bnd,Aa,Ay,Bc,Az,Fb,Cc,Em,Ff,Cz,Bg,Eo,Bj,Fi,Ck,Ea,Fc,Ed,Cd,up1,Eg,Ek,put,Ec,Cq,Eb,Kd.fr,Eh,D.isMut,Ep,Ah,Fh,Bi,Ef,Bm,Bn,D.len,D.list,D.tupl,rng1,rng2,Ak,Al,Am,An,Ai,Ao,Ae,Bo,Bp,Bq,Br,Bs,D.isN,D.isNot,Ei,ixL,Ad,Af,LIM,Ej,Out.upE,Ag,Cr,Fn__law_entry,g__law_entry,e1,r3__law_entry,s3__law_entry,i0,i1,f1]
theorem entries_ok (cs : List (Int × List Int)) (hl : cs.length ≤ 16000000) : Fn__law_entries [.lst (cs.map encC)] = some (.ret true (.lst (cs.map keyD)) []) := by
  obtain ⟨q0, hq0⟩ : ∃ q0 : Sl, q0 = .bo (.lst (cs.map encC)) := ⟨_, rfl⟩
  have cc : compG (Ep 1) Cd e1__law_entries [q0, .un] (cs.map encC) = some (cs.map keyD) :=
    compG_all encC keyD cs fun c _ => ⟨[q0, .sh (encC c)], by simp [Ci,Ca,Bb,Bd,Cw,Fd,Cy,Cf,Bf,Bk,Fe,Ee,Bl,Fg,Aj,El,Be,frz,Ez,Ac,Ba,fC,DL.M.bnd,Aa,Ay,Bc,Az,Fb,Cc,Em,Ff,Cz,Bg,Eo,Bj,Fi,Ck,Ea,Fc,Ed,Cd,up1,Eg,Ek,put,Ec,Cq,Eb,Kd.fr,Eh,D.isMut,Ep,Ah,Fh,Bi,Ef,Bm,Bn,D.len,D.list,D.tupl,rng1,rng2,Ak,Al,Am,An,Ai,Ao,Ae,Bo,Bp,Bq,Br,Bs,D.isN,D.isNot,Ei,ixL,Ad,Af,LIM,Ej,Out.upE,Ag,Cr], by
      have := entry_ok c
      simp [Ci,Ca,Bb,Bd,Cw,Fd,Cy,Cf,Bf,Bk,Fe,Ee,Bl,Fg,Aj,El,Be,frz,Ez,Ac,Ba,fC,DL.M.bnd,Aa,Ay,Bc,Az,Fb,Cc,Em,Ff,Cz,Bg,Eo,Bj,Fi,Ck,Ea,Fc,Ed,Cd,up1,Eg,Ek,put,Ec,Cq,Eb,Kd.fr,Eh,D.isMut,Ep,Ah,Fh,Bi,Ef,Bm,Bn,D.len,D.list,D.tupl,rng1,rng2,Ak,Al,Am,An,Ai,Ao,Ae,Bo,Bp,Bq,Br,Bs,D.isN,D.isNot,Ei,ixL,Ad,Af,LIM,Ej,Out.upE,Ag,Cr,e1__law_entries,this]⟩
  have n1 : (cs.map keyD).length ≤ 16000000 := by rw [List.length_map]; exact hl
  show Cq _ (r1__law_entries [.bo (.lst (cs.map encC)), .un]) = _
  rw [hq0] at cc
  simp [Ci,Ca,Bb,Bd,Cw,Fd,Cy,Cf,Bf,Bk,Fe,Ee,Bl,Fg,Aj,El,Be,frz,Ez,Ac,Ba,fC,DL.M.bnd,Aa,Ay,Bc,Az,Fb,Cc,Em,Ff,Cz,Bg,Eo,Bj,Fi,Ck,Ea,Fc,Ed,Cd,up1,Eg,Ek,put,Ec,Cq,Eb,Kd.fr,Eh,D.isMut,Ep,Ah,Fh,Bi,Ef,Bm,Bn,D.len,D.list,D.tupl,rng1,rng2,Ak,Al,Am,An,Ai,Ao,Ae,Bo,Bp,Bq,Br,Bs,D.isN,D.isNot,Ei,ixL,Ad,Af,LIM,Ej,Out.upE,Ag,Cr,r1__law_entries,s1__law_entries,fLc,Cb,cc,limL_ok n1]
theorem isi_ll (l : List D) : D.isi [.lst l, .typ "list"] = some (.bl true) := by
  show (isiT (.b "list") (.b "list")).map D.bl = _
  kernel_rfl
theorem ne_keys (l : List Cfg) : D.ne (.lst (l.map keyD)) (.lst (l.map keyD)) = some (.bl false) := by
  have := eqE_key.lst.dne (by decide) l l
  rw [this]
  simp
theorem ordered_while {α : Type} [DecidableEq α] {enc : α → D} {lt : α → α → Bool} (O : OrdEnc enc lt) (hs : Sto lt) (q0 : Sl) (R : List α) (hR : Asc lt R) (x : α) (q5 : Sl) (h5 : q5.free = true) (hl : R.length ≤ 1000000) :
    ∃ (k : Nat) (q5' : Sl), k ≤ R.length ∧ q5'.free = true ∧ (∀ i y, i < k → R[i]? = some y → lt y x = true) ∧ (∀ y, R[k]? = some y → lt y x = false) ∧ whileG t1_ordered b1_ordered 10000000 [q0, .ow (.lst (R.map enc)), .sh (enc x), .sh (.int 0), .sh (.int (R.length : Nat)), q5] = some (.nx [q0, .ow (.lst (R.map enc)), .sh (enc x), .sh (.int (k : Nat)), .sh (.int (k : Nat)), q5']) := by
  obtain ⟨ρ', e, k, q5', hk, hf, a1, a2, rfl⟩ := while_ok (ga := t1_ordered) (g := b1_ordered) (fun m ρ => ∃ (lo hi : Nat) (q5 : Sl), lo ≤ hi ∧ hi ≤ R.length ∧ hi - lo ≤ m ∧ q5.free = true ∧ (∀ i y, i < lo → R[i]? = some y → lt y x = true) ∧ (∀ i y, hi ≤ i → R[i]? = some y → lt y x = false) ∧ ρ = [q0, .ow (.lst (R.map enc)), .sh (enc x), .sh (.int (lo : Nat)), .sh (.int (hi : Nat)), q5])
    (fun ρ => ∃ (k : Nat) (q5 : Sl), k ≤ R.length ∧ q5.free = true ∧ (∀ i y, i < k → R[i]? = some y → lt y x = true) ∧ (∀ y, R[k]? = some y → lt y x = false) ∧ ρ = [q0, .ow (.lst (R.map enc)), .sh (enc x), .sh (.int (k : Nat)), .sh (.int (k : Nat)), q5])
    (fun ρ => by
      rintro ⟨lo, hi, q5, h1, h2, h3, h4, h6, h7, rfl⟩
      have e : lo = hi := by omega
      subst e
      have hn : ¬ (lo : Int) < lo := by omega
      exact ⟨by simp [Ci,Ca,Bb,Bd,Cw,Fd,Cy,Cf,Bf,Bk,Fe,Ee,Bl,Fg,Aj,El,Be,frz,Ez,Ac,Ba,fC,DL.M.bnd,Aa,Ay,Bc,Az,Fb,Cc,Em,Ff,Cz,Bg,Eo,Bj,Fi,Ck,Ea,Fc,Ed,Cd,up1,Eg,Ek,Bt,Ab,Ap,Aq,Ar,Au,Av,Aw,Ec,Cq,Eb,Kd.fr,Eh,D.isMut,Ep,Ah,Fh,Bi,Ef,Bm,Bn,D.len,D.list,D.tupl,Ak,Al,Am,An,Ai,Ao,Ae,Bo,Bp,Bq,Br,Bs,D.isN,D.isNot,Ei,ix_l,ix_t,ix_s,Ad,Af,LIM,Ej,Out.upE,Ag,Cr,Et,Ce,Es,Co,Ew,Ex,Cu,Cs,fMe,fMk,Ev,fIk,Cl,D.addI,D.subI,Er,fSl,Cj,slD,Cm,gBk,gCt,fLc,Cb,Ey,fCv,Cg,Bh,Ax,Cv,Ch,isO,only,Eu,at_0,at_1,at_2,at_3,Bu,isO,Bv,Bw,Bx,Bz,isP,Cp,D.isB,D.isNotB,t1_ordered,hn], lo, q5, h2, h4, h6, fun y hy => h7 lo y (Nat.le_refl _) hy, rfl⟩)
    (fun m ρ => by
      rintro ⟨lo, hi, q5, h1, h2, h3, h4, h6, h7, rfl⟩
      by_cases e : lo = hi
      · subst e
        have hn : ¬ (lo : Int) < lo := by omega
        exact .inl ⟨by simp [Ci,Ca,Bb,Bd,Cw,Fd,Cy,Cf,Bf,Bk,Fe,Ee,Bl,Fg,Aj,El,Be,frz,Ez,Ac,Ba,fC,DL.M.bnd,Aa,Ay,Bc,Az,Fb,Cc,Em,Ff,Cz,Bg,Eo,Bj,Fi,Ck,Ea,Fc,Ed,Cd,up1,Eg,Ek,Bt,Ab,Ap,Aq,Ar,Au,Av,Aw,Ec,Cq,Eb,Kd.fr,Eh,D.isMut,Ep,Ah,Fh,Bi,Ef,Bm,Bn,D.len,D.list,D.tupl,Ak,Al,Am,An,Ai,Ao,Ae,Bo,Bp,Bq,Br,Bs,D.isN,D.isNot,Ei,ix_l,ix_t,ix_s,Ad,Af,LIM,Ej,Out.upE,Ag,Cr,Et,Ce,Es,Co,Ew,Ex,Cu,Cs,fMe,fMk,Ev,fIk,Cl,D.addI,D.subI,Er,fSl,Cj,slD,Cm,gBk,gCt,fLc,Cb,Ey,fCv,Cg,Bh,Ax,Cv,Ch,isO,only,Eu,at_0,at_1,at_2,at_3,Bu,isO,Bv,Bw,Bx,Bz,isP,Cp,D.isB,D.isNotB,t1_ordered,hn], lo, q5, h2, h4, h6, fun y hy => h7 lo y (Nat.le_refl _) hy, rfl⟩
      · have hlt : lo < hi := by omega
        have hn : (lo : Int) < hi := by omega
        obtain ⟨mid, hm⟩ : ∃ mid : Nat, mid = (lo + hi) / 2 := ⟨_, rfl⟩
        have hmi : ((lo : Int) + hi) / 2 = (mid : Nat) := by omega
        have m1 : lo ≤ mid := by omega
        have m2 : mid < hi := by omega
        obtain ⟨y, hy⟩ : ∃ y, R[mid]? = some y := ⟨R[mid], List.getElem?_eq_getElem (by omega)⟩
        have hat := atI_mapT enc hy
        have hlt2 := O.lt y x
        obtain ⟨RD, hRD⟩ : ∃ RD, RD = R.map enc := ⟨_, rfl⟩
        rw [← hRD] at hat ⊢
        refine .inr ⟨by simp [Ci,Ca,Bb,Bd,Cw,Fd,Cy,Cf,Bf,Bk,Fe,Ee,Bl,Fg,Aj,El,Be,frz,Ez,Ac,Ba,fC,DL.M.bnd,Aa,Ay,Bc,Az,Fb,Cc,Em,Ff,Cz,Bg,Eo,Bj,Fi,Ck,Ea,Fc,Ed,Cd,up1,Eg,Ek,Bt,Ab,Ap,Aq,Ar,Au,Av,Aw,Ec,Cq,Eb,Kd.fr,Eh,D.isMut,Ep,Ah,Fh,Bi,Ef,Bm,Bn,D.len,D.list,D.tupl,Ak,Al,Am,An,Ai,Ao,Ae,Bo,Bp,Bq,Br,Bs,D.isN,D.isNot,Ei,ix_l,ix_t,ix_s,Ad,Af,LIM,Ej,Out.upE,Ag,Cr,Et,Ce,Es,Co,Ew,Ex,Cu,Cs,fMe,fMk,Ev,fIk,Cl,D.addI,D.subI,Er,fSl,Cj,slD,Cm,gBk,gCt,fLc,Cb,Ey,fCv,Cg,Bh,Ax,Cv,Ch,isO,only,Eu,at_0,at_1,at_2,at_3,Bu,isO,Bv,Bw,Bx,Bz,isP,Cp,D.isB,D.isNotB,t1_ordered,hn], ?_⟩
        cases hc : lt y x with
        | true =>
          rw [hc] at hlt2
          refine ⟨[q0, .ow (.lst RD), .sh (enc x), .sh (.int ((mid + 1 : Nat))), .sh (.int (hi : Nat)), .sh (.int (mid : Nat))], .inl ?_, mid + 1, hi, _, by omega, h2, by omega, rfl, fun i z hi hz => ?_, h7, rfl⟩
          · simp [Ci,Ca,Bb,Bd,Cw,Fd,Cy,Cf,Bf,Bk,Fe,Ee,Bl,Fg,Aj,El,Be,frz,Ez,Ac,Ba,fC,DL.M.bnd,Aa,Ay,Bc,Az,Fb,Cc,Em,Ff,Cz,Bg,Eo,Bj,Fi,Ck,Ea,Fc,Ed,Cd,up1,Eg,Ek,Bt,Ab,Ap,Aq,Ar,Au,Av,Aw,Ec,Cq,Eb,Kd.fr,Eh,D.isMut,Ep,Ah,Fh,Bi,Ef,Bm,Bn,D.len,D.list,D.tupl,Ak,Al,Am,An,Ai,Ao,Ae,Bo,Bp,Bq,Br,Bs,D.isN,D.isNot,Ei,ix_l,ix_t,ix_s,Ad,Af,LIM,Ej,Out.upE,Ag,Cr,Et,Ce,Es,Co,Ew,Ex,Cu,Cs,fMe,fMk,Ev,fIk,Cl,D.addI,D.subI,Er,fSl,Cj,slD,Cm,gBk,gCt,fLc,Cb,Ey,fCv,Cg,Bh,Ax,Cv,Ch,isO,only,Eu,at_0,at_1,at_2,at_3,Bu,isO,Bv,Bw,Bx,Bz,isP,Cp,D.isB,D.isNotB,b1_ordered,h4,hmi,hat,hlt2]
          · by_cases e2 : i = mid
            · subst e2
              rw [hy] at hz
              cases hz
              exact hc
            · exact hs.tr _ _ _ (asc_at hR (show i < mid by omega) hz hy) hc
        | false =>
          rw [hc] at hlt2
          refine ⟨[q0, .ow (.lst RD), .sh (enc x), .sh (.int (lo : Nat)), .sh (.int (mid : Nat)), .sh (.int (mid : Nat))], .inl ?_, lo, mid, _, m1, by omega, by omega, rfl, h6, fun i z hi hz => ?_, rfl⟩
          · simp [Ci,Ca,Bb,Bd,Cw,Fd,Cy,Cf,Bf,Bk,Fe,Ee,Bl,Fg,Aj,El,Be,frz,Ez,Ac,Ba,fC,DL.M.bnd,Aa,Ay,Bc,Az,Fb,Cc,Em,Ff,Cz,Bg,Eo,Bj,Fi,Ck,Ea,Fc,Ed,Cd,up1,Eg,Ek,Bt,Ab,Ap,Aq,Ar,Au,Av,Aw,Ec,Cq,Eb,Kd.fr,Eh,D.isMut,Ep,Ah,Fh,Bi,Ef,Bm,Bn,D.len,D.list,D.tupl,Ak,Al,Am,An,Ai,Ao,Ae,Bo,Bp,Bq,Br,Bs,D.isN,D.isNot,Ei,ix_l,ix_t,ix_s,Ad,Af,LIM,Ej,Out.upE,Ag,Cr,Et,Ce,Es,Co,Ew,Ex,Cu,Cs,fMe,fMk,Ev,fIk,Cl,D.addI,D.subI,Er,fSl,Cj,slD,Cm,gBk,gCt,fLc,Cb,Ey,fCv,Cg,Bh,Ax,Cv,Ch,isO,only,Eu,at_0,at_1,at_2,at_3,Bu,isO,Bv,Bw,Bx,Bz,isP,Cp,D.isB,D.isNotB,b1_ordered,h4,hmi,hat,hlt2]
          · by_cases e2 : i = mid
            · subst e2
              rw [hy] at hz
              cases hz
              exact hc
            · cases hzx : lt z x with
              | false => rfl
              | true =>
                have := hs.tr _ _ _ (asc_at hR (show mid < i by omega) hy hz) hzx
                rw [hc] at this
                cases this)
    10000000 R.length [q0, .ow (.lst (R.map enc)), .sh (enc x), .sh (.int 0), .sh (.int (R.length : Nat)), q5] (by omega) ⟨0, R.length, q5, Nat.zero_le _, Nat.le_refl _, by omega, h5, fun i y hi => by omega, fun i y hi hy => by
      have := (List.getElem?_eq_some_iff.mp hy).1
      omega, rfl⟩
  exact ⟨k, q5', hk, hf, a1, a2, e⟩
theorem ordered_ok {α : Type} [DecidableEq α] {enc : α → D} {lt : α → α → Bool} (O : OrdEnc enc lt) (hs : Sto lt) (l : List α) (hl : l.length ≤ 1000000) : Fn_ordered [.lst (l.map enc)] = some (.ret true (.lst ((sortR lt l).map enc)) []) := by
  obtain ⟨q0, hq0⟩ : ∃ q : Sl, q = .bo (.lst (l.map enc)) := ⟨_, rfl⟩
  obtain ⟨ρ', e, q2, q3, q4, q5, f2, f3, f4, f5, rfl⟩ := loop_invT (h := (Ep 2)) (g := b2_ordered) enc l (fun done ρ => ∃ (q2 q3 q4 q5 : Sl), q2.free = true ∧ q3.free = true ∧ q4.free = true ∧ q5.free = true ∧ ρ = [q0, .ow (.lst ((sortR lt done).map enc)), q2, q3, q4, q5])
    [q0, .ow (.lst []), .un, .un, .un, .un] ⟨_, _, _, _, rfl, rfl, rfl, rfl, rfl⟩ (by
    rintro done x rest ρ er ⟨q2, q3, q4, q5, f2, f3, f4, f5, rfl⟩
    have hd := mid_len er
    obtain ⟨R, hR⟩ : ∃ R, R = sortR lt done := ⟨_, rfl⟩
    have aR : Asc lt R := by rw [hR]; exact asc_sort hs done
    have lR : R.length ≤ 1000000 := by
      have := sort_le (lt := lt) done
      rw [hR]
      omega
    have eR : sortR lt (done ++ [x]) = insR lt R x := by
      unfold sortR
      rw [List.foldl_append, hR]
      rfl
    rw [eR, ← hR]
    obtain ⟨k, q5', hk, f5', a1, a2, ew⟩ := ordered_while O hs q0 R aR x q5 f5 lR
    obtain ⟨t1, t2⟩ := take_at (p := fun y => lt y x) hk a1 a2
    have w1 : (Bb 3 (fC (.int 0))) [q0, .ow (.lst (R.map enc)), .sh (enc x), q3, q4, q5] = some (.nx [q0, .ow (.lst (R.map enc)), .sh (enc x), .sh (.int 0), q4, q5]) := by simp [Ci,Ca,Bb,Bd,Cw,Fd,Cy,Cf,Bf,Bk,Fe,Ee,Bl,Fg,Aj,El,Be,frz,Ez,Ac,Ba,fC,DL.M.bnd,Aa,Ay,Bc,Az,Fb,Cc,Em,Ff,Cz,Bg,Eo,Bj,Fi,Ck,Ea,Fc,Ed,Cd,up1,Eg,Ek,Bt,Ab,Ap,Aq,Ar,Au,Av,Aw,Ec,Cq,Eb,Kd.fr,Eh,D.isMut,Ep,Ah,Fh,Bi,Ef,Bm,Bn,D.len,D.list,D.tupl,Ak,Al,Am,An,Ai,Ao,Ae,Bo,Bp,Bq,Br,Bs,D.isN,D.isNot,Ei,ix_l,ix_t,ix_s,Ad,Af,LIM,Ej,Out.upE,Ag,Cr,Et,Ce,Es,Co,Ew,Ex,Cu,Cs,fMe,fMk,Ev,fIk,Cl,D.addI,D.subI,Er,fSl,Cj,slD,Cm,gBk,gCt,fLc,Cb,Ey,fCv,Cg,Bh,Ax,Cv,Ch,isO,only,Eu,at_0,at_1,at_2,at_3,Bu,isO,Bv,Bw,Bx,Bz,isP,Cp,D.isB,D.isNotB,f3]
    refine ⟨[q0, .ow (.lst (R.map enc)), .sh (enc x), q3, q4, q5], [q0, .ow (.lst ((insR lt R x).map enc)), .sh (enc x), .sh (.int (k : Nat)), .sh (.int (k : Nat)), q5'], by simp [Ci,Ca,Bb,Bd,Cw,Fd,Cy,Cf,Bf,Bk,Fe,Ee,Bl,Fg,Aj,El,Be,frz,Ez,Ac,Ba,fC,DL.M.bnd,Aa,Ay,Bc,Az,Fb,Cc,Em,Ff,Cz,Bg,Eo,Bj,Fi,Ck,Ea,Fc,Ed,Cd,up1,Eg,Ek,Bt,Ab,Ap,Aq,Ar,Au,Av,Aw,Ec,Cq,Eb,Kd.fr,Eh,D.isMut,Ep,Ah,Fh,Bi,Ef,Bm,Bn,D.len,D.list,D.tupl,Ak,Al,Am,An,Ai,Ao,Ae,Bo,Bp,Bq,Br,Bs,D.isN,D.isNot,Ei,ix_l,ix_t,ix_s,Ad,Af,LIM,Ej,Out.upE,Ag,Cr,Et,Ce,Es,Co,Ew,Ex,Cu,Cs,fMe,fMk,Ev,fIk,Cl,D.addI,D.subI,Er,fSl,Cj,slD,Cm,gBk,gCt,fLc,Cb,Ey,fCv,Cg,Bh,Ax,Cv,Ch,isO,only,Eu,at_0,at_1,at_2,at_3,Bu,isO,Bv,Bw,Bx,Bz,isP,Cp,D.isB,D.isNotB,f2], .inl ?_, _, _, _, _, rfl, rfl, rfl, f5', rfl⟩
    have lR2 : (R.map enc).length = R.length := List.length_map ..
    have lR3 : (R.map enc).length < 16000000 := by omega
    by_cases hkl : k = R.length
    · have ei : insR lt R x = R ++ [x] := by
        unfold insR
        rw [t1, t2, hkl, List.drop_length, List.take_length, List.append_nil]
        rfl
      have lk : (k : Int) ≤ 16000000 := by omega
      have ed : (R.map enc).take k ++ [enc x] ++ (R.map enc).drop k = (R ++ [x]).map enc := by
        rw [hkl, ← lR2, List.take_length, List.drop_length, List.append_nil, List.map_append]
        rfl
      rw [ei]
      have c1 : (k : Int) = (R.length : Nat) := by omega
      refine ((gSeq_nx (ρ' := [q0, .ow (.lst (R.map enc)), .sh (enc x), .sh (.int 0), q4, q5]) ?_).trans ((gSeq_nx (ρ' := [q0, .ow (.lst (R.map enc)), .sh (enc x), .sh (.int 0), .sh (.int (R.length : Nat)), q5]) ?_).trans ((gSeq_nx (ρ' := [q0, .ow (.lst (R.map enc)), .sh (enc x), .sh (.int (k : Nat)), .sh (.int (k : Nat)), q5']) ?_).trans ?_)))
      · exact w1
      · simp [Ci,Ca,Bb,Bd,Cw,Fd,Cy,Cf,Bf,Bk,Fe,Ee,Bl,Fg,Aj,El,Be,frz,Ez,Ac,Ba,fC,DL.M.bnd,Aa,Ay,Bc,Az,Fb,Cc,Em,Ff,Cz,Bg,Eo,Bj,Fi,Ck,Ea,Fc,Ed,Cd,up1,Eg,Ek,Bt,Ab,Ap,Aq,Ar,Au,Av,Aw,Ec,Cq,Eb,Kd.fr,Eh,D.isMut,Ep,Ah,Fh,Bi,Ef,Bm,Bn,D.len,D.list,D.tupl,Ak,Al,Am,An,Ai,Ao,Ae,Bo,Bp,Bq,Br,Bs,D.isN,D.isNot,Ei,ix_l,ix_t,ix_s,Ad,Af,LIM,Ej,Out.upE,Ag,Cr,Et,Ce,Es,Co,Ew,Ex,Cu,Cs,fMe,fMk,Ev,fIk,Cl,D.addI,D.subI,Er,fSl,Cj,slD,Cm,gBk,gCt,fLc,Cb,Ey,fCv,Cg,Bh,Ax,Cv,Ch,isO,only,Eu,at_0,at_1,at_2,at_3,Bu,isO,Bv,Bw,Bx,Bz,isP,Cp,D.isB,D.isNotB,f4,lR2]
      · exact ew
      · obtain ⟨RD, hRD⟩ : ∃ RD, RD = R.map enc := ⟨_, rfl⟩
        rw [← hRD] at ed lR2 lR3 ⊢
        obtain ⟨R2, hR2⟩ : ∃ R2, R2 = (R ++ [x]).map enc := ⟨_, rfl⟩
        rw [← hR2] at ed ⊢
        have lk2 : R.length < 16000000 := by omega
        have lk3 : (R.length : Int) ≤ 16000000 := by omega
        simp [Ci,Ca,Bb,Bd,Cw,Fd,Cy,Cf,Bf,Bk,Fe,Ee,Bl,Fg,Aj,El,Be,frz,Ez,Ac,Ba,fC,DL.M.bnd,Aa,Ay,Bc,Az,Fb,Cc,Em,Ff,Cz,Bg,Eo,Bj,Fi,Ck,Ea,Fc,Ed,Cd,up1,Eg,Ek,Bt,Ab,Ap,Aq,Ar,Au,Av,Aw,Ec,Cq,Eb,Kd.fr,Eh,D.isMut,Ep,Ah,Fh,Bi,Ef,Bm,Bn,D.len,D.list,D.tupl,Ak,Al,Am,An,Ai,Ao,Ae,Bo,Bp,Bq,Br,Bs,D.isN,D.isNot,Ei,ix_l,ix_t,ix_s,Ad,Af,LIM,Ej,Out.upE,Ag,Cr,Et,Ce,Es,Co,Ew,Ex,Cu,Cs,fMe,fMk,Ev,fIk,Cl,D.addI,D.subI,Er,fSl,Cj,slD,Cm,gBk,gCt,fLc,Cb,Ey,fCv,Cg,Bh,Ax,Cv,Ch,isO,only,Eu,at_0,at_1,at_2,at_3,Bu,isO,Bv,Bw,Bx,Bz,isP,Cp,D.isB,D.isNotB,c1,lR2,uIns,lR3,lk,lk2,lk3,ed]
        rw [← ed, hkl]
        simp
    · have hk2 : k < R.length := by omega
      obtain ⟨z, hz⟩ : ∃ z, R[k]? = some z := ⟨R[k], List.getElem?_eq_getElem hk2⟩
      have hat := atI_mapT enc hz
      have hne := O.ne z x
      have hd0 : (R.drop k).head? = some z := by rw [List.head?_drop, hz]
      have c1 : ¬ (k : Int) = (R.length : Nat) := by omega
      have lk : (k : Int) ≤ 16000000 := by omega
      refine ((gSeq_nx (ρ' := [q0, .ow (.lst (R.map enc)), .sh (enc x), .sh (.int 0), q4, q5]) ?_).trans ((gSeq_nx (ρ' := [q0, .ow (.lst (R.map enc)), .sh (enc x), .sh (.int 0), .sh (.int (R.length : Nat)), q5]) ?_).trans ((gSeq_nx (ρ' := [q0, .ow (.lst (R.map enc)), .sh (enc x), .sh (.int (k : Nat)), .sh (.int (k : Nat)), q5']) ?_).trans ?_)))
      · exact w1
      · simp [Ci,Ca,Bb,Bd,Cw,Fd,Cy,Cf,Bf,Bk,Fe,Ee,Bl,Fg,Aj,El,Be,frz,Ez,Ac,Ba,fC,DL.M.bnd,Aa,Ay,Bc,Az,Fb,Cc,Em,Ff,Cz,Bg,Eo,Bj,Fi,Ck,Ea,Fc,Ed,Cd,up1,Eg,Ek,Bt,Ab,Ap,Aq,Ar,Au,Av,Aw,Ec,Cq,Eb,Kd.fr,Eh,D.isMut,Ep,Ah,Fh,Bi,Ef,Bm,Bn,D.len,D.list,D.tupl,Ak,Al,Am,An,Ai,Ao,Ae,Bo,Bp,Bq,Br,Bs,D.isN,D.isNot,Ei,ix_l,ix_t,ix_s,Ad,Af,LIM,Ej,Out.upE,Ag,Cr,Et,Ce,Es,Co,Ew,Ex,Cu,Cs,fMe,fMk,Ev,fIk,Cl,D.addI,D.subI,Er,fSl,Cj,slD,Cm,gBk,gCt,fLc,Cb,Ey,fCv,Cg,Bh,Ax,Cv,Ch,isO,only,Eu,at_0,at_1,at_2,at_3,Bu,isO,Bv,Bw,Bx,Bz,isP,Cp,D.isB,D.isNotB,f4,lR2]
      · exact ew
      · by_cases hzx : z = x
        · have ei : insR lt R x = R := by
            unfold insR
            rw [t1, t2, hd0, if_pos (by rw [hzx]), List.append_nil, List.take_append_drop]
          rw [ei]
          rw [decide_eq_false (by simpa using hzx)] at hne
          obtain ⟨RD, hRD⟩ : ∃ RD, RD = R.map enc := ⟨_, rfl⟩
          rw [← hRD] at lR2 hat ⊢
          simp [Ci,Ca,Bb,Bd,Cw,Fd,Cy,Cf,Bf,Bk,Fe,Ee,Bl,Fg,Aj,El,Be,frz,Ez,Ac,Ba,fC,DL.M.bnd,Aa,Ay,Bc,Az,Fb,Cc,Em,Ff,Cz,Bg,Eo,Bj,Fi,Ck,Ea,Fc,Ed,Cd,up1,Eg,Ek,Bt,Ab,Ap,Aq,Ar,Au,Av,Aw,Ec,Cq,Eb,Kd.fr,Eh,D.isMut,Ep,Ah,Fh,Bi,Ef,Bm,Bn,D.len,D.list,D.tupl,Ak,Al,Am,An,Ai,Ao,Ae,Bo,Bp,Bq,Br,Bs,D.isN,D.isNot,Ei,ix_l,ix_t,ix_s,Ad,Af,LIM,Ej,Out.upE,Ag,Cr,Et,Ce,Es,Co,Ew,Ex,Cu,Cs,fMe,fMk,Ev,fIk,Cl,D.addI,D.subI,Er,fSl,Cj,slD,Cm,gBk,gCt,fLc,Cb,Ey,fCv,Cg,Bh,Ax,Cv,Ch,isO,only,Eu,at_0,at_1,at_2,at_3,Bu,isO,Bv,Bw,Bx,Bz,isP,Cp,D.isB,D.isNotB,lR2,c1,hat,hne]
        · have ei : insR lt R x = R.take k ++ [x] ++ R.drop k := by
            unfold insR
            rw [t1, t2, hd0, if_neg (by intro e; exact hzx (by injection e))]
          have ed : (R.map enc).take k ++ [enc x] ++ (R.map enc).drop k = (R.take k ++ [x] ++ R.drop k).map enc := by
            rw [List.map_append, List.map_append, List.map_take, List.map_drop]
            rfl
          rw [ei]
          rw [decide_eq_true hzx] at hne
          obtain ⟨RD, hRD⟩ : ∃ RD, RD = R.map enc := ⟨_, rfl⟩
          rw [← hRD] at ed lR2 lR3 hat ⊢
          obtain ⟨R2, hR2⟩ : ∃ R2, R2 = (R.take k ++ [x] ++ R.drop k).map enc := ⟨_, rfl⟩
          rw [← hR2] at ed ⊢
          have lk2 : R.length < 16000000 := by omega
          simp [Ci,Ca,Bb,Bd,Cw,Fd,Cy,Cf,Bf,Bk,Fe,Ee,Bl,Fg,Aj,El,Be,frz,Ez,Ac,Ba,fC,DL.M.bnd,Aa,Ay,Bc,Az,Fb,Cc,Em,Ff,Cz,Bg,Eo,Bj,Fi,Ck,Ea,Fc,Ed,Cd,up1,Eg,Ek,Bt,Ab,Ap,Aq,Ar,Au,Av,Aw,Ec,Cq,Eb,Kd.fr,Eh,D.isMut,Ep,Ah,Fh,Bi,Ef,Bm,Bn,D.len,D.list,D.tupl,Ak,Al,Am,An,Ai,Ao,Ae,Bo,Bp,Bq,Br,Bs,D.isN,D.isNot,Ei,ix_l,ix_t,ix_s,Ad,Af,LIM,Ej,Out.upE,Ag,Cr,Et,Ce,Es,Co,Ew,Ex,Cu,Cs,fMe,fMk,Ev,fIk,Cl,D.addI,D.subI,Er,fSl,Cj,slD,Cm,gBk,gCt,fLc,Cb,Ey,fCv,Cg,Bh,Ax,Cv,Ch,isO,only,Eu,at_0,at_1,at_2,at_3,Bu,isO,Bv,Bw,Bx,Bz,isP,Cp,D.isB,D.isNotB,lR2,c1,hat,hne,uIns,lR3,lk,lk2]
          rw [← ed]
          simp)
  have e1 : r1_ordered [q0, .un, .un, .un, .un, .un] = r3_ordered [q0, .ow (.lst ((sortR lt l).map enc)), q2, q3, q4, q5] := by
    refine ((gSeq_nx (ρ' := [q0, .ow (.lst []), .un, .un, .un, .un]) ?_).trans (gSeq_nx ?_))
    · simp [Ci,Ca,Bb,Bd,Cw,Fd,Cy,Cf,Bf,Bk,Fe,Ee,Bl,Fg,Aj,El,Be,frz,Ez,Ac,Ba,fC,DL.M.bnd,Aa,Ay,Bc,Az,Fb,Cc,Em,Ff,Cz,Bg,Eo,Bj,Fi,Ck,Ea,Fc,Ed,Cd,up1,Eg,Ek,Bt,Ab,Ap,Aq,Ar,Au,Av,Aw,Ec,Cq,Eb,Kd.fr,Eh,D.isMut,Ep,Ah,Fh,Bi,Ef,Bm,Bn,D.len,D.list,D.tupl,Ak,Al,Am,An,Ai,Ao,Ae,Bo,Bp,Bq,Br,Bs,D.isN,D.isNot,Ei,ix_l,ix_t,ix_s,Ad,Af,LIM,Ej,Out.upE,Ag,Cr,Et,Ce,Es,Co,Ew,Ex,Cu,Cs,fMe,fMk,Ev,fIk,Cl,D.addI,D.subI,Er,fSl,Cj,slD,Cm,gBk,gCt,fLc,Cb,Ey,fCv,Cg,Bh,Ax,Cv,Ch,isO,only,Eu,at_0,at_1,at_2,at_3,Bu,isO,Bv,Bw,Bx,Bz,isP,Cp,D.isB,D.isNotB,s1_ordered]
    · rw [hq0] at e ⊢
      simp [Ci,Ca,Bb,Bd,Cw,Fd,Cy,Cf,Bf,Bk,Fe,Ee,Bl,Fg,Aj,El,Be,frz,Ez,Ac,Ba,fC,DL.M.bnd,Aa,Ay,Bc,Az,Fb,Cc,Em,Ff,Cz,Bg,Eo,Bj,Fi,Ck,Ea,Fc,Ed,Cd,up1,Eg,Ek,Bt,Ab,Ap,Aq,Ar,Au,Av,Aw,Ec,Cq,Eb,Kd.fr,Eh,D.isMut,Ep,Ah,Fh,Bi,Ef,Bm,Bn,D.len,D.list,D.tupl,Ak,Al,Am,An,Ai,Ao,Ae,Bo,Bp,Bq,Br,Bs,D.isN,D.isNot,Ei,ix_l,ix_t,ix_s,Ad,Af,LIM,Ej,Out.upE,Ag,Cr,Et,Ce,Es,Co,Ew,Ex,Cu,Cs,fMe,fMk,Ev,fIk,Cl,D.addI,D.subI,Er,fSl,Cj,slD,Cm,gBk,gCt,fLc,Cb,Ey,fCv,Cg,Bh,Ax,Cv,Ch,isO,only,Eu,at_0,at_1,at_2,at_3,Bu,isO,Bv,Bw,Bx,Bz,isP,Cp,D.isB,D.isNotB,s2_ordered,e]
  show Cq _ (r1_ordered [.bo (.lst (l.map enc)), .un, .un, .un, .un, .un]) = _
  rw [← hq0, e1, hq0]
  simp [Ci,Ca,Bb,Bd,Cw,Fd,Cy,Cf,Bf,Bk,Fe,Ee,Bl,Fg,Aj,El,Be,frz,Ez,Ac,Ba,fC,DL.M.bnd,Aa,Ay,Bc,Az,Fb,Cc,Em,Ff,Cz,Bg,Eo,Bj,Fi,Ck,Ea,Fc,Ed,Cd,up1,Eg,Ek,Bt,Ab,Ap,Aq,Ar,Au,Av,Aw,Ec,Cq,Eb,Kd.fr,Eh,D.isMut,Ep,Ah,Fh,Bi,Ef,Bm,Bn,D.len,D.list,D.tupl,Ak,Al,Am,An,Ai,Ao,Ae,Bo,Bp,Bq,Br,Bs,D.isN,D.isNot,Ei,ix_l,ix_t,ix_s,Ad,Af,LIM,Ej,Out.upE,Ag,Cr,Et,Ce,Es,Co,Ew,Ex,Cu,Cs,fMe,fMk,Ev,fIk,Cl,D.addI,D.subI,Er,fSl,Cj,slD,Cm,gBk,gCt,fLc,Cb,Ey,fCv,Cg,Bh,Ax,Cv,Ch,isO,only,Eu,at_0,at_1,at_2,at_3,Bu,isO,Bv,Bw,Bx,Bz,isP,Cp,D.isB,D.isNotB,r3_ordered,s3_ordered]
end DL
namespace DL
open PySem PySem.Spec L2
theorem len_crD (m : List Int) : Fn_Crowd___len__ [crD m] = some (.ret true (.int m.length) []) := by
  have f1 : fldD 0 0 (crD m) = some (.tup (m.map D.int)) := rfl
  simp [Ci,Ca,Bb,Bd,Cw,Fd,Cy,Cf,Bf,Bk,Fe,Ee,Bl,Fg,Aj,El,Be,frz,Ez,Ac,Ba,fC,DL.M.bnd,Aa,Ay,Bc,Az,Fb,Cc,Em,Ff,Cz,Bg,Eo,Bj,Fi,Ck,Ea,Fc,Ed,Cd,up1,Eg,Ek,put,Ec,Cq,Eb,Kd.fr,Eh,D.isMut,Ep,Ah,Fh,Bi,Ef,Bm,Bn,D.len,D.list,D.tupl,rng1,rng2,Ak,Al,Am,An,Ai,Ao,Ae,Bo,Bp,Bq,Br,Bs,D.isN,D.isNot,Ei,ixL,Ad,Af,LIM,Ej,Out.upE,Ag,Cr,Fn_Crowd___len__,g_Crowd___len__,r1_Crowd___len__,s1_Crowd___len__,f1]
theorem isN (w : Int) (N : List Cfg) : isObj 3 (ntD w N) = true := rfl
theorem fld_n0 (w : Int) (N : List Cfg) : fldD 3 0 (ntD w N) = some (.int w) := rfl
theorem fld_n1 (w : Int) (N : List Cfg) : fldD 3 1 (ntD w N) = some (.lst (N.map encC)) := rfl
theorem fld_n2 (w : Int) (N : List Cfg) : fldD 3 2 (ntD w N) = some (.dct (N.map (setq keyD))) := rfl
theorem it_n (w : Int) (N : List Cfg) : itOwnL 3 1 (ntD w N) = some (N.map encC) := rfl
theorem notes_init (w : Nat) (hw : w ≤ 4) : Fn_Notes___init__ [.obj 3 [], .int (w : Nat)] = some (.ret true .non [ntD w []]) := by
  have h1 : (0 : Int) ≤ (w : Nat) := by omega
  have h2 : ((w : Nat) : Int) ≤ 4 := by omega
  show Cq _ (r1_Notes___init__ [.mu (.obj 3 []), .bo (.int (w : Nat))]) = _
  have e1 : r1_Notes___init__ [.mu (.obj 3 []), .bo (.int (w : Nat))] = r2_Notes___init__ [.mu (.obj 3 []), .bo (.int (w : Nat))] := by
    refine gSeq_nx ?_
    simp only [s1_Notes___init__, if_not]
    simp [Ci,Ca,Bb,Bd,Cw,Fd,Cy,Cf,Bf,Bk,Fe,Ee,Bl,Fg,Aj,El,Be,frz,Ez,Ac,Ba,fC,DL.M.bnd,Aa,Ay,Bc,Az,Fb,Cc,Em,Ff,Cz,Bg,Eo,Bj,Fi,Ck,Ea,Fc,Ed,Cd,up1,Eg,Ek,Bt,Ab,Ap,Aq,Ar,Au,Av,Aw,Ec,Cq,Eb,Kd.fr,Eh,D.isMut,Ep,Ah,Fh,Bi,Ef,Bm,Bn,D.len,D.list,D.tupl,Ak,Al,Am,An,Ai,Ao,Ae,Bo,Bp,Bq,Br,Bs,D.isN,D.isNot,Ei,ix_l,ix_t,ix_s,Ad,Af,LIM,Ej,Out.upE,Ag,Cr,Et,Ce,Es,Co,Ew,Ex,Cu,Cs,fMe,fMk,Ev,fIk,Cl,D.addI,D.subI,Er,fSl,Cj,slD,Cm,gBk,gCt,fLc,Cb,Ey,fCv,Cg,Bh,Ax,Cv,Ch,isO,only,Eu,at_0,at_1,at_2,at_3,Bu,isO,Bv,Bw,Bx,Bz,isP,Cp,D.isB,D.isNotB,fChain,fCv,Cg,h1,h2]
  rw [e1]
  simp [Ci,Ca,Bb,Bd,Cw,Fd,Cy,Cf,Bf,Bk,Fe,Ee,Bl,Fg,Aj,El,Be,frz,Ez,Ac,Ba,fC,DL.M.bnd,Aa,Ay,Bc,Az,Fb,Cc,Em,Ff,Cz,Bg,Eo,Bj,Fi,Ck,Ea,Fc,Ed,Cd,up1,Eg,Ek,Bt,Ab,Ap,Aq,Ar,Au,Av,Aw,Ec,Cq,Eb,Kd.fr,Eh,D.isMut,Ep,Ah,Fh,Bi,Ef,Bm,Bn,D.len,D.list,D.tupl,Ak,Al,Am,An,Ai,Ao,Ae,Bo,Bp,Bq,Br,Bs,D.isN,D.isNot,Ei,ix_l,ix_t,ix_s,Ad,Af,LIM,Ej,Out.upE,Ag,Cr,Et,Ce,Es,Co,Ew,Ex,Cu,Cs,fMe,fMk,Ev,fIk,Cl,D.addI,D.subI,Er,fSl,Cj,slD,Cm,gBk,gCt,fLc,Cb,Ey,fCv,Cg,Bh,Ax,Cv,Ch,isO,only,Eu,at_0,at_1,at_2,at_3,Bu,isO,Bv,Bw,Bx,Bz,isP,Cp,D.isB,D.isNotB,r2_Notes___init__,s2_Notes___init__,r3_Notes___init__,s3_Notes___init__,r4_Notes___init__,s4_Notes___init__,setFld,ntD]
theorem set_loop (w : Nat) (N : List Cfg) (q1 q2 : Sl) (Ms : List (List Int)) (hlen : ∀ M ∈ Ms, M.length = w) (hw : w ≤ 1000) : ∃ q3, q3.free = true ∧ loopG (Ep 3) b1_Notes___setitem__ (Ms.map crD) [.mu (ntD w N), q1, q2, .un, .un, .un, .un, .un, .un] = some (.nx [.mu (ntD w N), q1, q2, q3, .un, .un, .un, .un, .un]) := by
  obtain ⟨ρ', e, q3, f3, rfl⟩ := loop_invT (h := (Ep 3)) (g := b1_Notes___setitem__) crD Ms (fun done ρ => ∃ q3 : Sl, q3.free = true ∧ ρ = [.mu (ntD w N), q1, q2, q3, .un, .un, .un, .un, .un]) [.mu (ntD w N), q1, q2, .un, .un, .un, .un, .un, .un] ⟨_, rfl, rfl⟩ (by
    rintro done M rest ρ er ⟨q3, f3, rfl⟩
    have hM := hlen M (mid_mem er)
    have hl := len_crD M
    rw [hM] at hl
    have h2 : ((w : Nat) : Int) ≤ 16000000 := by omega
    have fn := fld_n0 w N
    obtain ⟨nt, hnt⟩ : ∃ nt, nt = ntD w N := ⟨_, rfl⟩
    rw [← hnt] at fn ⊢
    have nn : D.ne (.int (w : Nat)) (.int (w : Nat)) = some (.bl false) := by rw [Cp]; simp
    exact ⟨[.mu (nt), q1, q2, .sh (crD M), .un, .un, .un, .un, .un], [.mu (nt), q1, q2, .sh (crD M), .un, .un, .un, .un, .un], by simp [Ci,Ca,Bb,Bd,Cw,Fd,Cy,Cf,Bf,Bk,Fe,Ee,Bl,Fg,Aj,El,Be,frz,Ez,Ac,Ba,fC,DL.M.bnd,Aa,Ay,Bc,Az,Fb,Cc,Em,Ff,Cz,Bg,Eo,Bj,Fi,Ck,Ea,Fc,Ed,Cd,up1,Eg,Ek,Bt,Ab,Ap,Aq,Ar,Au,Av,Aw,Ec,Cq,Eb,Kd.fr,Eh,D.isMut,Ep,Ah,Fh,Bi,Ef,Bm,Bn,D.len,D.list,D.tupl,Ak,Al,Am,An,Ai,Ao,Ae,Bo,Bp,Bq,Br,Bs,D.isN,D.isNot,Ei,ix_l,ix_t,ix_s,Ad,Af,LIM,Ej,Out.upE,Ag,Cr,Et,Ce,Es,Co,Ew,Ex,Cu,Cs,fMe,fMk,Ev,fIk,Cl,D.addI,D.subI,Er,fSl,Cj,slD,Cm,gBk,gCt,fLc,Cb,Ey,fCv,Cg,Bh,Ax,Cv,Ch,isO,only,Eu,at_0,at_1,at_2,at_3,Bu,isO,Bv,Bw,Bx,Bz,isP,Cp,D.isB,D.isNotB,f3], .inl (by simp [Ci,Ca,Bb,Bd,Cw,Fd,Cy,Cf,Bf,Bk,Fe,Ee,Bl,Fg,Aj,El,Be,frz,Ez,Ac,Ba,fC,DL.M.bnd,Aa,Ay,Bc,Az,Fb,Cc,Em,Ff,Cz,Bg,Eo,Bj,Fi,Ck,Ea,Fc,Ed,Cd,up1,Eg,Ek,Bt,Ab,Ap,Aq,Ar,Au,Av,Aw,Ec,Cq,Eb,Kd.fr,Eh,D.isMut,Ep,Ah,Fh,Bi,Ef,Bm,Bn,D.len,D.list,D.tupl,Ak,Al,Am,An,Ai,Ao,Ae,Bo,Bp,Bq,Br,Bs,D.isN,D.isNot,Ei,ix_l,ix_t,ix_s,Ad,Af,LIM,Ej,Out.upE,Ag,Cr,Et,Ce,Es,Co,Ew,Ex,Cu,Cs,fMe,fMk,Ev,fIk,Cl,D.addI,D.subI,Er,fSl,Cj,slD,Cm,gBk,gCt,fLc,Cb,Ey,fCv,Cg,Bh,Ax,Cv,Ch,isO,only,Eu,at_0,at_1,at_2,at_3,Bu,isO,Bv,Bw,Bx,Bz,isP,Cp,D.isB,D.isNotB,b1_Notes___setitem__,opLenO,hl,only,okLen,h2,fn,nn]), _, rfl, rfl⟩)
  exact ⟨q3, f3, e⟩
theorem nt_set (w : Nat) (hw : w ≤ 1000) (N : List Cfg) (st : Int) (Ms : List (List Int)) (cl : D) (hcl : itemsD cl = some (Ms.map crD)) (hlen : ∀ M ∈ Ms, M.length = w) (hs : ∀ M ∈ Ms, M.Pairwise (· ≤ ·)) (h0 : ∀ M ∈ Ms, ∀ x ∈ M, 0 ≤ x) (hN : Asc cfgLt N) (hl : N.length + Ms.length ≤ 1000000) :
    Fn_Notes___setitem__ [ntD w N, .int st, cl] = some (.ret true .non [ntD w (setN N st Ms)]) := by
  obtain ⟨q3, f3, e⟩ := set_loop w N (.bo (.int st)) (.bo cl) Ms hlen hw
  have od := ordered_ok ord_tup sto_lex Ms (by omega)
  have nd := asc_nodup (setN_asc hN st Ms)
  have sl := setN_len N st Ms hN
  have c1 : ∀ q3 : Sl, q3.free = true → compG (Ep 3) Cd e1_Notes___setitem__ [.mu (ntD w N), .bo (.int st), .bo (cl), q3, .un, .un, .un, .un, .un] (Ms.map crD) = some (Ms.map fun l : List Int => D.tup (l.map D.int)) := fun q3 f3 => by
    have fn := fld_n1 w N
    obtain ⟨nt, hnt⟩ : ∃ nt, nt = ntD w N := ⟨_, rfl⟩
    rw [← hnt]
    exact compG_all (h := (Ep 3)) (fe := e1_Notes___setitem__) (ρ := [.mu (nt), .bo (.int st), .bo (cl), q3, .un, .un, .un, .un, .un]) crD (fun l : List Int => D.tup (l.map D.int)) Ms fun M _ => ⟨[.mu (nt), .bo (.int st), .bo (cl), .sh (crD M), .un, .un, .un, .un, .un], by simp [Ci,Ca,Bb,Bd,Cw,Fd,Cy,Cf,Bf,Bk,Fe,Ee,Bl,Fg,Aj,El,Be,frz,Ez,Ac,Ba,fC,DL.M.bnd,Aa,Ay,Bc,Az,Fb,Cc,Em,Ff,Cz,Bg,Eo,Bj,Fi,Ck,Ea,Fc,Ed,Cd,up1,Eg,Ek,Bt,Ab,Ap,Aq,Ar,Au,Av,Aw,Ec,Cq,Eb,Kd.fr,Eh,D.isMut,Ep,Ah,Fh,Bi,Ef,Bm,Bn,D.len,D.list,D.tupl,Ak,Al,Am,An,Ai,Ao,Ae,Bo,Bp,Bq,Br,Bs,D.isN,D.isNot,Ei,ix_l,ix_t,ix_s,Ad,Af,LIM,Ej,Out.upE,Ag,Cr,Et,Ce,Es,Co,Ew,Ex,Cu,Cs,fMe,fMk,Ev,fIk,Cl,D.addI,D.subI,Er,fSl,Cj,slD,Cm,gBk,gCt,fLc,Cb,Ey,fCv,Cg,Bh,Ax,Cv,Ch,isO,only,Eu,at_0,at_1,at_2,at_3,Bu,isO,Bv,Bw,Bx,Bz,isP,Cp,D.isB,D.isNotB,f3], by simp [Ci,Ca,Bb,Bd,Cw,Fd,Cy,Cf,Bf,Bk,Fe,Ee,Bl,Fg,Aj,El,Be,frz,Ez,Ac,Ba,fC,DL.M.bnd,Aa,Ay,Bc,Az,Fb,Cc,Em,Ff,Cz,Bg,Eo,Bj,Fi,Ck,Ea,Fc,Ed,Cd,up1,Eg,Ek,Bt,Ab,Ap,Aq,Ar,Au,Av,Aw,Ec,Cq,Eb,Kd.fr,Eh,D.isMut,Ep,Ah,Fh,Bi,Ef,Bm,Bn,D.len,D.list,D.tupl,Ak,Al,Am,An,Ai,Ao,Ae,Bo,Bp,Bq,Br,Bs,D.isN,D.isNot,Ei,ix_l,ix_t,ix_s,Ad,Af,LIM,Ej,Out.upE,Ag,Cr,Et,Ce,Es,Co,Ew,Ex,Cu,Cs,fMe,fMk,Ev,fIk,Cl,D.addI,D.subI,Er,fSl,Cj,slD,Cm,gBk,gCt,fLc,Cb,Ey,fCv,Cg,Bh,Ax,Cv,Ch,isO,only,Eu,at_0,at_1,at_2,at_3,Bu,isO,Bv,Bw,Bx,Bz,isP,Cp,D.isB,D.isNotB,e1_Notes___setitem__]⟩
  have lo := sort_len (lt := HT.lexLt) Ms
  have c2 : ∀ q3 : Sl, compG (Ep 7) Cd e2_Notes___setitem__ [.mu (ntD w N), .bo (.int st), .bo (cl), q3, .un, .un, .un, .un, .un] ((sortR HT.lexLt Ms).map fun l : List Int => D.tup (l.map D.int)) = some (((sortR HT.lexLt Ms).map fun M => (st, M)).map encC) := fun q3 => by
    obtain ⟨nt, hnt⟩ : ∃ nt, nt = ntD w N := ⟨_, rfl⟩
    rw [← hnt, List.map_map]
    exact compG_all (h := (Ep 7)) (fe := e2_Notes___setitem__) (ρ := [.mu (nt), .bo (.int st), .bo (cl), q3, .un, .un, .un, .un, .un]) (fun l : List Int => D.tup (l.map D.int)) (fun M => encC (st, M)) (sortR HT.lexLt Ms) fun M hM => by
      have hM := mem_sort.mp hM
      have hi := init_ok M (h0 M hM) (by rw [hlen M hM]; omega) true
      rw [srt_id (hs M hM)] at hi
      have hi : Fn_Crowd___init__ [.obj 0 [], .tup (M.map D.int)] = some (.ret true .non [crD M]) := hi
      exact ⟨[.mu (nt), .bo (.int st), .bo (cl), q3, .un, .un, .un, .sh (.tup (M.map D.int)), .un], by simp [Ci,Ca,Bb,Bd,Cw,Fd,Cy,Cf,Bf,Bk,Fe,Ee,Bl,Fg,Aj,El,Be,frz,Ez,Ac,Ba,fC,DL.M.bnd,Aa,Ay,Bc,Az,Fb,Cc,Em,Ff,Cz,Bg,Eo,Bj,Fi,Ck,Ea,Fc,Ed,Cd,up1,Eg,Ek,Bt,Ab,Ap,Aq,Ar,Au,Av,Aw,Ec,Cq,Eb,Kd.fr,Eh,D.isMut,Ep,Ah,Fh,Bi,Ef,Bm,Bn,D.len,D.list,D.tupl,Ak,Al,Am,An,Ai,Ao,Ae,Bo,Bp,Bq,Br,Bs,D.isN,D.isNot,Ei,ix_l,ix_t,ix_s,Ad,Af,LIM,Ej,Out.upE,Ag,Cr,Et,Ce,Es,Co,Ew,Ex,Cu,Cs,fMe,fMk,Ev,fIk,Cl,D.addI,D.subI,Er,fSl,Cj,slD,Cm,gBk,gCt,fLc,Cb,Ey,fCv,Cg,Bh,Ax,Cv,Ch,isO,only,Eu,at_0,at_1,at_2,at_3,Bu,isO,Bv,Bw,Bx,Bz,isP,Cp,D.isB,D.isNotB], by simp [Ci,Ca,Bb,Bd,Cw,Fd,Cy,Cf,Bf,Bk,Fe,Ee,Bl,Fg,Aj,El,Be,frz,Ez,Ac,Ba,fC,DL.M.bnd,Aa,Ay,Bc,Az,Fb,Cc,Em,Ff,Cz,Bg,Eo,Bj,Fi,Ck,Ea,Fc,Ed,Cd,up1,Eg,Ek,Bt,Ab,Ap,Aq,Ar,Au,Av,Aw,Ec,Cq,Eb,Kd.fr,Eh,D.isMut,Ep,Ah,Fh,Bi,Ef,Bm,Bn,D.len,D.list,D.tupl,Ak,Al,Am,An,Ai,Ao,Ae,Bo,Bp,Bq,Br,Bs,D.isN,D.isNot,Ei,ix_l,ix_t,ix_s,Ad,Af,LIM,Ej,Out.upE,Ag,Cr,Et,Ce,Es,Co,Ew,Ex,Cu,Cs,fMe,fMk,Ev,fIk,Cl,D.addI,D.subI,Er,fSl,Cj,slD,Cm,gBk,gCt,fLc,Cb,Ey,fCv,Cg,Bh,Ax,Cv,Ch,isO,only,Eu,at_0,at_1,at_2,at_3,Bu,isO,Bv,Bw,Bx,Bz,isP,Cp,D.isB,D.isNotB,e2_Notes___setitem__,hi,encC]⟩
  have c3 : ∀ q3 q4 : Sl, compG (Ep 8) c1_Notes___setitem__ e3_Notes___setitem__ [.mu (ntD w N), .bo (.int st), .bo (cl), q3, q4, .un, .un, .un, .un] (N.map encC) = some ((N.filter fun c => decide (c.1 < st)).map encC) := fun q3 q4 => by
    obtain ⟨nt, hnt⟩ : ∃ nt, nt = ntD w N := ⟨_, rfl⟩
    rw [← hnt, compG_map encC (fun c => decide (c.1 < st)) encC N fun c _ => ?_]
    refine ⟨[.mu (nt), .bo (.int st), .bo (cl), q3, q4, .un, .un, .un, .sh (encC c)], by simp [Ci,Ca,Bb,Bd,Cw,Fd,Cy,Cf,Bf,Bk,Fe,Ee,Bl,Fg,Aj,El,Be,frz,Ez,Ac,Ba,fC,DL.M.bnd,Aa,Ay,Bc,Az,Fb,Cc,Em,Ff,Cz,Bg,Eo,Bj,Fi,Ck,Ea,Fc,Ed,Cd,up1,Eg,Ek,Bt,Ab,Ap,Aq,Ar,Au,Av,Aw,Ec,Cq,Eb,Kd.fr,Eh,D.isMut,Ep,Ah,Fh,Bi,Ef,Bm,Bn,D.len,D.list,D.tupl,Ak,Al,Am,An,Ai,Ao,Ae,Bo,Bp,Bq,Br,Bs,D.isN,D.isNot,Ei,ix_l,ix_t,ix_s,Ad,Af,LIM,Ej,Out.upE,Ag,Cr,Et,Ce,Es,Co,Ew,Ex,Cu,Cs,fMe,fMk,Ev,fIk,Cl,D.addI,D.subI,Er,fSl,Cj,slD,Cm,gBk,gCt,fLc,Cb,Ey,fCv,Cg,Bh,Ax,Cv,Ch,isO,only,Eu,at_0,at_1,at_2,at_3,Bu,isO,Bv,Bw,Bx,Bz,isP,Cp,D.isB,D.isNotB], ?_, fun _ => by simp [Ci,Ca,Bb,Bd,Cw,Fd,Cy,Cf,Bf,Bk,Fe,Ee,Bl,Fg,Aj,El,Be,frz,Ez,Ac,Ba,fC,DL.M.bnd,Aa,Ay,Bc,Az,Fb,Cc,Em,Ff,Cz,Bg,Eo,Bj,Fi,Ck,Ea,Fc,Ed,Cd,up1,Eg,Ek,Bt,Ab,Ap,Aq,Ar,Au,Av,Aw,Ec,Cq,Eb,Kd.fr,Eh,D.isMut,Ep,Ah,Fh,Bi,Ef,Bm,Bn,D.len,D.list,D.tupl,Ak,Al,Am,An,Ai,Ao,Ae,Bo,Bp,Bq,Br,Bs,D.isN,D.isNot,Ei,ix_l,ix_t,ix_s,Ad,Af,LIM,Ej,Out.upE,Ag,Cr,Et,Ce,Es,Co,Ew,Ex,Cu,Cs,fMe,fMk,Ev,fIk,Cl,D.addI,D.subI,Er,fSl,Cj,slD,Cm,gBk,gCt,fLc,Cb,Ey,fCv,Cg,Bh,Ax,Cv,Ch,isO,only,Eu,at_0,at_1,at_2,at_3,Bu,isO,Bv,Bw,Bx,Bz,isP,Cp,D.isB,D.isNotB,e3_Notes___setitem__]⟩
    simp [Ci,Ca,Bb,Bd,Cw,Fd,Cy,Cf,Bf,Bk,Fe,Ee,Bl,Fg,Aj,El,Be,frz,Ez,Ac,Ba,fC,DL.M.bnd,Aa,Ay,Bc,Az,Fb,Cc,Em,Ff,Cz,Bg,Eo,Bj,Fi,Ck,Ea,Fc,Ed,Cd,up1,Eg,Ek,Bt,Ab,Ap,Aq,Ar,Au,Av,Aw,Ec,Cq,Eb,Kd.fr,Eh,D.isMut,Ep,Ah,Fh,Bi,Ef,Bm,Bn,D.len,D.list,D.tupl,Ak,Al,Am,An,Ai,Ao,Ae,Bo,Bp,Bq,Br,Bs,D.isN,D.isNot,Ei,ix_l,ix_t,ix_s,Ad,Af,LIM,Ej,Out.upE,Ag,Cr,Et,Ce,Es,Co,Ew,Ex,Cu,Cs,fMe,fMk,Ev,fIk,Cl,D.addI,D.subI,Er,fSl,Cj,slD,Cm,gBk,gCt,fLc,Cb,Ey,fCv,Cg,Bh,Ax,Cv,Ch,isO,only,Eu,at_0,at_1,at_2,at_3,Bu,isO,Bv,Bw,Bx,Bz,isP,Cp,D.isB,D.isNotB,c1_Notes___setitem__,encC]
  have c4 : ∀ q3 q4 q5 : Sl, compG (Ep 8) c2_Notes___setitem__ e4_Notes___setitem__ [.mu (ntD w N), .bo (.int st), .bo (cl), q3, q4, q5, .un, .un, .un] (N.map encC) = some ((N.filter fun c => decide (c.1 > st)).map encC) := fun q3 q4 q5 => by
    obtain ⟨nt, hnt⟩ : ∃ nt, nt = ntD w N := ⟨_, rfl⟩
    rw [← hnt, compG_map encC (fun c => decide (c.1 > st)) encC N fun c _ => ?_]
    refine ⟨[.mu (nt), .bo (.int st), .bo (cl), q3, q4, q5, .un, .un, .sh (encC c)], by simp [Ci,Ca,Bb,Bd,Cw,Fd,Cy,Cf,Bf,Bk,Fe,Ee,Bl,Fg,Aj,El,Be,frz,Ez,Ac,Ba,fC,DL.M.bnd,Aa,Ay,Bc,Az,Fb,Cc,Em,Ff,Cz,Bg,Eo,Bj,Fi,Ck,Ea,Fc,Ed,Cd,up1,Eg,Ek,Bt,Ab,Ap,Aq,Ar,Au,Av,Aw,Ec,Cq,Eb,Kd.fr,Eh,D.isMut,Ep,Ah,Fh,Bi,Ef,Bm,Bn,D.len,D.list,D.tupl,Ak,Al,Am,An,Ai,Ao,Ae,Bo,Bp,Bq,Br,Bs,D.isN,D.isNot,Ei,ix_l,ix_t,ix_s,Ad,Af,LIM,Ej,Out.upE,Ag,Cr,Et,Ce,Es,Co,Ew,Ex,Cu,Cs,fMe,fMk,Ev,fIk,Cl,D.addI,D.subI,Er,fSl,Cj,slD,Cm,gBk,gCt,fLc,Cb,Ey,fCv,Cg,Bh,Ax,Cv,Ch,isO,only,Eu,at_0,at_1,at_2,at_3,Bu,isO,Bv,Bw,Bx,Bz,isP,Cp,D.isB,D.isNotB], ?_, fun _ => by simp [Ci,Ca,Bb,Bd,Cw,Fd,Cy,Cf,Bf,Bk,Fe,Ee,Bl,Fg,Aj,El,Be,frz,Ez,Ac,Ba,fC,DL.M.bnd,Aa,Ay,Bc,Az,Fb,Cc,Em,Ff,Cz,Bg,Eo,Bj,Fi,Ck,Ea,Fc,Ed,Cd,up1,Eg,Ek,Bt,Ab,Ap,Aq,Ar,Au,Av,Aw,Ec,Cq,Eb,Kd.fr,Eh,D.isMut,Ep,Ah,Fh,Bi,Ef,Bm,Bn,D.len,D.list,D.tupl,Ak,Al,Am,An,Ai,Ao,Ae,Bo,Bp,Bq,Br,Bs,D.isN,D.isNot,Ei,ix_l,ix_t,ix_s,Ad,Af,LIM,Ej,Out.upE,Ag,Cr,Et,Ce,Es,Co,Ew,Ex,Cu,Cs,fMe,fMk,Ev,fIk,Cl,D.addI,D.subI,Er,fSl,Cj,slD,Cm,gBk,gCt,fLc,Cb,Ey,fCv,Cg,Bh,Ax,Cv,Ch,isO,only,Eu,at_0,at_1,at_2,at_3,Bu,isO,Bv,Bw,Bx,Bz,isP,Cp,D.isB,D.isNotB,e4_Notes___setitem__]⟩
    simp [Ci,Ca,Bb,Bd,Cw,Fd,Cy,Cf,Bf,Bk,Fe,Ee,Bl,Fg,Aj,El,Be,frz,Ez,Ac,Ba,fC,DL.M.bnd,Aa,Ay,Bc,Az,Fb,Cc,Em,Ff,Cz,Bg,Eo,Bj,Fi,Ck,Ea,Fc,Ed,Cd,up1,Eg,Ek,Bt,Ab,Ap,Aq,Ar,Au,Av,Aw,Ec,Cq,Eb,Kd.fr,Eh,D.isMut,Ep,Ah,Fh,Bi,Ef,Bm,Bn,D.len,D.list,D.tupl,Ak,Al,Am,An,Ai,Ao,Ae,Bo,Bp,Bq,Br,Bs,D.isN,D.isNot,Ei,ix_l,ix_t,ix_s,Ad,Af,LIM,Ej,Out.upE,Ag,Cr,Et,Ce,Es,Co,Ew,Ex,Cu,Cs,fMe,fMk,Ev,fIk,Cl,D.addI,D.subI,Er,fSl,Cj,slD,Cm,gBk,gCt,fLc,Cb,Ey,fCv,Cg,Bh,Ax,Cv,Ch,isO,only,Eu,at_0,at_1,at_2,at_3,Bu,isO,Bv,Bw,Bx,Bz,isP,Cp,D.isB,D.isNotB,c2_Notes___setitem__,encC]
  have c5 : ∀ (sf q3 q4 q5 q6 : Sl), dcG (Ep 8) Cd e5_Notes___setitem__ e6_Notes___setitem__ [sf, .bo (.int st), .bo (cl), q3, q4, q5, q6, .un, .un] [] ((setN N st Ms).map encC) = some ((setN N st Ms).map (setq keyD)) := fun sf q3 q4 q5 q6 => by
    have := dcS (encA := encC) key_key (h := (Ep 8)) (gc := Cd) (fk := e5_Notes___setitem__) (fv := e6_Notes___setitem__) (ρ := [sf, .bo (.int st), .bo (cl), q3, q4, q5, q6, .un, .un]) (fun c : Cfg => c) (setN N st Ms) (by omega) (by rw [List.map_id']; exact nd) fun c _ => ⟨[sf, .bo (.int st), .bo (cl), q3, q4, q5, q6, .un, .sh (encC c)], by simp [Ci,Ca,Bb,Bd,Cw,Fd,Cy,Cf,Bf,Bk,Fe,Ee,Bl,Fg,Aj,El,Be,frz,Ez,Ac,Ba,fC,DL.M.bnd,Aa,Ay,Bc,Az,Fb,Cc,Em,Ff,Cz,Bg,Eo,Bj,Fi,Ck,Ea,Fc,Ed,Cd,up1,Eg,Ek,Bt,Ab,Ap,Aq,Ar,Au,Av,Aw,Ec,Cq,Eb,Kd.fr,Eh,D.isMut,Ep,Ah,Fh,Bi,Ef,Bm,Bn,D.len,D.list,D.tupl,Ak,Al,Am,An,Ai,Ao,Ae,Bo,Bp,Bq,Br,Bs,D.isN,D.isNot,Ei,ix_l,ix_t,ix_s,Ad,Af,LIM,Ej,Out.upE,Ag,Cr,Et,Ce,Es,Co,Ew,Ex,Cu,Cs,fMe,fMk,Ev,fIk,Cl,D.addI,D.subI,Er,fSl,Cj,slD,Cm,gBk,gCt,fLc,Cb,Ey,fCv,Cg,Bh,Ax,Cv,Ch,isO,only,Eu,at_0,at_1,at_2,at_3,Bu,isO,Bv,Bw,Bx,Bz,isP,Cp,D.isB,D.isNotB], rfl, by simp [Ci,Ca,Bb,Bd,Cw,Fd,Cy,Cf,Bf,Bk,Fe,Ee,Bl,Fg,Aj,El,Be,frz,Ez,Ac,Ba,fC,DL.M.bnd,Aa,Ay,Bc,Az,Fb,Cc,Em,Ff,Cz,Bg,Eo,Bj,Fi,Ck,Ea,Fc,Ed,Cd,up1,Eg,Ek,Bt,Ab,Ap,Aq,Ar,Au,Av,Aw,Ec,Cq,Eb,Kd.fr,Eh,D.isMut,Ep,Ah,Fh,Bi,Ef,Bm,Bn,D.len,D.list,D.tupl,Ak,Al,Am,An,Ai,Ao,Ae,Bo,Bp,Bq,Br,Bs,D.isN,D.isNot,Ei,ix_l,ix_t,ix_s,Ad,Af,LIM,Ej,Out.upE,Ag,Cr,Et,Ce,Es,Co,Ew,Ex,Cu,Cs,fMe,fMk,Ev,fIk,Cl,D.addI,D.subI,Er,fSl,Cj,slD,Cm,gBk,gCt,fLc,Cb,Ey,fCv,Cg,Bh,Ax,Cv,Ch,isO,only,Eu,at_0,at_1,at_2,at_3,Bu,isO,Bv,Bw,Bx,Bz,isP,Cp,D.isB,D.isNotB,e5_Notes___setitem__,encC,keyD], by simp [Ci,Ca,Bb,Bd,Cw,Fd,Cy,Cf,Bf,Bk,Fe,Ee,Bl,Fg,Aj,El,Be,frz,Ez,Ac,Ba,fC,DL.M.bnd,Aa,Ay,Bc,Az,Fb,Cc,Em,Ff,Cz,Bg,Eo,Bj,Fi,Ck,Ea,Fc,Ed,Cd,up1,Eg,Ek,Bt,Ab,Ap,Aq,Ar,Au,Av,Aw,Ec,Cq,Eb,Kd.fr,Eh,D.isMut,Ep,Ah,Fh,Bi,Ef,Bm,Bn,D.len,D.list,D.tupl,Ak,Al,Am,An,Ai,Ao,Ae,Bo,Bp,Bq,Br,Bs,D.isN,D.isNot,Ei,ix_l,ix_t,ix_s,Ad,Af,LIM,Ej,Out.upE,Ag,Cr,Et,Ce,Es,Co,Ew,Ex,Cu,Cs,fMe,fMk,Ev,fIk,Cl,D.addI,D.subI,Er,fSl,Cj,slD,Cm,gBk,gCt,fLc,Cb,Ey,fCv,Cg,Bh,Ax,Cv,Ch,isO,only,Eu,at_0,at_1,at_2,at_3,Bu,isO,Bv,Bw,Bx,Bz,isP,Cp,D.isB,D.isNotB,e6_Notes___setitem__]⟩
    rw [this, List.map_id']
  have l1 := List.length_filter_le (fun c : Cfg => decide (c.1 < st)) N
  have l2 := List.length_filter_le (fun c : Cfg => decide (c.1 > st)) N
  obtain ⟨FR, hFR⟩ : ∃ FR, FR = ((sortR HT.lexLt Ms).map fun M => (st, M)).map encC := ⟨_, rfl⟩
  obtain ⟨BE, hBE⟩ : ∃ BE, BE = (N.filter fun c => decide (c.1 < st)).map encC := ⟨_, rfl⟩
  obtain ⟨AB, hAB⟩ : ∃ AB, AB = (N.filter fun c => decide (c.1 > st)).map encC := ⟨_, rfl⟩
  obtain ⟨RX, hRX⟩ : ∃ RX, RX = (setN N st Ms).map encC := ⟨_, rfl⟩
  obtain ⟨KX, hKX⟩ : ∃ KX, KX = (setN N st Ms).map (setq keyD) := ⟨_, rfl⟩
  obtain ⟨TS, hTS⟩ : ∃ TS, TS = Ms.map fun l : List Int => D.tup (l.map D.int) := ⟨_, rfl⟩
  obtain ⟨SR, hSR⟩ : ∃ SR, SR = (sortR HT.lexLt Ms).map fun l : List Int => D.tup (l.map D.int) := ⟨_, rfl⟩
  obtain ⟨NX, hNX⟩ : ∃ NX, NX = N.map encC := ⟨_, rfl⟩
  obtain ⟨NK, hNK⟩ : ∃ NK, NK = N.map (setq keyD) := ⟨_, rfl⟩
  have en : ntD w N = .obj 3 [.int w, .lst NX, .dct NK] := by rw [hNX, hNK]; rfl
  have en2 : ntD w (setN N st Ms) = .obj 3 [.int w, .lst RX, .dct KX] := by rw [hRX, hKX]; rfl
  have lFR : FR.length ≤ 1000000 := by rw [hFR, List.length_map, List.length_map]; omega
  have lBE : BE.length ≤ 1000000 := by rw [hBE, List.length_map]; omega
  have lAB : AB.length ≤ 1000000 := by rw [hAB, List.length_map]; omega
  have lTS : TS.length ≤ 16000000 := by rw [hTS, List.length_map]; omega
  have eR : BE ++ FR ++ AB = RX := by rw [hBE, hFR, hAB, hRX, ← List.map_append, ← List.map_append]; rfl
  have a1 : D.add (.lst BE) (.lst FR) = some (.lst (BE ++ FR)) := add_ll (by omega)
  have a2 : D.add (.lst (BE ++ FR)) (.lst AB) = some (.lst RX) := by rw [add_ll (by rw [List.length_append]; omega), eR]
  rw [← hTS, en] at c1
  rw [← hTS, ← hSR] at od
  rw [← hSR, ← hFR, en] at c2
  rw [← hNX, ← hBE, en] at c3
  rw [← hNX, ← hAB, en] at c4
  rw [← hRX, ← hKX] at c5
  obtain ⟨MC, hMC⟩ : ∃ MC, MC = Ms.map crD := ⟨_, rfl⟩
  rw [← hMC] at hcl c1 e
  rw [en] at e
  rw [en, en2]
  have g1 : fldD 3 1 (.obj 3 [.int (w : Nat), .lst NX, .dct NK]) = some (.lst NX) := rfl
  have g2 : fldD 3 1 (.obj 3 [.int (w : Nat), .lst RX, .dct NK]) = some (.lst RX) := rfl
  obtain ⟨nt, hnt⟩ : ∃ nt : D, nt = .obj 3 [.int (w : Nat), .lst NX, .dct NK] := ⟨_, rfl⟩
  obtain ⟨nt2, hnt2⟩ : ∃ nt2 : D, nt2 = .obj 3 [.int (w : Nat), .lst RX, .dct NK] := ⟨_, rfl⟩
  have fs : setFld 3 1 (.lst RX) nt = some nt2 := by rw [hnt, hnt2]; rfl
  have fs2 : setFld 3 2 (.dct KX) nt2 = some (.obj 3 [.int (w : Nat), .lst RX, .dct KX]) := by rw [hnt2]; rfl
  rw [← hnt] at g1 c1 c2 c3 c4 e ⊢
  rw [← hnt2] at g2
  show Cq _ (r1_Notes___setitem__ [.mu (nt), .bo (.int st), .bo (cl), .un, .un, .un, .un, .un, .un]) = _
  have e1 : r1_Notes___setitem__ [.mu (nt), .bo (.int st), .bo (cl), .un, .un, .un, .un, .un, .un] = r6_Notes___setitem__ [.mu (nt2), .bo (.int st), .bo (cl), q3, .ow (.lst FR), .ow (.lst BE), .ow (.lst AB), .un, .un] := by
    refine ((gSeq_nx (ρ' := [.mu (nt), .bo (.int st), .bo (cl), q3, .un, .un, .un, .un, .un]) ?_).trans ((gSeq_nx (ρ' := [.mu (nt), .bo (.int st), .bo (cl), q3, .ow (.lst FR), .un, .un, .un, .un]) ?_).trans ((gSeq_nx (ρ' := [.mu (nt), .bo (.int st), .bo (cl), q3, .ow (.lst FR), .ow (.lst BE), .un, .un, .un]) ?_).trans ((gSeq_nx (ρ' := [.mu (nt), .bo (.int st), .bo (cl), q3, .ow (.lst FR), .ow (.lst BE), .ow (.lst AB), .un, .un]) ?_).trans (gSeq_nx ?_)))))
    · simp [Ci,Ca,Bb,Bd,Cw,Fd,Cy,Cf,Bf,Bk,Fe,Ee,Bl,Fg,Aj,El,Be,frz,Ez,Ac,Ba,fC,DL.M.bnd,Aa,Ay,Bc,Az,Fb,Cc,Em,Ff,Cz,Bg,Eo,Bj,Fi,Ck,Ea,Fc,Ed,Cd,up1,Eg,Ek,Bt,Ab,Ap,Aq,Ar,Au,Av,Aw,Ec,Cq,Eb,Kd.fr,Eh,D.isMut,Ep,Ah,Fh,Bi,Ef,Bm,Bn,D.len,D.list,D.tupl,Ak,Al,Am,An,Ai,Ao,Ae,Bo,Bp,Bq,Br,Bs,D.isN,D.isNot,Ei,ix_l,ix_t,ix_s,Ad,Af,LIM,Ej,Out.upE,Ag,Cr,Et,Ce,Es,Co,Ew,Ex,Cu,Cs,fMe,fMk,Ev,fIk,Cl,D.addI,D.subI,Er,fSl,Cj,slD,Cm,gBk,gCt,fLc,Cb,Ey,fCv,Cg,Bh,Ax,Cv,Ch,isO,only,Eu,at_0,at_1,at_2,at_3,Bu,isO,Bv,Bw,Bx,Bz,isP,Cp,D.isB,D.isNotB,s1_Notes___setitem__,hcl,e]
    · have c1 := c1 .un rfl
      have c2 := c2 q3
      simp [Ci,Ca,Bb,Bd,Cw,Fd,Cy,Cf,Bf,Bk,Fe,Ee,Bl,Fg,Aj,El,Be,frz,Ez,Ac,Ba,fC,DL.M.bnd,Aa,Ay,Bc,Az,Fb,Cc,Em,Ff,Cz,Bg,Eo,Bj,Fi,Ck,Ea,Fc,Ed,Cd,up1,Eg,Ek,Bt,Ab,Ap,Aq,Ar,Au,Av,Aw,Ec,Cq,Eb,Kd.fr,Eh,D.isMut,Ep,Ah,Fh,Bi,Ef,Bm,Bn,D.len,D.list,D.tupl,Ak,Al,Am,An,Ai,Ao,Ae,Bo,Bp,Bq,Br,Bs,D.isN,D.isNot,Ei,ix_l,ix_t,ix_s,Ad,Af,LIM,Ej,Out.upE,Ag,Cr,Et,Ce,Es,Co,Ew,Ex,Cu,Cs,fMe,fMk,Ev,fIk,Cl,D.addI,D.subI,Er,fSl,Cj,slD,Cm,gBk,gCt,fLc,Cb,Ey,fCv,Cg,Bh,Ax,Cv,Ch,isO,only,Eu,at_0,at_1,at_2,at_3,Bu,isO,Bv,Bw,Bx,Bz,isP,Cp,D.isB,D.isNotB,s2_Notes___setitem__,hcl,c1,limL_ok lTS,od,c2,limL_ok (show FR.length ≤ 16000000 by omega)]
    · have c3 := c3 q3
      simp [Ci,Ca,Bb,Bd,Cw,Fd,Cy,Cf,Bf,Bk,Fe,Ee,Bl,Fg,Aj,El,Be,frz,Ez,Ac,Ba,fC,DL.M.bnd,Aa,Ay,Bc,Az,Fb,Cc,Em,Ff,Cz,Bg,Eo,Bj,Fi,Ck,Ea,Fc,Ed,Cd,up1,Eg,Ek,Bt,Ab,Ap,Aq,Ar,Au,Av,Aw,Ec,Cq,Eb,Kd.fr,Eh,D.isMut,Ep,Ah,Fh,Bi,Ef,Bm,Bn,D.len,D.list,D.tupl,Ak,Al,Am,An,Ai,Ao,Ae,Bo,Bp,Bq,Br,Bs,D.isN,D.isNot,Ei,ix_l,ix_t,ix_s,Ad,Af,LIM,Ej,Out.upE,Ag,Cr,Et,Ce,Es,Co,Ew,Ex,Cu,Cs,fMe,fMk,Ev,fIk,Cl,D.addI,D.subI,Er,fSl,Cj,slD,Cm,gBk,gCt,fLc,Cb,Ey,fCv,Cg,Bh,Ax,Cv,Ch,isO,only,Eu,at_0,at_1,at_2,at_3,Bu,isO,Bv,Bw,Bx,Bz,isP,Cp,D.isB,D.isNotB,s3_Notes___setitem__,g1,c3,limL_ok (show BE.length ≤ 16000000 by omega)]
    · have c4 := c4 q3
      simp [Ci,Ca,Bb,Bd,Cw,Fd,Cy,Cf,Bf,Bk,Fe,Ee,Bl,Fg,Aj,El,Be,frz,Ez,Ac,Ba,fC,DL.M.bnd,Aa,Ay,Bc,Az,Fb,Cc,Em,Ff,Cz,Bg,Eo,Bj,Fi,Ck,Ea,Fc,Ed,Cd,up1,Eg,Ek,Bt,Ab,Ap,Aq,Ar,Au,Av,Aw,Ec,Cq,Eb,Kd.fr,Eh,D.isMut,Ep,Ah,Fh,Bi,Ef,Bm,Bn,D.len,D.list,D.tupl,Ak,Al,Am,An,Ai,Ao,Ae,Bo,Bp,Bq,Br,Bs,D.isN,D.isNot,Ei,ix_l,ix_t,ix_s,Ad,Af,LIM,Ej,Out.upE,Ag,Cr,Et,Ce,Es,Co,Ew,Ex,Cu,Cs,fMe,fMk,Ev,fIk,Cl,D.addI,D.subI,Er,fSl,Cj,slD,Cm,gBk,gCt,fLc,Cb,Ey,fCv,Cg,Bh,Ax,Cv,Ch,isO,only,Eu,at_0,at_1,at_2,at_3,Bu,isO,Bv,Bw,Bx,Bz,isP,Cp,D.isB,D.isNotB,s4_Notes___setitem__,g1,c4,limL_ok (show AB.length ≤ 16000000 by omega)]
    · simp [Ci,Ca,Bb,Bd,Cw,Fd,Cy,Cf,Bf,Bk,Fe,Ee,Bl,Fg,Aj,El,Be,frz,Ez,Ac,Ba,fC,DL.M.bnd,Aa,Ay,Bc,Az,Fb,Cc,Em,Ff,Cz,Bg,Eo,Bj,Fi,Ck,Ea,Fc,Ed,Cd,up1,Eg,Ek,Bt,Ab,Ap,Aq,Ar,Au,Av,Aw,Ec,Cq,Eb,Kd.fr,Eh,D.isMut,Ep,Ah,Fh,Bi,Ef,Bm,Bn,D.len,D.list,D.tupl,Ak,Al,Am,An,Ai,Ao,Ae,Bo,Bp,Bq,Br,Bs,D.isN,D.isNot,Ei,ix_l,ix_t,ix_s,Ad,Af,LIM,Ej,Out.upE,Ag,Cr,Et,Ce,Es,Co,Ew,Ex,Cu,Cs,fMe,fMk,Ev,fIk,Cl,D.addI,D.subI,Er,fSl,Cj,slD,Cm,gBk,gCt,fLc,Cb,Ey,fCv,Cg,Bh,Ax,Cv,Ch,isO,only,Eu,at_0,at_1,at_2,at_3,Bu,isO,Bv,Bw,Bx,Bz,isP,Cp,D.isB,D.isNotB,s5_Notes___setitem__,a1,a2,fs]
  rw [e1]
  have c5 := c5 (.mu nt2) q3
  simp [Ci,Ca,Bb,Bd,Cw,Fd,Cy,Cf,Bf,Bk,Fe,Ee,Bl,Fg,Aj,El,Be,frz,Ez,Ac,Ba,fC,DL.M.bnd,Aa,Ay,Bc,Az,Fb,Cc,Em,Ff,Cz,Bg,Eo,Bj,Fi,Ck,Ea,Fc,Ed,Cd,up1,Eg,Ek,Bt,Ab,Ap,Aq,Ar,Au,Av,Aw,Ec,Cq,Eb,Kd.fr,Eh,D.isMut,Ep,Ah,Fh,Bi,Ef,Bm,Bn,D.len,D.list,D.tupl,Ak,Al,Am,An,Ai,Ao,Ae,Bo,Bp,Bq,Br,Bs,D.isN,D.isNot,Ei,ix_l,ix_t,ix_s,Ad,Af,LIM,Ej,Out.upE,Ag,Cr,Et,Ce,Es,Co,Ew,Ex,Cu,Cs,fMe,fMk,Ev,fIk,Cl,D.addI,D.subI,Er,fSl,Cj,slD,Cm,gBk,gCt,fLc,Cb,Ey,fCv,Cg,Bh,Ax,Cv,Ch,isO,only,Eu,at_0,at_1,at_2,at_3,Bu,isO,Bv,Bw,Bx,Bz,isP,Cp,D.isB,D.isNotB,r6_Notes___setitem__,s6_Notes___setitem__,g2,fDc,c5,dctM,fs2]
theorem nt_get (w : Nat) (N : List Cfg) (st : Int) (hl : N.length ≤ 1000000) : Fn_Notes___getitem__ [ntD w N, .int st] = some (.ret true (.lst (((N.filter fun c => decide (c.1 = st)).map (·.2)).map crD)) []) := by
  have fn := fld_n1 w N
  obtain ⟨nt, hnt⟩ : ∃ nt, nt = ntD w N := ⟨_, rfl⟩
  rw [← hnt] at fn ⊢
  have c1 : compG (Et (Ce (Ep 2) (Ce (Ep 3) Es))) c1_Notes___getitem__ e1_Notes___getitem__ [.bo (nt), .bo (.int st), .un, .un] (N.map encC) = some (((N.filter fun c => decide (c.1 = st)).map (·.2)).map crD) := by
    rw [compG_map encC (fun c => decide (c.1 = st)) (fun c => crD c.2) N fun c _ => ?_, List.map_map]
    · rfl
    · exact ⟨[.bo (nt), .bo (.int st), .sh (.int c.1), .sh (crD c.2)], by simp [Ci,Ca,Bb,Bd,Cw,Fd,Cy,Cf,Bf,Bk,Fe,Ee,Bl,Fg,Aj,El,Be,frz,Ez,Ac,Ba,fC,DL.M.bnd,Aa,Ay,Bc,Az,Fb,Cc,Em,Ff,Cz,Bg,Eo,Bj,Fi,Ck,Ea,Fc,Ed,Cd,up1,Eg,Ek,Bt,Ab,Ap,Aq,Ar,Au,Av,Aw,Ec,Cq,Eb,Kd.fr,Eh,D.isMut,Ep,Ah,Fh,Bi,Ef,Bm,Bn,D.len,D.list,D.tupl,Ak,Al,Am,An,Ai,Ao,Ae,Bo,Bp,Bq,Br,Bs,D.isN,D.isNot,Ei,ix_l,ix_t,ix_s,Ad,Af,LIM,Ej,Out.upE,Ag,Cr,Et,Ce,Es,Co,Ew,Ex,Cu,Cs,fMe,fMk,Ev,fIk,Cl,D.addI,D.subI,Er,fSl,Cj,slD,Cm,gBk,gCt,fLc,Cb,Ey,fCv,Cg,Bh,Ax,Cv,Ch,isO,only,Eu,at_0,at_1,at_2,at_3,Bu,isO,Bv,Bw,Bx,Bz,isP,Cp,D.isB,D.isNotB,encC], by simp [Ci,Ca,Bb,Bd,Cw,Fd,Cy,Cf,Bf,Bk,Fe,Ee,Bl,Fg,Aj,El,Be,frz,Ez,Ac,Ba,fC,DL.M.bnd,Aa,Ay,Bc,Az,Fb,Cc,Em,Ff,Cz,Bg,Eo,Bj,Fi,Ck,Ea,Fc,Ed,Cd,up1,Eg,Ek,Bt,Ab,Ap,Aq,Ar,Au,Av,Aw,Ec,Cq,Eb,Kd.fr,Eh,D.isMut,Ep,Ah,Fh,Bi,Ef,Bm,Bn,D.len,D.list,D.tupl,Ak,Al,Am,An,Ai,Ao,Ae,Bo,Bp,Bq,Br,Bs,D.isN,D.isNot,Ei,ix_l,ix_t,ix_s,Ad,Af,LIM,Ej,Out.upE,Ag,Cr,Et,Ce,Es,Co,Ew,Ex,Cu,Cs,fMe,fMk,Ev,fIk,Cl,D.addI,D.subI,Er,fSl,Cj,slD,Cm,gBk,gCt,fLc,Cb,Ey,fCv,Cg,Bh,Ax,Cv,Ch,isO,only,Eu,at_0,at_1,at_2,at_3,Bu,isO,Bv,Bw,Bx,Bz,isP,Cp,D.isB,D.isNotB,c1_Notes___getitem__,Co], fun _ => by simp [Ci,Ca,Bb,Bd,Cw,Fd,Cy,Cf,Bf,Bk,Fe,Ee,Bl,Fg,Aj,El,Be,frz,Ez,Ac,Ba,fC,DL.M.bnd,Aa,Ay,Bc,Az,Fb,Cc,Em,Ff,Cz,Bg,Eo,Bj,Fi,Ck,Ea,Fc,Ed,Cd,up1,Eg,Ek,Bt,Ab,Ap,Aq,Ar,Au,Av,Aw,Ec,Cq,Eb,Kd.fr,Eh,D.isMut,Ep,Ah,Fh,Bi,Ef,Bm,Bn,D.len,D.list,D.tupl,Ak,Al,Am,An,Ai,Ao,Ae,Bo,Bp,Bq,Br,Bs,D.isN,D.isNot,Ei,ix_l,ix_t,ix_s,Ad,Af,LIM,Ej,Out.upE,Ag,Cr,Et,Ce,Es,Co,Ew,Ex,Cu,Cs,fMe,fMk,Ev,fIk,Cl,D.addI,D.subI,Er,fSl,Cj,slD,Cm,gBk,gCt,fLc,Cb,Ey,fCv,Cg,Bh,Ax,Cv,Ch,isO,only,Eu,at_0,at_1,at_2,at_3,Bu,isO,Bv,Bw,Bx,Bz,isP,Cp,D.isB,D.isNotB,e1_Notes___getitem__]⟩
  have n1 : (((N.filter fun c => decide (c.1 = st)).map (·.2)).map crD).length ≤ 16000000 := by
    rw [List.length_map, List.length_map]
    have := List.length_filter_le (fun c : Cfg => decide (c.1 = st)) N
    omega
  obtain ⟨GX, hGX⟩ : ∃ GX, GX = ((N.filter fun c => decide (c.1 = st)).map (·.2)).map crD := ⟨_, rfl⟩
  rw [← hGX] at c1 n1 ⊢
  show Cq _ (r1_Notes___getitem__ [.bo (nt), .bo (.int st), .un, .un]) = _
  simp [Ci,Ca,Bb,Bd,Cw,Fd,Cy,Cf,Bf,Bk,Fe,Ee,Bl,Fg,Aj,El,Be,frz,Ez,Ac,Ba,fC,DL.M.bnd,Aa,Ay,Bc,Az,Fb,Cc,Em,Ff,Cz,Bg,Eo,Bj,Fi,Ck,Ea,Fc,Ed,Cd,up1,Eg,Ek,Bt,Ab,Ap,Aq,Ar,Au,Av,Aw,Ec,Cq,Eb,Kd.fr,Eh,D.isMut,Ep,Ah,Fh,Bi,Ef,Bm,Bn,D.len,D.list,D.tupl,Ak,Al,Am,An,Ai,Ao,Ae,Bo,Bp,Bq,Br,Bs,D.isN,D.isNot,Ei,ix_l,ix_t,ix_s,Ad,Af,LIM,Ej,Out.upE,Ag,Cr,Et,Ce,Es,Co,Ew,Ex,Cu,Cs,fMe,fMk,Ev,fIk,Cl,D.addI,D.subI,Er,fSl,Cj,slD,Cm,gBk,gCt,fLc,Cb,Ey,fCv,Cg,Bh,Ax,Cv,Ch,isO,only,Eu,at_0,at_1,at_2,at_3,Bu,isO,Bv,Bw,Bx,Bz,isP,Cp,D.isB,D.isNotB,r1_Notes___getitem__,s1_Notes___getitem__,fn,c1,limL_ok n1]
theorem isi_n3 (w : Int) (N : List Cfg) : D.isi [ntD w N, .cls 3] = some (.bl true) := by
  show (isiT (.o 3) (.o 3)).map D.bl = _
  kernel_rfl
theorem notes_len (w : Int) (N : List Cfg) : Fn_Notes___len__ [ntD w N] = some (.ret true (.int (N.length : Nat)) []) := by
  have f1 := fld_n1 w N
  obtain ⟨nt, hnt⟩ : ∃ nt, nt = ntD w N := ⟨_, rfl⟩
  obtain ⟨NX, hNX⟩ : ∃ NX, NX = N.map encC := ⟨_, rfl⟩
  have lN : NX.length = N.length := by rw [hNX, List.length_map]
  rw [← hnt, ← hNX] at f1
  rw [← hnt]
  show Cq _ (r1_Notes___len__ [.bo (nt)]) = _
  simp [Ci,Ca,Bb,Bd,Cw,Fd,Cy,Cf,Bf,Bk,Fe,Ee,Bl,Fg,Aj,El,Be,frz,Ez,Ac,Ba,fC,DL.M.bnd,Aa,Ay,Bc,Az,Fb,Cc,Em,Ff,Cz,Bg,Eo,Bj,Fi,Ck,Ea,Fc,Ed,Cd,up1,Eg,Ek,Bt,Ab,Ap,Aq,Ar,Au,Av,Aw,Ec,Cq,Eb,Kd.fr,Eh,D.isMut,Ep,Ah,Fh,Bi,Ef,Bm,Bn,D.len,D.list,D.tupl,Ak,Al,Am,An,Ai,Ao,Ae,Bo,Bp,Bq,Br,Bs,D.isN,D.isNot,Ei,ix_l,ix_t,ix_s,Ad,Af,LIM,Ej,Out.upE,Ag,Cr,Et,Ce,Es,Co,Ew,Ex,Cu,Cs,fMe,fMk,Ev,fIk,Cl,D.addI,D.subI,Er,fSl,Cj,slD,Cm,gBk,gCt,fLc,Cb,Ey,fCv,Cg,Bh,Ax,Cv,Ch,isO,only,Eu,at_0,at_1,at_2,at_3,Bu,isO,Bv,Bw,Bx,Bz,isP,Cp,D.isB,D.isNotB,r1_Notes___len__,s1_Notes___len__,f1,lN]
theorem inK_set (T : List Cfg) (f : Bool → Bool) (c : Cfg) : D.inK f (keyD c) (.dct (T.map (setq keyD))) = some (.bl (f (decide (c ∈ T)))) := by
  rw [key_key.inS f c T]
  congr
theorem notes_in (w : Int) (N : List Cfg) (c : Cfg) : Fn_Notes___contains__ [ntD w N, encC c] = some (.ret true (.bl (decide (c ∈ N))) []) := by
  have f2 := fld_n2 w N
  have hin := inK_set N id c
  obtain ⟨nt, hnt⟩ : ∃ nt, nt = ntD w N := ⟨_, rfl⟩
  obtain ⟨KX, hKX⟩ : ∃ KX, KX = N.map (setq keyD) := ⟨_, rfl⟩
  rw [← hnt, ← hKX] at f2
  rw [← hKX] at hin
  rw [← hnt]
  obtain ⟨st, M⟩ := c
  unfold keyD at hin
  show Cq _ (r1_Notes___contains__ [.bo (nt), .bo (.tup [.int st, crD M])]) = _
  simp [Ci,Ca,Bb,Bd,Cw,Fd,Cy,Cf,Bf,Bk,Fe,Ee,Bl,Fg,Aj,El,Be,frz,Ez,Ac,Ba,fC,DL.M.bnd,Aa,Ay,Bc,Az,Fb,Cc,Em,Ff,Cz,Bg,Eo,Bj,Fi,Ck,Ea,Fc,Ed,Cd,up1,Eg,Ek,Bt,Ab,Ap,Aq,Ar,Au,Av,Aw,Ec,Cq,Eb,Kd.fr,Eh,D.isMut,Ep,Ah,Fh,Bi,Ef,Bm,Bn,D.len,D.list,D.tupl,Ak,Al,Am,An,Ai,Ao,Ae,Bo,Bp,Bq,Br,Bs,D.isN,D.isNot,Ei,ix_l,ix_t,ix_s,Ad,Af,LIM,Ej,Out.upE,Ag,Cr,Et,Ce,Es,Co,Ew,Ex,Cu,Cs,fMe,fMk,Ev,fIk,Cl,D.addI,D.subI,Er,fSl,Cj,slD,Cm,gBk,gCt,fLc,Cb,Ey,fCv,Cg,Bh,Ax,Cv,Ch,isO,only,Eu,at_0,at_1,at_2,at_3,Bu,isO,Bv,Bw,Bx,Bz,isP,Cp,D.isB,D.isNotB,r1_Notes___contains__,s1_Notes___contains__,f2,hin]
theorem EqEnc.nin {α : Type} [DecidableEq α] {enc : α → D} {n : Nat} (h : EqEnc enc n) (hn : n < 64) (a : α) (l : List α) : D.nin (enc a) (.lst (l.map enc)) = some (.bl (!decide (a ∈ l))) := by
  rw [nin_of (h.inn hn a l)]
theorem sorted_I (B : List Int) : D.sorted [.lst (B.map D.int)] = some (.lst ((srt B).map D.int)) := by
  show (ints? (B.map D.int)).map _ = _
  rw [ints?_map]
  rfl
theorem mul_li (v : Int) (n : Nat) (hn : n ≤ 100) : D.mul (.lst [.int v]) (.int (n : Nat)) = some (.lst ((List.replicate n v).map D.int)) := by
  have e : ∀ n : Nat, (List.replicate n [D.int v]).flatten = (List.replicate n v).map D.int := fun n => by
    induction n with
    | zero => rfl
    | succ n ih => rw [List.replicate_succ, List.flatten_cons, ih]; rfl
  have e0 : D.mul (.lst [.int v]) (.int (n : Nat)) = mulL (.lst [.int v]) (.int (n : Nat)) := rfl
  rw [e0]
  unfold mulL
  have h : (-1000000 : Int) ≤ (n : Int) ∧ (n : Int) ≤ 1000000 ∧ [D.int v].length * ((n : Int)).toNat ≤ LIM := by
    refine ⟨by omega, by omega, ?_⟩
    rw [List.length_singleton, Nat.one_mul, Int.toNat_natCast]
    exact Nat.le_trans hn (by decide)
  show (if _ then some (D.lst (List.replicate ((n : Int)).toNat [D.int v]).flatten) else none) = _
  rw [if_pos h, Int.toNat_natCast, e]
theorem ban_s1 (d : D) (m : List Int) (hm : m.length ≤ 16000000) : s1_Ban___init__ [.mu (.obj 2 []), .sh (crD m), .bo d, .un, .un] = some (if m.length ≤ 4 then .nx [.mu (.obj 2 []), .sh (crD m), .bo d, .un, .un] else .er ⟨103, []⟩ [.mu (.obj 2 []), .sh (crD m), .bo d, .un, .un]) := by
  by_cases h : m.length ≤ 4
  · have h1 : ¬ (4 : Int) < (m.length : Int) := by omega
    have h2 : (m.length : Int) ≤ 16000000 := by omega
    simp [Ci,Ca,Bb,Bd,Cw,Fd,Cy,Cf,Bf,Bk,Fe,Ee,Bl,Fg,Aj,El,Be,frz,Ez,Ac,Ba,fC,DL.M.bnd,Aa,Ay,Bc,Az,Fb,Cc,Em,Ff,Cz,Bg,Eo,Bj,Fi,Ck,Ea,Fc,Ed,Cd,up1,Eg,Ek,put,Ec,Cq,Eb,Kd.fr,Eh,D.isMut,Ep,Ah,Fh,Bi,Ef,Bm,Bn,D.len,D.list,D.tupl,rng1,rng2,Ak,Al,Am,An,Ai,Ao,Ae,Bo,Bp,Bq,Br,Bs,D.isN,D.isNot,Ei,ixL,Ad,Af,LIM,Ej,Out.upE,Ag,Cr,s1_Ban___init__,opLenO,isO0,len_crD,only,okLen,h,h1,h2,fCv,Cg]
  · have h1 : (4 : Int) < (m.length : Int) := by omega
    have h2 : (m.length : Int) ≤ 16000000 := by omega
    simp [Ci,Ca,Bb,Bd,Cw,Fd,Cy,Cf,Bf,Bk,Fe,Ee,Bl,Fg,Aj,El,Be,frz,Ez,Ac,Ba,fC,DL.M.bnd,Aa,Ay,Bc,Az,Fb,Cc,Em,Ff,Cz,Bg,Eo,Bj,Fi,Ck,Ea,Fc,Ed,Cd,up1,Eg,Ek,put,Ec,Cq,Eb,Kd.fr,Eh,D.isMut,Ep,Ah,Fh,Bi,Ef,Bm,Bn,D.len,D.list,D.tupl,rng1,rng2,Ak,Al,Am,An,Ai,Ao,Ae,Bo,Bp,Bq,Br,Bs,D.isN,D.isNot,Ei,ixL,Ad,Af,LIM,Ej,Out.upE,Ag,Cr,s1_Ban___init__,opLenO,isO0,len_crD,only,okLen,h,h1,h2,fCv,Cg,Bh]
theorem ban_r4 (d : D) (m : List Int) (h : m.length ≤ 4) : r1_Ban___init__ [.mu (.obj 2 []), .sh (crD m), .bo d, .un, .un] = r4_Ban___init__ [.mu (.obj 2 [crD m, .non]), .sh (crD m), .bo d, .un, .un] := by
  have e := ban_s1 d m (by omega)
  rw [if_pos h] at e
  refine (gSeq_nx e).trans ((gSeq_nx (ρ' := [.mu (.obj 2 [crD m]), .sh (crD m), .bo d, .un, .un]) ?_).trans (gSeq_nx ?_))
  · simp [Ci,Ca,Bb,Bd,Cw,Fd,Cy,Cf,Bf,Bk,Fe,Ee,Bl,Fg,Aj,El,Be,frz,Ez,Ac,Ba,fC,DL.M.bnd,Aa,Ay,Bc,Az,Fb,Cc,Em,Ff,Cz,Bg,Eo,Bj,Fi,Ck,Ea,Fc,Ed,Cd,up1,Eg,Ek,put,Ec,Cq,Eb,Kd.fr,Eh,D.isMut,Ep,Ah,Fh,Bi,Ef,Bm,Bn,D.len,D.list,D.tupl,rng1,rng2,Ak,Al,Am,An,Ai,Ao,Ae,Bo,Bp,Bq,Br,Bs,D.isN,D.isNot,Ei,ixL,Ad,Af,LIM,Ej,Out.upE,Ag,Cr,s2_Ban___init__,setFld]
  · simp [Ci,Ca,Bb,Bd,Cw,Fd,Cy,Cf,Bf,Bk,Fe,Ee,Bl,Fg,Aj,El,Be,frz,Ez,Ac,Ba,fC,DL.M.bnd,Aa,Ay,Bc,Az,Fb,Cc,Em,Ff,Cz,Bg,Eo,Bj,Fi,Ck,Ea,Fc,Ed,Cd,up1,Eg,Ek,put,Ec,Cq,Eb,Kd.fr,Eh,D.isMut,Ep,Ah,Fh,Bi,Ef,Bm,Bn,D.len,D.list,D.tupl,rng1,rng2,Ak,Al,Am,An,Ai,Ao,Ae,Bo,Bp,Bq,Br,Bs,D.isN,D.isNot,Ei,ixL,Ad,Af,LIM,Ej,Out.upE,Ag,Cr,s3_Ban___init__,setFld]
theorem ban_some (b : Bool) (m l : List Int) (h : m.length ≤ 4) (hl : l.length ≤ 16000000) : Fn_Ban___init__ [.obj 2 [], crD m, seqD b l] = some (if okSt l = true then .ret true .non [bnD m (some (kn l))] else .exc ⟨103, []⟩ [.obj 2 [crD m, .non]]) := by
  have hd : ∃ d : D, d = seqD b l ∧ itemsD d = some (l.map D.int) ∧ Ei d = false ∧ ∀ x : Int, D.inn (.int x) d = some (.bl (decide (x ∈ l))) := by
    refine ⟨_, rfl, ?_⟩
    cases b with
    | true => exact ⟨rfl, rfl, fun x => inn_tI x l⟩
    | false => exact ⟨rfl, rfl, fun x => EqEnc.int.inn (by decide) x l⟩
  obtain ⟨d, e, hi, hn, hin⟩ := hd
  unfold Ei at hn
  rw [← e]
  show Cq _ (r1_Ban___init__ [.mu (.obj 2 []), .sh (crD m), .bo d, .un, .un]) = _
  rw [ban_r4 d m h]
  have e0 : rngD 0 48 = (List.range 48).map fun j : Nat => D.int (0 + (j : Int)) := rfl
  have c1 : compG (Ep 4) c1_Ban___init__ e1_Ban___init__ [.mu (.obj 2 [crD m, .non]), .sh (crD m), .bo d, .un, .un] (rngD 0 48) = some ((kn l).map D.int) := by
    rw [e0, compG_map (fun j : Nat => D.int (0 + (j : Int))) (fun j : Nat => decide ((j : Int) ∈ l)) (fun j : Nat => D.int (j : Int)) (List.range 48) fun j _ => ?_]
    · unfold kn
      rw [List.map_map]
      rfl
    · refine ⟨[.mu (.obj 2 [crD m, .non]), .sh (crD m), .bo d, .un, .sh (.int (j : Int))], by simp [Ci,Ca,Bb,Bd,Cw,Fd,Cy,Cf,Bf,Bk,Fe,Ee,Bl,Fg,Aj,El,Be,frz,Ez,Ac,Ba,fC,DL.M.bnd,Aa,Ay,Bc,Az,Fb,Cc,Em,Ff,Cz,Bg,Eo,Bj,Fi,Ck,Ea,Fc,Ed,Cd,up1,Eg,Ek,put,Ec,Cq,Eb,Kd.fr,Eh,D.isMut,Ep,Ah,Fh,Bi,Ef,Bm,Bn,D.len,D.list,D.tupl,rng1,rng2,Ak,Al,Am,An,Ai,Ao,Ae,Bo,Bp,Bq,Br,Bs,D.isN,D.isNot,Ei,ixL,Ad,Af,LIM,Ej,Out.upE,Ag,Cr], ?_, fun _ => ?_⟩
      · have := hin (j : Int)
        simp [Ci,Ca,Bb,Bd,Cw,Fd,Cy,Cf,Bf,Bk,Fe,Ee,Bl,Fg,Aj,El,Be,frz,Ez,Ac,Ba,fC,DL.M.bnd,Aa,Ay,Bc,Az,Fb,Cc,Em,Ff,Cz,Bg,Eo,Bj,Fi,Ck,Ea,Fc,Ed,Cd,up1,Eg,Ek,put,Ec,Cq,Eb,Kd.fr,Eh,D.isMut,Ep,Ah,Fh,Bi,Ef,Bm,Bn,D.len,D.list,D.tupl,rng1,rng2,Ak,Al,Am,An,Ai,Ao,Ae,Bo,Bp,Bq,Br,Bs,D.isN,D.isNot,Ei,ixL,Ad,Af,LIM,Ej,Out.upE,Ag,Cr,c1_Ban___init__,this]
      · simp [Ci,Ca,Bb,Bd,Cw,Fd,Cy,Cf,Bf,Bk,Fe,Ee,Bl,Fg,Aj,El,Be,frz,Ez,Ac,Ba,fC,DL.M.bnd,Aa,Ay,Bc,Az,Fb,Cc,Em,Ff,Cz,Bg,Eo,Bj,Fi,Ck,Ea,Fc,Ed,Cd,up1,Eg,Ek,put,Ec,Cq,Eb,Kd.fr,Eh,D.isMut,Ep,Ah,Fh,Bi,Ef,Bm,Bn,D.len,D.list,D.tupl,rng1,rng2,Ak,Al,Am,An,Ai,Ao,Ae,Bo,Bp,Bq,Br,Bs,D.isN,D.isNot,Ei,ixL,Ad,Af,LIM,Ej,Out.upE,Ag,Cr,e1_Ban___init__]
  have n1 : ((kn l).map D.int).length ≤ 16000000 := by
    rw [List.length_map]
    have := kn_len l
    omega
  have c2 : compG (Ep 4) Cd e2_Ban___init__ [.mu (.obj 2 [crD m, .non]), .sh (crD m), .bo d, .sh (.tup ((kn l).map D.int)), .un] (l.map D.int) = some (l.map fun x => .bl (!decide (x ∈ kn l))) := by
    refine compG_all D.int (fun x => .bl (!decide (x ∈ kn l))) l fun x _ => ⟨[.mu (.obj 2 [crD m, .non]), .sh (crD m), .bo d, .sh (.tup ((kn l).map D.int)), .sh (.int x)], by simp [Ci,Ca,Bb,Bd,Cw,Fd,Cy,Cf,Bf,Bk,Fe,Ee,Bl,Fg,Aj,El,Be,frz,Ez,Ac,Ba,fC,DL.M.bnd,Aa,Ay,Bc,Az,Fb,Cc,Em,Ff,Cz,Bg,Eo,Bj,Fi,Ck,Ea,Fc,Ed,Cd,up1,Eg,Ek,put,Ec,Cq,Eb,Kd.fr,Eh,D.isMut,Ep,Ah,Fh,Bi,Ef,Bm,Bn,D.len,D.list,D.tupl,rng1,rng2,Ak,Al,Am,An,Ai,Ao,Ae,Bo,Bp,Bq,Br,Bs,D.isN,D.isNot,Ei,ixL,Ad,Af,LIM,Ej,Out.upE,Ag,Cr], ?_⟩
    have := nin_tI x (kn l)
    simp [Ci,Ca,Bb,Bd,Cw,Fd,Cy,Cf,Bf,Bk,Fe,Ee,Bl,Fg,Aj,El,Be,frz,Ez,Ac,Ba,fC,DL.M.bnd,Aa,Ay,Bc,Az,Fb,Cc,Em,Ff,Cz,Bg,Eo,Bj,Fi,Ck,Ea,Fc,Ed,Cd,up1,Eg,Ek,put,Ec,Cq,Eb,Kd.fr,Eh,D.isMut,Ep,Ah,Fh,Bi,Ef,Bm,Bn,D.len,D.list,D.tupl,rng1,rng2,Ak,Al,Am,An,Ai,Ao,Ae,Bo,Bp,Bq,Br,Bs,D.isN,D.isNot,Ei,ixL,Ad,Af,LIM,Ej,Out.upE,Ag,Cr,e2_Ban___init__,this]
  have n2 : (l.map fun x => D.bl (!decide (x ∈ kn l))).length ≤ 16000000 := by rw [List.length_map]; exact hl
  have bq : ∀ f : Int → Bool, ∀ l : List Int, bls? (l.map fun x => D.bl (f x)) = some (l.map f) := by
    intro f l
    induction l with
    | nil => rfl
    | cons y ys ih =>
      show (bls? (ys.map fun x => D.bl (f x))).map (f y :: ·) = _
      rw [ih]
      rfl
  have a2 : D.anyL [.lst (l.map fun x => .bl (!decide (x ∈ kn l)))] = some (.bl (l.any fun x => !decide (x ∈ kn l))) := by
    show (bls? (l.map fun x => D.bl (!decide (x ∈ kn l)))).map (fun bs => D.bl (bs.any id)) = _
    rw [bq]
    show some (D.bl ((l.map _).any id)) = _
    rw [List.any_map]
    rfl
  have a1 : D.eq (.tup ((kn l).map D.int)) (.tup []) = some (.bl (decide (kn l = []))) := eq_tI (kn l) []
  have kl : okSt l = (!decide (kn l = []) && !(l.any fun x => !decide (x ∈ kn l))) := by
    unfold okSt
    congr 1
    · simp
    · rw [List.not_any_eq_all_not]
      simp
  have e4 : r4_Ban___init__ [.mu (.obj 2 [crD m, .non]), .sh (crD m), .bo d, .un, .un] = some (if okSt l = true then .nx [.mu (.obj 2 [crD m, .tup ((kn l).map D.int)]), .sh (crD m), .bo d, .sh (.tup ((kn l).map D.int)), .un] else .er ⟨103, []⟩ [.mu (.obj 2 [crD m, .non]), .sh (crD m), .bo d, .sh (.tup ((kn l).map D.int)), .un]) := by
    simp only [r4_Ban___init__, s4_Ban___init__, if_or]
    rw [kl]
    by_cases h1 : kn l = []
    · have n0 : ([] : List D).length ≤ 16000000 := by decide
      have a0 : D.eq (.tup []) (.tup []) = some (.bl true) := (eq_tI [] []).trans (by rw [decide_eq_true rfl])
      simp [Ci,Ca,Bb,Bd,Cw,Fd,Cy,Cf,Bf,Bk,Fe,Ee,Bl,Fg,Aj,El,Be,frz,Ez,Ac,Ba,fC,DL.M.bnd,Aa,Ay,Bc,Az,Fb,Cc,Em,Ff,Cz,Bg,Eo,Bj,Fi,Ck,Ea,Fc,Ed,Cd,up1,Eg,Ek,put,Ec,Cq,Eb,Kd.fr,Eh,D.isMut,Ep,Ah,Fh,Bi,Ef,Bm,Bn,D.len,D.list,D.tupl,rng1,rng2,Ak,Al,Am,An,Ai,Ao,Ae,Bo,Bp,Bq,Br,Bs,D.isN,D.isNot,Ei,ixL,Ad,Af,LIM,Ej,Out.upE,Ag,Cr,hn,fCv,Cg,fLc,Cb,c1,a0,h1,limL_ok n0,Bh]
    · cases h2 : l.any fun x => !decide (x ∈ kn l) with
      | true =>
        rw [h2] at a2
        simp [Ci,Ca,Bb,Bd,Cw,Fd,Cy,Cf,Bf,Bk,Fe,Ee,Bl,Fg,Aj,El,Be,frz,Ez,Ac,Ba,fC,DL.M.bnd,Aa,Ay,Bc,Az,Fb,Cc,Em,Ff,Cz,Bg,Eo,Bj,Fi,Ck,Ea,Fc,Ed,Cd,up1,Eg,Ek,put,Ec,Cq,Eb,Kd.fr,Eh,D.isMut,Ep,Ah,Fh,Bi,Ef,Bm,Bn,D.len,D.list,D.tupl,rng1,rng2,Ak,Al,Am,An,Ai,Ao,Ae,Bo,Bp,Bq,Br,Bs,D.isN,D.isNot,Ei,ixL,Ad,Af,LIM,Ej,Out.upE,Ag,Cr,hn,fCv,Cg,fLc,Cb,c1,c2,limL_ok n1,limL_ok n2,hi,a1,a2,h1,Bh]
      | false =>
        rw [h2] at a2
        simp [Ci,Ca,Bb,Bd,Cw,Fd,Cy,Cf,Bf,Bk,Fe,Ee,Bl,Fg,Aj,El,Be,frz,Ez,Ac,Ba,fC,DL.M.bnd,Aa,Ay,Bc,Az,Fb,Cc,Em,Ff,Cz,Bg,Eo,Bj,Fi,Ck,Ea,Fc,Ed,Cd,up1,Eg,Ek,put,Ec,Cq,Eb,Kd.fr,Eh,D.isMut,Ep,Ah,Fh,Bi,Ef,Bm,Bn,D.len,D.list,D.tupl,rng1,rng2,Ak,Al,Am,An,Ai,Ao,Ae,Bo,Bp,Bq,Br,Bs,D.isN,D.isNot,Ei,ixL,Ad,Af,LIM,Ej,Out.upE,Ag,Cr,hn,fCv,Cg,fLc,Cb,c1,c2,limL_ok n1,limL_ok n2,hi,a1,a2,h1,setFld]
  rw [e4]
  cases okSt l <;> rfl
theorem kinds_ok (q1 q3 q4 q7 : Sl) (M : List Int) : ∀ (xs pre : List Int), M = pre ++ xs →
    compG (Et (Ce (Ep 5) (Ce (Ep 6) Es))) c1_Crowd_lots e1_Crowd_lots [.bo (crD M), q1, .un, q3, q4, .un, .un, q7] (enumD pre.length (xs.map D.int)) = some ((kindsA pre xs).map D.int)
  | [], pre, _ => rfl
  | x :: xs, pre, h => by
    have ih := kinds_ok q1 q3 q4 q7 M xs (pre ++ [x]) (by rw [h]; simp)
    have f1 : fldD 0 0 (crD M) = some (.tup (M.map D.int)) := rfl
    have e0 : (pre ++ [x]).length = pre.length + 1 := by simp
    have ct : cutD (M.map D.int) none (some (pre.length : Int)) = pre.map D.int := by
      rw [cut_take _ _ (by rw [List.length_map, h]; simp), ← List.map_take, h, List.take_left]
    have h1 : Et (Ce (Ep 5) (Ce (Ep 6) Es)) (.tup [.int (pre.length : Nat), .int x]) [.bo (crD M), q1, .un, q3, q4, .un, .un, q7] = some [.bo (crD M), q1, .un, q3, q4, .sh (.int (pre.length : Nat)), .sh (.int x), q7] := by
      simp [Ci,Ca,Bb,Bd,Cw,Fd,Cy,Cf,Bf,Bk,Fe,Ee,Bl,Fg,Aj,El,Be,frz,Ez,Ac,Ba,fC,DL.M.bnd,Aa,Ay,Bc,Az,Fb,Cc,Em,Ff,Cz,Bg,Eo,Bj,Fi,Ck,Ea,Fc,Ed,Cd,up1,Eg,Ek,put,Ec,Cq,Eb,Kd.fr,Eh,D.isMut,Ep,Ah,Fh,Bi,Ef,Bm,Bn,D.len,D.list,D.tupl,rng1,rng2,Ak,Al,Am,An,Ai,Ao,Ae,Bo,Bp,Bq,Br,Bs,D.isN,D.isNot,Ei,ixL,Ad,Af,LIM,Ej,Out.upE,Ag,Cr,Et,Ce,Es]
    have h2 : c1_Crowd_lots [.bo (crD M), q1, .un, q3, q4, .sh (.int (pre.length : Nat)), .sh (.int x), q7] = some (.ok (!decide (x ∈ pre))) := by
      simp [Ci,Ca,Bb,Bd,Cw,Fd,Cy,Cf,Bf,Bk,Fe,Ee,Bl,Fg,Aj,El,Be,frz,Ez,Ac,Ba,fC,DL.M.bnd,Aa,Ay,Bc,Az,Fb,Cc,Em,Ff,Cz,Bg,Eo,Bj,Fi,Ck,Ea,Fc,Ed,Cd,up1,Eg,Ek,put,Ec,Cq,Eb,Kd.fr,Eh,D.isMut,Ep,Ah,Fh,Bi,Ef,Bm,Bn,D.len,D.list,D.tupl,rng1,rng2,Ak,Al,Am,An,Ai,Ao,Ae,Bo,Bp,Bq,Br,Bs,D.isN,D.isNot,Ei,ixL,Ad,Af,LIM,Ej,Out.upE,Ag,Cr,c1_Crowd_lots,fSl,Cj,slD,f1,ct,nin_tI]
    have h3 : e1_Crowd_lots [.bo (crD M), q1, .un, q3, q4, .sh (.int (pre.length : Nat)), .sh (.int x), q7] = some (.ok (.int x)) := by
      simp [Ci,Ca,Bb,Bd,Cw,Fd,Cy,Cf,Bf,Bk,Fe,Ee,Bl,Fg,Aj,El,Be,frz,Ez,Ac,Ba,fC,DL.M.bnd,Aa,Ay,Bc,Az,Fb,Cc,Em,Ff,Cz,Bg,Eo,Bj,Fi,Ck,Ea,Fc,Ed,Cd,up1,Eg,Ek,put,Ec,Cq,Eb,Kd.fr,Eh,D.isMut,Ep,Ah,Fh,Bi,Ef,Bm,Bn,D.len,D.list,D.tupl,rng1,rng2,Ak,Al,Am,An,Ai,Ao,Ae,Bo,Bp,Bq,Br,Bs,D.isN,D.isNot,Ei,ixL,Ad,Af,LIM,Ej,Out.upE,Ag,Cr,e1_Crowd_lots]
    rw [List.map_cons]
    unfold enumD
    unfold compG
    rw [h1, Option.bind_some, h2]
    rw [e0] at ih
    by_cases hx : x ∈ pre
    · simp only [hx, decide_true, Bool.not_true, ih, kindsA, if_true]
    · simp only [hx, decide_false, Bool.not_false, ih, kindsA, if_false, h3, Option.map_some, List.map_cons]
theorem lstep_ok (M K : List Int) (q1 q4 : Sl) (t : Nat) (q3 : Sl) (h3 : q3 = .sh (.lst ((LMs M K t).map encR)) ∨ q3 = .ow (.lst ((LMs M K t).map encR))) (hr : ∀ row ∈ LMs M K t, row.length + 1 ≤ 16000000) (hn : (LMs M K (t + 1)).length ≤ 16000000) :
    b1_Crowd_lots [.bo (crD M), q1, .sh (.lst (K.map D.int)), q3, q4, .un, .un, .un] = some (.nx [.bo (crD M), q1, .sh (.lst (K.map D.int)), .ow (.lst ((LMs M K (t + 1)).map encR)), q4, .un, .un, .un]) := by
  have f1 : fldD 0 0 (crD M) = some (.tup (M.map D.int)) := rfl
  have key : comp2G (Ep 7) Cd i1_Crowd_lots (Ep 6) c2_Crowd_lots e2_Crowd_lots [6] [.bo (crD M), q1, .sh (.lst (K.map D.int)), .sh (.lst ((LMs M K t).map encR)), q4, .un, .un, .un] ((LMs M K t).map encR) = some ((LMs M K (t + 1)).map encR) := by
    rw [comp2G_map encR D.int (fun _ => true) (fun _ => K) (fun row x => okB row x && decide (row.count x < M.count x)) (fun row x => encR (row ++ [x])) (LMs M K t) fun row hrow => ?_]
    · rw [List.filter_eq_self.mpr (fun _ _ => rfl)]
      show _ = some (((LMs M K t).flatMap fun row => (K.filter fun x => okB row x && decide (row.count x < M.count x)).map fun x => row ++ [x]).map encR)
      rw [List.map_flatMap]
      congr 2
      funext row
      rw [List.map_map]
      rfl
    · refine ⟨[.bo (crD M), q1, .sh (.lst (K.map D.int)), .sh (.lst ((LMs M K t).map encR)), q4, .un, .un, .sh (encR row)], by simp [Ci,Ca,Bb,Bd,Cw,Fd,Cy,Cf,Bf,Bk,Fe,Ee,Bl,Fg,Aj,El,Be,frz,Ez,Ac,Ba,fC,DL.M.bnd,Aa,Ay,Bc,Az,Fb,Cc,Em,Ff,Cz,Bg,Eo,Bj,Fi,Ck,Ea,Fc,Ed,Cd,up1,Eg,Ek,put,Ec,Cq,Eb,Kd.fr,Eh,D.isMut,Ep,Ah,Fh,Bi,Ef,Bm,Bn,D.len,D.list,D.tupl,rng1,rng2,Ak,Al,Am,An,Ai,Ao,Ae,Bo,Bp,Bq,Br,Bs,D.isN,D.isNot,Ei,ixL,Ad,Af,LIM,Ej,Out.upE,Ag,Cr,encR], rfl, fun _ => ⟨by simp [Ci,Ca,Bb,Bd,Cw,Fd,Cy,Cf,Bf,Bk,Fe,Ee,Bl,Fg,Aj,El,Be,frz,Ez,Ac,Ba,fC,DL.M.bnd,Aa,Ay,Bc,Az,Fb,Cc,Em,Ff,Cz,Bg,Eo,Bj,Fi,Ck,Ea,Fc,Ed,Cd,up1,Eg,Ek,put,Ec,Cq,Eb,Kd.fr,Eh,D.isMut,Ep,Ah,Fh,Bi,Ef,Bm,Bn,D.len,D.list,D.tupl,rng1,rng2,Ak,Al,Am,An,Ai,Ao,Ae,Bo,Bp,Bq,Br,Bs,D.isN,D.isNot,Ei,ixL,Ad,Af,LIM,Ej,Out.upE,Ag,Cr,i1_Crowd_lots], fun x hx => ⟨[.bo (crD M), q1, .sh (.lst (K.map D.int)), .sh (.lst ((LMs M K t).map encR)), q4, .un, .sh (.int x), .sh (encR row)], by simp [Ci,Ca,Bb,Bd,Cw,Fd,Cy,Cf,Bf,Bk,Fe,Ee,Bl,Fg,Aj,El,Be,frz,Ez,Ac,Ba,fC,DL.M.bnd,Aa,Ay,Bc,Az,Fb,Cc,Em,Ff,Cz,Bg,Eo,Bj,Fi,Ck,Ea,Fc,Ed,Cd,up1,Eg,Ek,put,Ec,Cq,Eb,Kd.fr,Eh,D.isMut,Ep,Ah,Fh,Bi,Ef,Bm,Bn,D.len,D.list,D.tupl,rng1,rng2,Ak,Al,Am,An,Ai,Ao,Ae,Bo,Bp,Bq,Br,Bs,D.isN,D.isNot,Ei,ixL,Ad,Af,LIM,Ej,Out.upE,Ag,Cr,Cb], ?_, fun _ => ?_⟩⟩⟩
      · have e0 : D.eq (.tup (row.map D.int)) (.tup []) = some (.bl (decide (row = []))) := eq_tI row []
        cases hl : row.getLast? with
        | none =>
          have : row = [] := List.getLast?_eq_none_iff.mp hl
          subst this
          have e0 : D.eq (.tup []) (.tup []) = some (.bl true) := e0
          have c0 : D.count (.tup []) (.int x) = some (.int 0) := cnt_tI x []
          simp [Ci,Ca,Bb,Bd,Cw,Fd,Cy,Cf,Bf,Bk,Fe,Ee,Bl,Fg,Aj,El,Be,frz,Ez,Ac,Ba,fC,DL.M.bnd,Aa,Ay,Bc,Az,Fb,Cc,Em,Ff,Cz,Bg,Eo,Bj,Fi,Ck,Ea,Fc,Ed,Cd,up1,Eg,Ek,put,Ec,Cq,Eb,Kd.fr,Eh,D.isMut,Ep,Ah,Fh,Bi,Ef,Bm,Bn,D.len,D.list,D.tupl,rng1,rng2,Ak,Al,Am,An,Ai,Ao,Ae,Bo,Bp,Bq,Br,Bs,D.isN,D.isNot,Ei,ixL,Ad,Af,LIM,Ej,Out.upE,Ag,Cr,c2_Crowd_lots,encR,e0,fCnt,isSq,c0,cnt_tI,f1,okB]
        | some y =>
          have hne : ¬ row = [] := by rintro rfl; cases hl
          have e1 := getLast_at row hl
          by_cases hyx : y ≤ x
          · simp [Ci,Ca,Bb,Bd,Cw,Fd,Cy,Cf,Bf,Bk,Fe,Ee,Bl,Fg,Aj,El,Be,frz,Ez,Ac,Ba,fC,DL.M.bnd,Aa,Ay,Bc,Az,Fb,Cc,Em,Ff,Cz,Bg,Eo,Bj,Fi,Ck,Ea,Fc,Ed,Cd,up1,Eg,Ek,put,Ec,Cq,Eb,Kd.fr,Eh,D.isMut,Ep,Ah,Fh,Bi,Ef,Bm,Bn,D.len,D.list,D.tupl,rng1,rng2,Ak,Al,Am,An,Ai,Ao,Ae,Bo,Bp,Bq,Br,Bs,D.isN,D.isNot,Ei,ixL,Ad,Af,LIM,Ej,Out.upE,Ag,Cr,c2_Crowd_lots,encR,e0,hne,e1,fCnt,isSq,cnt_tI,f1,okB,hl,hyx]
          · simp [Ci,Ca,Bb,Bd,Cw,Fd,Cy,Cf,Bf,Bk,Fe,Ee,Bl,Fg,Aj,El,Be,frz,Ez,Ac,Ba,fC,DL.M.bnd,Aa,Ay,Bc,Az,Fb,Cc,Em,Ff,Cz,Bg,Eo,Bj,Fi,Ck,Ea,Fc,Ed,Cd,up1,Eg,Ek,put,Ec,Cq,Eb,Kd.fr,Eh,D.isMut,Ep,Ah,Fh,Bi,Ef,Bm,Bn,D.len,D.list,D.tupl,rng1,rng2,Ak,Al,Am,An,Ai,Ao,Ae,Bo,Bp,Bq,Br,Bs,D.isN,D.isNot,Ei,ixL,Ad,Af,LIM,Ej,Out.upE,Ag,Cr,c2_Crowd_lots,encR,e0,hne,e1,fCnt,isSq,cnt_tI,f1,okB,hl,hyx]
      · have := hr row hrow
        have e1 : D.add (.tup (row.map D.int)) (.tup [.int x]) = some (encR (row ++ [x])) := by
          rw [add_tt (by simpa using this)]
          simp [encR]
        simp [Ci,Ca,Bb,Bd,Cw,Fd,Cy,Cf,Bf,Bk,Fe,Ee,Bl,Fg,Aj,El,Be,frz,Ez,Ac,Ba,fC,DL.M.bnd,Aa,Ay,Bc,Az,Fb,Cc,Em,Ff,Cz,Bg,Eo,Bj,Fi,Ck,Ea,Fc,Ed,Cd,up1,Eg,Ek,put,Ec,Cq,Eb,Kd.fr,Eh,D.isMut,Ep,Ah,Fh,Bi,Ef,Bm,Bn,D.len,D.list,D.tupl,rng1,rng2,Ak,Al,Am,An,Ai,Ao,Ae,Bo,Bp,Bq,Br,Bs,D.isN,D.isNot,Ei,ixL,Ad,Af,LIM,Ej,Out.upE,Ag,Cr,e2_Crowd_lots,encR,e1]
  have key2 : fLc2 (Fc (Bc 3)) (Ep 7) Cd i1_Crowd_lots (Ep 6) c2_Crowd_lots e2_Crowd_lots [7, 6] [6] [.bo (crD M), q1, .sh (.lst (K.map D.int)), .sh (.lst ((LMs M K t).map encR)), q4, .un, .un, .un] = some (.ok (.lst ((LMs M K (t + 1)).map encR))) := by
    have hn' : ((LMs M K (t + 1)).map encR).length ≤ 16000000 := by rw [List.length_map]; exact hn
    simp [Ci,Ca,Bb,Bd,Cw,Fd,Cy,Cf,Bf,Bk,Fe,Ee,Bl,Fg,Aj,El,Be,frz,Ez,Ac,Ba,fC,DL.M.bnd,Aa,Ay,Bc,Az,Fb,Cc,Em,Ff,Cz,Bg,Eo,Bj,Fi,Ck,Ea,Fc,Ed,Cd,up1,Eg,Ek,put,Ec,Cq,Eb,Kd.fr,Eh,D.isMut,Ep,Ah,Fh,Bi,Ef,Bm,Bn,D.len,D.list,D.tupl,rng1,rng2,Ak,Al,Am,An,Ai,Ao,Ae,Bo,Bp,Bq,Br,Bs,D.isN,D.isNot,Ei,ixL,Ad,Af,LIM,Ej,Out.upE,Ag,Cr,fLc2,Cb,key,limL_ok hn']
  rcases h3 with rfl | rfl <;> simp [Ci,Ca,Bb,Bd,Cw,Fd,Cy,Cf,Bf,Bk,Fe,Ee,Bl,Fg,Aj,El,Be,frz,Ez,Ac,Ba,fC,DL.M.bnd,Aa,Ay,Bc,Az,Fb,Cc,Em,Ff,Cz,Bg,Eo,Bj,Fi,Ck,Ea,Fc,Ed,Cd,up1,Eg,Ek,put,Ec,Cq,Eb,Kd.fr,Eh,D.isMut,Ep,Ah,Fh,Bi,Ef,Bm,Bn,D.len,D.list,D.tupl,rng1,rng2,Ak,Al,Am,An,Ai,Ao,Ae,Bo,Bp,Bq,Br,Bs,D.isN,D.isNot,Ei,ixL,Ad,Af,LIM,Ej,Out.upE,Ag,Cr,b1_Crowd_lots,key2]
end DL
namespace DL
open PySem PySem.Spec L2
theorem kinds_len : ∀ (xs pre : List Int), (kindsA pre xs).length ≤ xs.length
  | [], pre => Nat.le_refl _
  | x :: xs, pre => by
    unfold kindsA
    have h := kinds_len xs (pre ++ [x])
    split
    · rw [List.length_cons]; omega
    · rw [List.length_cons, List.length_cons]; omega
theorem subE_self (M : List Int) : subE M M = true := by
  rw [subE_iff]
  exact fun x => Nat.le_refl _
theorem lots_own (M : List Int) (asc : M.Pairwise (· ≤ ·)) (h0 : ∀ x ∈ M, 0 ≤ x) (hl : M.length ≤ 4) : Fn_Crowd_lots [crD M, .int (M.length : Nat)] = some (.ret true (.lst [crD M]) []) := by
  obtain ⟨s, hs⟩ : ∃ s, s = M.length := ⟨_, rfl⟩
  rw [← hs]
  have hk : ∀ t, LMs M (kindsA [] M) t = (BL (kindsA [] M) t).filter fun row => subE row M := fun t => by
    have e : (kindsA [] M).filter (fun x => decide (x ∈ M)) = kindsA [] M := List.filter_eq_self.mpr fun x hx => decide_eq_true ((kindsA_mem M [] x).mp hx).1
    have h := LM_eq M (kindsA [] M) t
    rw [e] at h
    exact h
  obtain ⟨K, hK⟩ : ∃ K, K = kindsA [] M := ⟨_, rfl⟩
  have lK : K.length ≤ 4 := by rw [hK]; exact Nat.le_trans (kinds_len M []) hl
  have aK : K.Pairwise (· < ·) := by rw [hK]; exact kindsA_asc M [] asc
  have mK : ∀ x ∈ M, x ∈ K := fun x hx => by rw [hK]; exact (kindsA_mem M [] x).mpr ⟨hx, by simp⟩
  rw [← hK] at hk
  have few : ∀ t, t ≤ s → ((BL K t).filter fun row => subE row M).length ≤ 1000000 := fun t ht => by
    refine Nat.le_trans (List.length_filter_le _ _) (Nat.le_trans (BL_len K t) ?_)
    have h1 : K.length ^ t ≤ 4 ^ t := Nat.pow_le_pow_left lK t
    have h2 : 4 ^ t ≤ 4 ^ 4 := Nat.pow_le_pow_right (by decide) (by omega)
    omega
  have last : (BL K s).filter (fun row => subE row M) = [M] := by
    refine asc_unique sto_lex ((BL_asc aK s).sublist List.filter_sublist) (List.pairwise_singleton _ _) fun R => ?_
    rw [List.mem_filter, List.mem_singleton]
    constructor
    · rintro ⟨h1, h2⟩
      have r := BL_row h1
      exact sub_same r.asc asc (subE_iff.mp h2) (by rw [r.len]; omega)
    · rintro rfl
      exact ⟨BL_all s R ⟨hs.symm, mK, asc⟩, subE_self R⟩
  have f1 : fldD 0 0 (crD M) = some (.tup (M.map D.int)) := rfl
  obtain ⟨ρ', e, q3, q4, rfl, hq3, hq4⟩ := loop_inv0 (h := Ep 4) (g := b1_Crowd_lots) (fun t ρ => ∃ q3 q4, ρ = [.bo (crD M), .bo (.int s), .sh (.lst (K.map D.int)), q3, q4, .un, .un, .un] ∧ (q3 = .sh (.lst ((LMs M K t).map encR)) ∨ q3 = .ow (.lst ((LMs M K t).map encR))) ∧ (q4 = .un ∨ ∃ d, q4 = .sh d))
    (rngD 0 s) _ ⟨_, .un, rfl, .inl rfl, .inl rfl⟩ (by
    rintro t d ρ hi ⟨q3, q4, rfl, hq3, hq4⟩
    obtain ⟨rfl, hi2⟩ := rngD_at hi
    have ht : t + 1 ≤ s := by omega
    refine ⟨[.bo (crD M), .bo (.int s), .sh (.lst (K.map D.int)), q3, .sh (.int (0 + t)), .un, .un, .un], _, ?_, .inl (lstep_ok M K _ _ t q3 hq3 (fun row hrow => ?_) ?_), _, _, rfl, .inr rfl, .inr ⟨_, rfl⟩⟩
    · rcases hq4 with rfl | ⟨d, rfl⟩ <;> simp [Ci,Ca,Bb,Bd,Cw,Fd,Cy,Cf,Bf,Bk,Fe,Ee,Bl,Fg,Aj,El,Be,frz,Ez,Ac,Ba,fC,DL.M.bnd,Aa,Ay,Bc,Az,Fb,Cc,Em,Ff,Cz,Bg,Eo,Bj,Fi,Ck,Ea,Fc,Ed,Cd,up1,Eg,Ek,put,Ec,Cq,Eb,Kd.fr,Eh,D.isMut,Ep,Ah,Fh,Bi,Ef,Bm,Bn,D.len,D.list,D.tupl,rng1,rng2,Ak,Al,Am,An,Ai,Ao,Ae,Bo,Bp,Bq,Br,Bs,D.isN,D.isNot,Ei,ixL,Ad,Af,LIM,Ej,Out.upE,Ag,Cr]
    · rw [hk] at hrow
      have := (BL_row (List.mem_filter.mp hrow).1).len
      omega
    · rw [hk]
      have := few _ ht
      omega)
  have hn : (rngD 0 (s : Int)).length = s := by rw [rngD_len]; omega
  rw [hn, hk, last] at hq3
  have hlenK : (K.map D.int).length ≤ 16000000 := by
    rw [List.length_map]
    omega
  have a1 : r1_Crowd_lots [.bo (crD M), .bo (.int s), .un, .un, .un, .un, .un, .un] = r4_Crowd_lots [.bo (crD M), .bo (.int s), .sh (.lst (K.map D.int)), q3, q4, .un, .un, .un] := by
    have hs1 : (-16000000 : Int) ≤ s := by omega
    have hs2 : (s : Int) ≤ 16000000 := by omega
    have e : loopG (Ep 4) b1_Crowd_lots (rngD 0 s) [.bo (crD M), .bo (.int s), .sh (.lst (K.map D.int)), .sh (.lst [.tup []]), .un, .un, .un, .un] = some (.nx [.bo (crD M), .bo (.int s), .sh (.lst (K.map D.int)), q3, q4, .un, .un, .un]) := e
    have k := kinds_ok (.bo (.int s)) .un .un .un M M [] rfl
    rw [← hK] at k
    have k : compG (Et (Ce (Ep 5) (Ce (Ep 6) Es))) c1_Crowd_lots e1_Crowd_lots [.bo (crD M), .bo (.int s), .un, .un, .un, .un, .un, .un] (enumD 0 (M.map D.int)) = some (K.map D.int) := k
    refine (gSeq_nx (ρ' := [.bo (crD M), .bo (.int s), .sh (.lst (K.map D.int)), .un, .un, .un, .un, .un]) ?_).trans ((gSeq_nx (ρ' := [.bo (crD M), .bo (.int s), .sh (.lst (K.map D.int)), .sh (.lst [.tup []]), .un, .un, .un, .un]) ?_).trans (gSeq_nx ?_))
    · simp [Ci,Ca,Bb,Bd,Cw,Fd,Cy,Cf,Bf,Bk,Fe,Ee,Bl,Fg,Aj,El,Be,frz,Ez,Ac,Ba,fC,DL.M.bnd,Aa,Ay,Bc,Az,Fb,Cc,Em,Ff,Cz,Bg,Eo,Bj,Fi,Ck,Ea,Fc,Ed,Cd,up1,Eg,Ek,put,Ec,Cq,Eb,Kd.fr,Eh,D.isMut,Ep,Ah,Fh,Bi,Ef,Bm,Bn,D.len,D.list,D.tupl,rng1,rng2,Ak,Al,Am,An,Ai,Ao,Ae,Bo,Bp,Bq,Br,Bs,D.isN,D.isNot,Ei,ixL,Ad,Af,LIM,Ej,Out.upE,Ag,Cr,s1_Crowd_lots,fLc,Cl,f1,Cb,k,limL_ok hlenK]
    · simp [Ci,Ca,Bb,Bd,Cw,Fd,Cy,Cf,Bf,Bk,Fe,Ee,Bl,Fg,Aj,El,Be,frz,Ez,Ac,Ba,fC,DL.M.bnd,Aa,Ay,Bc,Az,Fb,Cc,Em,Ff,Cz,Bg,Eo,Bj,Fi,Ck,Ea,Fc,Ed,Cd,up1,Eg,Ek,put,Ec,Cq,Eb,Kd.fr,Eh,D.isMut,Ep,Ah,Fh,Bi,Ef,Bm,Bn,D.len,D.list,D.tupl,rng1,rng2,Ak,Al,Am,An,Ai,Ao,Ae,Bo,Bp,Bq,Br,Bs,D.isN,D.isNot,Ei,ixL,Ad,Af,LIM,Ej,Out.upE,Ag,Cr,s2_Crowd_lots]
    · simp [Ci,Ca,Bb,Bd,Cw,Fd,Cy,Cf,Bf,Bk,Fe,Ee,Bl,Fg,Aj,El,Be,frz,Ez,Ac,Ba,fC,DL.M.bnd,Aa,Ay,Bc,Az,Fb,Cc,Em,Ff,Cz,Bg,Eo,Bj,Fi,Ck,Ea,Fc,Ed,Cd,up1,Eg,Ek,put,Ec,Cq,Eb,Kd.fr,Eh,D.isMut,Ep,Ah,Fh,Bi,Ef,Bm,Bn,D.len,D.list,D.tupl,rng1,rng2,Ak,Al,Am,An,Ai,Ao,Ae,Bo,Bp,Bq,Br,Bs,D.isN,D.isNot,Ei,ixL,Ad,Af,LIM,Ej,Out.upE,Ag,Cr,s3_Crowd_lots,hs1,hs2,e]
  have key : ∀ q : Sl, compG (Ep 7) Cd e3_Crowd_lots [.bo (crD M), .bo (.int s), .sh (.lst (K.map D.int)), q, q4, .un, .un, .un] ([M].map encR) = some ([M].map crD) := fun q =>
    compG_all encR crD [M] fun row hrow => by
      rw [List.mem_singleton.mp hrow]
      have h1 := init_ok M h0 (by omega) true
      rw [srt_id asc] at h1
      have h1 : Fn_Crowd___init__ [.obj 0 [], .tup (M.map D.int)] = some (.ret true .non [.obj 0 [.tup (M.map D.int)]]) := h1
      exact ⟨[.bo (crD M), .bo (.int s), .sh (.lst (K.map D.int)), q, q4, .un, .un, .sh (encR M)], by simp [Ci,Ca,Bb,Bd,Cw,Fd,Cy,Cf,Bf,Bk,Fe,Ee,Bl,Fg,Aj,El,Be,frz,Ez,Ac,Ba,fC,DL.M.bnd,Aa,Ay,Bc,Az,Fb,Cc,Em,Ff,Cz,Bg,Eo,Bj,Fi,Ck,Ea,Fc,Ed,Cd,up1,Eg,Ek,put,Ec,Cq,Eb,Kd.fr,Eh,D.isMut,Ep,Ah,Fh,Bi,Ef,Bm,Bn,D.len,D.list,D.tupl,rng1,rng2,Ak,Al,Am,An,Ai,Ao,Ae,Bo,Bp,Bq,Br,Bs,D.isN,D.isNot,Ei,ixL,Ad,Af,LIM,Ej,Out.upE,Ag,Cr], by simp [Ci,Ca,Bb,Bd,Cw,Fd,Cy,Cf,Bf,Bk,Fe,Ee,Bl,Fg,Aj,El,Be,frz,Ez,Ac,Ba,fC,DL.M.bnd,Aa,Ay,Bc,Az,Fb,Cc,Em,Ff,Cz,Bg,Eo,Bj,Fi,Ck,Ea,Fc,Ed,Cd,up1,Eg,Ek,put,Ec,Cq,Eb,Kd.fr,Eh,D.isMut,Ep,Ah,Fh,Bi,Ef,Bm,Bn,D.len,D.list,D.tupl,rng1,rng2,Ak,Al,Am,An,Ai,Ao,Ae,Bo,Bp,Bq,Br,Bs,D.isN,D.isNot,Ei,ixL,Ad,Af,LIM,Ej,Out.upE,Ag,Cr,e3_Crowd_lots,fMk,h1,Ev,crD]⟩
  have key : ∀ q : Sl, compG (Ep 7) Cd e3_Crowd_lots [.bo (crD M), .bo (.int s), .sh (.lst (K.map D.int)), q, q4, .un, .un, .un] [encR M] = some [crD M] := key
  have hn' : ([crD M] : List D).length ≤ 16000000 := by rw [List.length_singleton]; omega
  show Cq _ (r1_Crowd_lots [.bo (crD M), .bo (.int s), .un, .un, .un, .un, .un, .un]) = _
  rw [a1]
  rcases hq3 with rfl | rfl <;> simp [Ci,Ca,Bb,Bd,Cw,Fd,Cy,Cf,Bf,Bk,Fe,Ee,Bl,Fg,Aj,El,Be,frz,Ez,Ac,Ba,fC,DL.M.bnd,Aa,Ay,Bc,Az,Fb,Cc,Em,Ff,Cz,Bg,Eo,Bj,Fi,Ck,Ea,Fc,Ed,Cd,up1,Eg,Ek,put,Ec,Cq,Eb,Kd.fr,Eh,D.isMut,Ep,Ah,Fh,Bi,Ef,Bm,Bn,D.len,D.list,D.tupl,rng1,rng2,Ak,Al,Am,An,Ai,Ao,Ae,Bo,Bp,Bq,Br,Bs,D.isN,D.isNot,Ei,ixL,Ad,Af,LIM,Ej,Out.upE,Ag,Cr,r4_Crowd_lots,s4_Crowd_lots,fLc,Cb,key,limL_ok hn']
theorem admits_own (w : Nat) (N : List Cfg) (st : Int) (M : List Int) (asc : M.Pairwise (· ≤ ·)) (h0 : ∀ x ∈ M, 0 ≤ x) (hw : M.length = w) (hl : w ≤ 4) :
    Fn_Notes_admits [ntD w N, .int st, crD M] = some (.ret true (.bl (decide ((st, M) ∈ N))) []) := by
  have hcl := len_crD M
  rw [hw] at hcl
  have f0 := fld_n0 w N
  have is3 := isN w N
  have lo := lots_own M asc h0 (by omega)
  rw [hw] at lo
  have nin := notes_in w N
  obtain ⟨nt, hnt⟩ : ∃ nt, nt = ntD w N := ⟨_, rfl⟩
  rw [← hnt] at f0 is3 nin ⊢
  have nin : Fn_Notes___contains__ [nt, .tup [.int st, crD M]] = some (.ret true (.bl (decide ((st, M) ∈ N))) []) := nin (st, M)
  have c2 : compG (Ep 4) Cd e2_Notes_admits [.bo (nt), .bo (.int st), .bo (crD M), .un, .un] ([M].map crD) = some ([M].map fun R => D.bl (decide ((st, M) ∈ N))) :=
    compG_all (h := (Ep 4)) (fe := e2_Notes_admits) (ρ := [.bo (nt), .bo (.int st), .bo (crD M), .un, .un]) crD (fun R => D.bl (decide ((st, M) ∈ N))) [M] fun R hR => by
      rw [List.mem_singleton.mp hR]
      exact ⟨[.bo (nt), .bo (.int st), .bo (crD M), .un, .sh (crD M)], by simp [Ci,Ca,Bb,Bd,Cw,Fd,Cy,Cf,Bf,Bk,Fe,Ee,Bl,Fg,Aj,El,Be,frz,Ez,Ac,Ba,fC,DL.M.bnd,Aa,Ay,Bc,Az,Fb,Cc,Em,Ff,Cz,Bg,Eo,Bj,Fi,Ck,Ea,Fc,Ed,Cd,up1,Eg,Ek,Bt,Ab,Ap,Aq,Ar,Au,Av,Aw,Ec,Cq,Eb,Kd.fr,Eh,D.isMut,Ep,Ah,Fh,Bi,Ef,Bm,Bn,D.len,D.list,D.tupl,Ak,Al,Am,An,Ai,Ao,Ae,Bo,Bp,Bq,Br,Bs,D.isN,D.isNot,Ei,ix_l,ix_t,ix_s,Ad,Af,LIM,Ej,Out.upE,Ag,Cr,Et,Ce,Es,Co,Ew,Ex,Cu,Cs,fMe,fMk,Ev,fIk,Cl,D.addI,D.subI,Er,fSl,Cj,slD,Cm,gBk,gCt,fLc,Cb,Ey,fCv,Cg,Bh,Ax,Cv,Ch,isO,only,Eu,at_0,at_1,at_2,at_3,Bu,isO,Bv,Bw,Bx,Bz,isP,Cp,D.isB,D.isNotB], by simp [Ci,Ca,Bb,Bd,Cw,Fd,Cy,Cf,Bf,Bk,Fe,Ee,Bl,Fg,Aj,El,Be,frz,Ez,Ac,Ba,fC,DL.M.bnd,Aa,Ay,Bc,Az,Fb,Cc,Em,Ff,Cz,Bg,Eo,Bj,Fi,Ck,Ea,Fc,Ed,Cd,up1,Eg,Ek,Bt,Ab,Ap,Aq,Ar,Au,Av,Aw,Ec,Cq,Eb,Kd.fr,Eh,D.isMut,Ep,Ah,Fh,Bi,Ef,Bm,Bn,D.len,D.list,D.tupl,Ak,Al,Am,An,Ai,Ao,Ae,Bo,Bp,Bq,Br,Bs,D.isN,D.isNot,Ei,ix_l,ix_t,ix_s,Ad,Af,LIM,Ej,Out.upE,Ag,Cr,Et,Ce,Es,Co,Ew,Ex,Cu,Cs,fMe,fMk,Ev,fIk,Cl,D.addI,D.subI,Er,fSl,Cj,slD,Cm,gBk,gCt,fLc,Cb,Ey,fCv,Cg,Bh,Ax,Cv,Ch,isO,only,Eu,at_0,at_1,at_2,at_3,Bu,isO,Bv,Bw,Bx,Bz,isP,Cp,D.isB,D.isNotB,e2_Notes_admits,Ch,is3,nin,only,Eu]⟩
  obtain ⟨b, hb⟩ : ∃ b, b = decide ((st, M) ∈ N) := ⟨_, rfl⟩
  rw [← hb] at c2 ⊢
  have c2 : compG (Ep 4) Cd e2_Notes_admits [.bo (nt), .bo (.int st), .bo (crD M), .un, .un] [crD M] = some [.bl b] := c2
  have al : D.allL [.lst [.bl b]] = some (.bl b) := by cases b <;> rfl
  have hM16 : ((w : Nat) : Int) ≤ 16000000 := by omega
  have h' : ¬ ((w : Nat) : Int) < (w : Nat) := by omega
  show Cq _ (r1_Notes_admits [.bo (nt), .bo (.int st), .bo (crD M), .un, .un]) = _
  have e1 : r1_Notes_admits [.bo (nt), .bo (.int st), .bo (crD M), .un, .un] = r2_Notes_admits [.bo (nt), .bo (.int st), .bo (crD M), .un, .un] := gSeq_nx (by
      simp [Ci,Ca,Bb,Bd,Cw,Fd,Cy,Cf,Bf,Bk,Fe,Ee,Bl,Fg,Aj,El,Be,frz,Ez,Ac,Ba,fC,DL.M.bnd,Aa,Ay,Bc,Az,Fb,Cc,Em,Ff,Cz,Bg,Eo,Bj,Fi,Ck,Ea,Fc,Ed,Cd,up1,Eg,Ek,Bt,Ab,Ap,Aq,Ar,Au,Av,Aw,Ec,Cq,Eb,Kd.fr,Eh,D.isMut,Ep,Ah,Fh,Bi,Ef,Bm,Bn,D.len,D.list,D.tupl,Ak,Al,Am,An,Ai,Ao,Ae,Bo,Bp,Bq,Br,Bs,D.isN,D.isNot,Ei,ix_l,ix_t,ix_s,Ad,Af,LIM,Ej,Out.upE,Ag,Cr,Et,Ce,Es,Co,Ew,Ex,Cu,Cs,fMe,fMk,Ev,fIk,Cl,D.addI,D.subI,Er,fSl,Cj,slD,Cm,gBk,gCt,fLc,Cb,Ey,fCv,Cg,Bh,Ax,Cv,Ch,isO,only,Eu,at_0,at_1,at_2,at_3,Bu,isO,Bv,Bw,Bx,Bz,isP,Cp,D.isB,D.isNotB,s1_Notes_admits,opLenO,hcl,okLen,hM16,f0,h'])
  rw [e1]
  have n2 : ([D.bl b] : List D).length ≤ 16000000 := by rw [List.length_singleton]; decide
  simp [Ci,Ca,Bb,Bd,Cw,Fd,Cy,Cf,Bf,Bk,Fe,Ee,Bl,Fg,Aj,El,Be,frz,Ez,Ac,Ba,fC,DL.M.bnd,Aa,Ay,Bc,Az,Fb,Cc,Em,Ff,Cz,Bg,Eo,Bj,Fi,Ck,Ea,Fc,Ed,Cd,up1,Eg,Ek,Bt,Ab,Ap,Aq,Ar,Au,Av,Aw,Ec,Cq,Eb,Kd.fr,Eh,D.isMut,Ep,Ah,Fh,Bi,Ef,Bm,Bn,D.len,D.list,D.tupl,Ak,Al,Am,An,Ai,Ao,Ae,Bo,Bp,Bq,Br,Bs,D.isN,D.isNot,Ei,ix_l,ix_t,ix_s,Ad,Af,LIM,Ej,Out.upE,Ag,Cr,Et,Ce,Es,Co,Ew,Ex,Cu,Cs,fMe,fMk,Ev,fIk,Cl,D.addI,D.subI,Er,fSl,Cj,slD,Cm,gBk,gCt,fLc,Cb,Ey,fCv,Cg,Bh,Ax,Cv,Ch,isO,only,Eu,at_0,at_1,at_2,at_3,Bu,isO,Bv,Bw,Bx,Bz,isP,Cp,D.isB,D.isNotB,r2_Notes_admits,s2_Notes_admits,f0,lo,c2,limL_ok n2,al]
theorem fld_b0 (m : List Int) (st : Option (List Int)) : fldD 2 0 (bnD m st) = some (crD m) := rfl
theorem lets_own (w : Nat) (N : List Cfg) (st : Int) (M : List Int) (asc : M.Pairwise (· ≤ ·)) (h0 : ∀ x ∈ M, 0 ≤ x) (hw : M.length = w) (hl : w ≤ 4) :
    Fn_Notes_lets [ntD w N, bnD M (some [st])] = some (.ret true (.bl (decide ((st, M) ∈ N))) []) := by
  have ad := admits_own w N st M asc h0 hw hl
  have isn := isN w N
  have b0 := fld_b0 M (some [st])
  have b1 : fldD 2 1 (bnD M (some [st])) = some (.tup [.int st]) := rfl
  obtain ⟨nt, hnt⟩ : ∃ nt, nt = ntD w N := ⟨_, rfl⟩
  obtain ⟨bn, hbn⟩ : ∃ bn, bn = bnD M (some [st]) := ⟨_, rfl⟩
  obtain ⟨b, hb⟩ : ∃ b, b = decide ((st, M) ∈ N) := ⟨_, rfl⟩
  rw [← hnt] at ad isn ⊢
  rw [← hbn] at b0 b1 ⊢
  rw [← hb] at ad ⊢
  have c2 : ∀ (q2 : Sl), compG (Ep 3) Cd e2_Notes_lets [.bo (nt), .bo (bn), q2, .un] ([st].map D.int) = some ([st].map fun s => D.bl b) := fun q2 =>
    compG_all (h := (Ep 3)) (fe := e2_Notes_lets) (ρ := [.bo (nt), .bo (bn), q2, .un]) D.int (fun s => D.bl b) [st] fun s hs => by
      rw [List.mem_singleton.mp hs]
      exact ⟨[.bo (nt), .bo (bn), q2, .sh (.int st)], by simp [Ci,Ca,Bb,Bd,Cw,Fd,Cy,Cf,Bf,Bk,Fe,Ee,Bl,Fg,Aj,El,Be,frz,Ez,Ac,Ba,fC,DL.M.bnd,Aa,Ay,Bc,Az,Fb,Cc,Em,Ff,Cz,Bg,Eo,Bj,Fi,Ck,Ea,Fc,Ed,Cd,up1,Eg,Ek,Bt,Ab,Ap,Aq,Ar,Au,Av,Aw,Ec,Cq,Eb,Kd.fr,Eh,D.isMut,Ep,Ah,Fh,Bi,Ef,Bm,Bn,D.len,D.list,D.tupl,Ak,Al,Am,An,Ai,Ao,Ae,Bo,Bp,Bq,Br,Bs,D.isN,D.isNot,Ei,ix_l,ix_t,ix_s,Ad,Af,LIM,Ej,Out.upE,Ag,Cr,Et,Ce,Es,Co,Ew,Ex,Cu,Cs,fMe,fMk,Ev,fIk,Cl,D.addI,D.subI,Er,fSl,Cj,slD,Cm,gBk,gCt,fLc,Cb,Ey,fCv,Cg,Bh,Ax,Cv,Ch,isO,only,Eu,at_0,at_1,at_2,at_3,Bu,isO,Bv,Bw,Bx,Bz,isP,Cp,D.isB,D.isNotB], by simp [Ci,Ca,Bb,Bd,Cw,Fd,Cy,Cf,Bf,Bk,Fe,Ee,Bl,Fg,Aj,El,Be,frz,Ez,Ac,Ba,fC,DL.M.bnd,Aa,Ay,Bc,Az,Fb,Cc,Em,Ff,Cz,Bg,Eo,Bj,Fi,Ck,Ea,Fc,Ed,Cd,up1,Eg,Ek,Bt,Ab,Ap,Aq,Ar,Au,Av,Aw,Ec,Cq,Eb,Kd.fr,Eh,D.isMut,Ep,Ah,Fh,Bi,Ef,Bm,Bn,D.len,D.list,D.tupl,Ak,Al,Am,An,Ai,Ao,Ae,Bo,Bp,Bq,Br,Bs,D.isN,D.isNot,Ei,ix_l,ix_t,ix_s,Ad,Af,LIM,Ej,Out.upE,Ag,Cr,Et,Ce,Es,Co,Ew,Ex,Cu,Cs,fMe,fMk,Ev,fIk,Cl,D.addI,D.subI,Er,fSl,Cj,slD,Cm,gBk,gCt,fLc,Cb,Ey,fCv,Cg,Bh,Ax,Cv,Ch,isO,only,Eu,at_0,at_1,at_2,at_3,Bu,isO,Bv,Bw,Bx,Bz,isP,Cp,D.isB,D.isNotB,e2_Notes_lets,fMe,isn,b0,ad]⟩
  have c2 : ∀ (q2 : Sl), compG (Ep 3) Cd e2_Notes_lets [.bo (nt), .bo (bn), q2, .un] [.int st] = some [.bl b] := c2
  have c2 := c2 (.sh (.tup [.int st]))
  have an : D.anyL [.lst [.bl b]] = some (.bl b) := by cases b <;> rfl
  show Cq _ (r1_Notes_lets [.bo (nt), .bo (bn), .un, .un]) = _
  have e1 : r1_Notes_lets [.bo (nt), .bo (bn), .un, .un] = r3_Notes_lets [.bo (nt), .bo (bn), .sh (.tup [.int st]), .un] := by
    refine ((gSeq_nx (ρ' := [.bo (nt), .bo (bn), .sh (.tup [.int st]), .un]) ?_).trans (gSeq_nx ?_))
    · simp [Ci,Ca,Bb,Bd,Cw,Fd,Cy,Cf,Bf,Bk,Fe,Ee,Bl,Fg,Aj,El,Be,frz,Ez,Ac,Ba,fC,DL.M.bnd,Aa,Ay,Bc,Az,Fb,Cc,Em,Ff,Cz,Bg,Eo,Bj,Fi,Ck,Ea,Fc,Ed,Cd,up1,Eg,Ek,Bt,Ab,Ap,Aq,Ar,Au,Av,Aw,Ec,Cq,Eb,Kd.fr,Eh,D.isMut,Ep,Ah,Fh,Bi,Ef,Bm,Bn,D.len,D.list,D.tupl,Ak,Al,Am,An,Ai,Ao,Ae,Bo,Bp,Bq,Br,Bs,D.isN,D.isNot,Ei,ix_l,ix_t,ix_s,Ad,Af,LIM,Ej,Out.upE,Ag,Cr,Et,Ce,Es,Co,Ew,Ex,Cu,Cs,fMe,fMk,Ev,fIk,Cl,D.addI,D.subI,Er,fSl,Cj,slD,Cm,gBk,gCt,fLc,Cb,Ey,fCv,Cg,Bh,Ax,Cv,Ch,isO,only,Eu,at_0,at_1,at_2,at_3,Bu,isO,Bv,Bw,Bx,Bz,isP,Cp,D.isB,D.isNotB,s1_Notes_lets,b1]
    · simp [Ci,Ca,Bb,Bd,Cw,Fd,Cy,Cf,Bf,Bk,Fe,Ee,Bl,Fg,Aj,El,Be,frz,Ez,Ac,Ba,fC,DL.M.bnd,Aa,Ay,Bc,Az,Fb,Cc,Em,Ff,Cz,Bg,Eo,Bj,Fi,Ck,Ea,Fc,Ed,Cd,up1,Eg,Ek,Bt,Ab,Ap,Aq,Ar,Au,Av,Aw,Ec,Cq,Eb,Kd.fr,Eh,D.isMut,Ep,Ah,Fh,Bi,Ef,Bm,Bn,D.len,D.list,D.tupl,Ak,Al,Am,An,Ai,Ao,Ae,Bo,Bp,Bq,Br,Bs,D.isN,D.isNot,Ei,ix_l,ix_t,ix_s,Ad,Af,LIM,Ej,Out.upE,Ag,Cr,Et,Ce,Es,Co,Ew,Ex,Cu,Cs,fMe,fMk,Ev,fIk,Cl,D.addI,D.subI,Er,fSl,Cj,slD,Cm,gBk,gCt,fLc,Cb,Ey,fCv,Cg,Bh,Ax,Cv,Ch,isO,only,Eu,at_0,at_1,at_2,at_3,Bu,isO,Bv,Bw,Bx,Bz,isP,Cp,D.isB,D.isNotB,s2_Notes_lets,Ei]
  rw [e1]
  have n2 : ([D.bl b] : List D).length ≤ 16000000 := by rw [List.length_singleton]; decide
  simp [Ci,Ca,Bb,Bd,Cw,Fd,Cy,Cf,Bf,Bk,Fe,Ee,Bl,Fg,Aj,El,Be,frz,Ez,Ac,Ba,fC,DL.M.bnd,Aa,Ay,Bc,Az,Fb,Cc,Em,Ff,Cz,Bg,Eo,Bj,Fi,Ck,Ea,Fc,Ed,Cd,up1,Eg,Ek,Bt,Ab,Ap,Aq,Ar,Au,Av,Aw,Ec,Cq,Eb,Kd.fr,Eh,D.isMut,Ep,Ah,Fh,Bi,Ef,Bm,Bn,D.len,D.list,D.tupl,Ak,Al,Am,An,Ai,Ao,Ae,Bo,Bp,Bq,Br,Bs,D.isN,D.isNot,Ei,ix_l,ix_t,ix_s,Ad,Af,LIM,Ej,Out.upE,Ag,Cr,Et,Ce,Es,Co,Ew,Ex,Cu,Cs,fMe,fMk,Ev,fIk,Cl,D.addI,D.subI,Er,fSl,Cj,slD,Cm,gBk,gCt,fLc,Cb,Ey,fCv,Cg,Bh,Ax,Cv,Ch,isO,only,Eu,at_0,at_1,at_2,at_3,Bu,isO,Bv,Bw,Bx,Bz,isP,Cp,D.isB,D.isNotB,r3_Notes_lets,s3_Notes_lets,c2,limL_ok n2,an]
end DL
namespace DL
open PySem PySem.Spec L2
theorem EqR.str (s : Str) (h : PyData.strOk s = true) : EqR 1 (.str s) := ⟨.str s, by unfold toP; rfl, by unfold PyData.canLay0; exact h, by unfold PyData.depth; omega, by
  unfold PyData.eqv
  first | exact beq_self_eq_true s | exact decide_eq_true rfl | simp⟩
def txI (i : Int) : D := .str (toString i)
theorem str1_ok (i : Int) (h : i.natAbs < 10 ^ 42) : D.str1 [.int i] = some (txI i) := by
  have hz : i.natAbs.log2 < 1920 := by
    by_cases h0 : i.natAbs = 0
    · rw [h0]; decide
    · exact (Nat.log2_lt h0).mpr (Nat.lt_trans h (by decide))
  show (if i.natAbs.log2 < 1920 then some (D.str (toString i)) else none) = _
  rw [if_pos hz]
  rfl
theorem tx_len (i : Int) (h : i.natAbs < 10 ^ 42) : (Str.ofString (toString i)).length ≤ 43 := by
  have := int_text_length_le10 (a := i) (k := 42) (by decide) h
  rw [Str.ofString_eq_toList]
  show ((toString i).toList.map Char.toNat).toArray.size ≤ 43
  rw [List.size_toArray, List.length_map, String.length_toList]
  exact this
def joinT (l : List Int) : Str := Txt.join (Str.ofString " ") (l.map fun i => Str.ofString (toString i))
theorem sum_le (l : List Int) (h : ∀ x ∈ l, x.natAbs < 10 ^ 42) : ((l.map fun i => Str.ofString (toString i)).map (·.length)).sum ≤ 43 * l.length := by
  induction l with
  | nil => simp
  | cons a l ih =>
    rw [List.map_cons, List.map_cons, List.sum_cons, List.length_cons]
    have h1 := tx_len a (h a List.mem_cons_self)
    have h2 := ih fun x hx => h x (List.mem_cons_of_mem _ hx)
    omega
theorem joinD_ok (l : List Int) (h : ∀ x ∈ l, x.natAbs < 10 ^ 42) (hl : l.length ≤ 1000) : joinD (.str " ") (.lst (l.map txI)) = some (.str (joinT l)) := by
  have e : l.map txI = (l.map fun i => Str.ofString (toString i)).map D.str := by
    rw [List.map_map]
    rfl
  have e1 : (Str.ofString " ").length = 1 := by decide +kernel
  rw [e]
  show ((strs? ((l.map fun i => Str.ofString (toString i)).map D.str)).bind fun ys => if (ys.map (·.length)).sum + ys.length * (Str.ofString " ").length ≤ 16777216 then some (D.str (Txt.join (Str.ofString " ") ys)) else none) = _
  rw [strs?_map, Option.bind_some, if_pos]
  · rfl
  · have := sum_le l h
    rw [List.length_map, e1]
    omega
theorem jL_ok (p : Nat → Bool) (S : List Nat) (hS : S.all p = true) : ∀ l : List (List Nat), (∀ x ∈ l, x.all p = true) → (TL.joinL S l).all p = true
  | [], _ => rfl
  | [x], h => h x List.mem_cons_self
  | x :: y :: r, h => by
    show (x ++ (S ++ TL.joinL S (y :: r))).all p = true
    rw [List.all_append, List.all_append, h x List.mem_cons_self, hS, jL_ok p S hS (y :: r) fun z hz => h z (List.mem_cons_of_mem _ hz)]
    rfl
theorem joinT_str (l : List Int) : PyData.strOk (joinT l) = true := by
  have e1 : joinT l = Str.join (Str.ofString " ") (l.map fun i => Str.ofString (toString i)) := TL.join_eq _ _
  unfold PyData.strOk
  rw [e1, ← Array.all_toList]
  show (TL.tl (Str.join (Str.ofString " ") (l.map fun i => Str.ofString (toString i)))).all (fun x => decide (x < 0x110000)) = true
  rw [TL.tl_join]
  refine jL_ok _ _ (by decide +kernel) _ fun x hx => ?_
  obtain ⟨s, hs, rfl⟩ := List.mem_map.mp hx
  obtain ⟨i, _, rfl⟩ := List.mem_map.mp hs
  rw [List.all_eq_true]
  intro c hc
  rw [Str.ofString_eq_toList] at hc
  have hc : c ∈ (toString i).toList.map Char.toNat := hc
  obtain ⟨ch, h1, rfl⟩ := List.mem_map.mp hc
  have := int_ascii i ch h1
  exact decide_eq_true (by omega)
theorem str_ok (a : List Int) (h : ∀ x ∈ a, x.natAbs < 10 ^ 42) (hl : a.length ≤ 1000) : Fn_Crowd___str__ [crD a] = some (.ret true (.str (joinT a)) []) := by
  have f1 : fldD 0 0 (crD a) = some (.tup (a.map D.int)) := rfl
  have c1 : compG (Ep 1) Cd e1_Crowd___str__ [.bo (crD a), .un] (a.map D.int) = some (a.map txI) :=
    compG_all D.int txI a fun x hx => ⟨[.bo (crD a), .sh (.int x)], by simp [Ci,Ca,Bb,Bd,Cw,Fd,Cy,Cf,Bf,Bk,Fe,Ee,Bl,Fg,Aj,El,Be,frz,Ez,Ac,Ba,fC,DL.M.bnd,Aa,Ay,Bc,Az,Fb,Cc,Em,Ff,Cz,Bg,Eo,Bj,Fi,Ck,Ea,Fc,Ed,Cd,up1,Eg,Ek,put,Ec,Cq,Eb,Kd.fr,Eh,D.isMut,Ep,Ah,Fh,Bi,Ef,Bm,Bn,D.len,D.list,D.tupl,rng1,rng2,Ak,Al,Am,An,Ai,Ao,Ae,Bo,Bp,Bq,Br,Bs,D.isN,D.isNot,Ei,ixL,Ad,Af,LIM,Ej,Out.upE,Ag,Cr], by simp [Ci,Ca,Bb,Bd,Cw,Fd,Cy,Cf,Bf,Bk,Fe,Ee,Bl,Fg,Aj,El,Be,frz,Ez,Ac,Ba,fC,DL.M.bnd,Aa,Ay,Bc,Az,Fb,Cc,Em,Ff,Cz,Bg,Eo,Bj,Fi,Ck,Ea,Fc,Ed,Cd,up1,Eg,Ek,put,Ec,Cq,Eb,Kd.fr,Eh,D.isMut,Ep,Ah,Fh,Bi,Ef,Bm,Bn,D.len,D.list,D.tupl,rng1,rng2,Ak,Al,Am,An,Ai,Ao,Ae,Bo,Bp,Bq,Br,Bs,D.isN,D.isNot,Ei,ixL,Ad,Af,LIM,Ej,Out.upE,Ag,Cr,e1_Crowd___str__,str1_ok x (h x hx)]⟩
  have n1 : (a.map txI).length ≤ 16000000 := by rw [List.length_map]; omega
  have j1 := joinD_ok a h hl
  simp [Ci,Ca,Bb,Bd,Cw,Fd,Cy,Cf,Bf,Bk,Fe,Ee,Bl,Fg,Aj,El,Be,frz,Ez,Ac,Ba,fC,DL.M.bnd,Aa,Ay,Bc,Az,Fb,Cc,Em,Ff,Cz,Bg,Eo,Bj,Fi,Ck,Ea,Fc,Ed,Cd,up1,Eg,Ek,put,Ec,Cq,Eb,Kd.fr,Eh,D.isMut,Ep,Ah,Fh,Bi,Ef,Bm,Bn,D.len,D.list,D.tupl,rng1,rng2,Ak,Al,Am,An,Ai,Ao,Ae,Bo,Bp,Bq,Br,Bs,D.isN,D.isNot,Ei,ixL,Ad,Af,LIM,Ej,Out.upE,Ag,Cr,Fn_Crowd___str__,g_Crowd___str__,r1_Crowd___str__,s1_Crowd___str__,fJoin,fLc,f1,Cb,c1,limL_ok n1,j1]
theorem len_app (a b : Str) : (a ++ b).length = a.length + b.length := by
  show (a ++ b).cps.size = _
  rw [Str.cps_append, Array.size_append]
  rfl
theorem ok_app (a b : Str) : PyData.strOk (a ++ b) = (PyData.strOk a && PyData.strOk b) := by
  unfold PyData.strOk
  rw [Str.cps_append, Array.all_append]
def bl_ (n : Nat) : Str := ⟨Array.replicate n 32⟩
theorem blk_eq (n : Int) (h : -1000 ≤ n ∧ n ≤ 1000) : blk n = bl_ n.toNat := by
  unfold blk Txt.mul bl_
  by_cases h1 : n < 1
  · rw [if_pos h1, show n.toNat = 0 by omega]
    rfl
  · rw [if_neg h1]
    by_cases h2 : n = 1
    · rw [h2]
      rfl
    · have e1 : (n == 1 || (" " : Str).length == 0) = false := by
        have : (n == 1) = false := by simpa using h2
        rw [this]
        rfl
      rw [e1, if_neg Bool.false_ne_true]
      have : ∀ (m : Nat) (acc : Array Nat), (List.replicate m (" " : Str).cps).foldl (· ++ ·) acc = acc ++ Array.replicate m 32 := by
        intro m
        induction m with
        | zero => intro acc; simp
        | succ m ih =>
          intro acc
          rw [List.replicate_succ, List.foldl_cons, ih, Array.append_assoc]
          congr 1
          have e : (" " : Str).cps = #[32] := rfl
          rw [e]
          apply Array.ext'
          simp [List.replicate_succ]
      rw [this]
      simp
theorem ok_bl (n : Nat) : PyData.strOk (bl_ n) = true := by
  unfold PyData.strOk bl_
  rw [← Array.all_toList, Array.toList_replicate, List.all_eq_true]
  intro c hc
  rw [List.eq_of_mem_replicate hc]
  decide
theorem len_bl (n : Nat) : (bl_ n).length = n := by
  show (Array.replicate n 32).size = n
  rw [Array.size_replicate]
theorem txt8_eq (y : Str) : txt8 y = y ++ bl_ (8 - y.length) := by
  unfold txt8
  by_cases h : 8 ≤ y.length
  · rw [if_pos h, show 8 - y.length = 0 by omega]
    exact (Str.append_empty y).symm
  · rw [if_neg h]
    refine Str.ext' ?_
    rw [Str.cps_append]
    unfold Builtin.Str.padded bl_
    simp
theorem txt3_all : ∀ n : Fin 48, txt3 (n.val : Int) = bl_ (3 - (Str.ofString (toString (n.val : Int))).length) ++ Str.ofString (toString (n.val : Int)) := by decide +kernel
theorem txt3_eq {a : Int} (h0 : 0 ≤ a) (h1 : a < 48) : txt3 a = bl_ (3 - (Str.ofString (toString a)).length) ++ Str.ofString (toString a) := by
  obtain ⟨n, rfl⟩ := Int.eq_ofNat_of_zero_le h0
  exact txt3_all ⟨n, by omega⟩
theorem ok_num (a : Int) : PyData.strOk (Str.ofString (toString a)) = true := by
  unfold PyData.strOk
  rw [Str.ofString_eq_toList, ← Array.all_toList, List.all_eq_true]
  intro c hc
  have hc : c ∈ (toString a).toList.map Char.toNat := hc
  obtain ⟨ch, h1, rfl⟩ := List.mem_map.mp hc
  have := int_ascii a ch h1
  exact decide_eq_true (by omega)
def ltS (c : Cfg) : Str := bl_ (3 - (Str.ofString (toString c.1)).length) ++ Str.ofString (toString c.1) ++ " | " ++ joinT c.2 ++ bl_ (8 - (joinT c.2).length) ++ "|"
def ltD (c : Cfg) : D := .str (ltS c)
structure Row12 (w : Nat) (c : Cfg) : Prop where
  s0 : 0 ≤ c.1
  s1 : c.1 < 48
  len : c.2.length = w
  asc : c.2.Pairwise (· ≤ ·)
  mem : ∀ x ∈ c.2, 0 ≤ x ∧ x < 1000
theorem joinT_len {w : Nat} (hw : w ≤ 4) {c : Cfg} (h : Row12 w c) : (joinT c.2).length ≤ 200 := by
  have h1 := StrLaws.join_length_le (Str.ofString " ") (c.2.map fun i => Str.ofString (toString i))
  have e : joinT c.2 = Str.join (Str.ofString " ") (c.2.map fun i => Str.ofString (toString i)) := TL.join_eq _ _
  rw [e]
  have h2 := sum_le c.2 fun x hx => by
    have := h.mem x hx
    have h3 : x.natAbs < 1000 := by omega
    exact Nat.lt_of_lt_of_le h3 (by decide)
  have e1 : (Str.ofString " ").length = 1 := by decide +kernel
  rw [e1, List.length_map] at h1
  have := h.len
  omega
theorem num_len {w : Nat} {c : Cfg} (h : Row12 w c) : (Str.ofString (toString c.1)).length ≤ 43 := tx_len c.1 (by
  have := h.s0
  have := h.s1
  have h3 : c.1.natAbs < 1000 := by omega
  exact Nat.lt_of_lt_of_le h3 (by decide))
theorem ltS_ok (c : Cfg) : PyData.strOk (ltS c) = true := by
  unfold ltS
  rw [ok_app, ok_app, ok_app, ok_app, ok_app, ok_bl, ok_num, joinT_str, ok_bl]
  decide +kernel
theorem eqr_lines (N : List Cfg) : EqR 2 (.lst (N.map ltD)) := EqR.lst fun d hd => by
  obtain ⟨c, _, rfl⟩ := List.mem_map.mp hd
  exact EqR.str _ (ltS_ok c)
theorem line_eq {w : Nat} (hw : w ≤ 4) {c : Cfg} (h : Row12 w c) : Str.empty ++ txt3 c.1 ++ " | " ++ txt8 (joinT c.2) ++ "|" = ltS c := by
  rw [txt3_eq h.s0 h.s1, txt8_eq, Str.empty_append]
  unfold ltS
  rw [← Str.append_assoc]
theorem small_log {i : Int} (h : i.natAbs < 1000) : i.natAbs.log2 < 1920 := by
  by_cases h0 : i.natAbs = 0
  · rw [h0]; decide
  · exact (Nat.log2_lt h0).mpr (Nat.lt_of_lt_of_le h (by decide +kernel))
theorem lines_ok (w : Nat) (hw : w ≤ 4) (N : List Cfg) (hN : ∀ c ∈ N, Row12 w c) (lN : N.length ≤ 1000000) : Fn_Notes_lines [ntD w N] = some (.ret true (.lst (N.map ltD)) []) := by
  have f1 := fld_n1 w N
  obtain ⟨nt, hnt⟩ : ∃ nt, nt = ntD w N := ⟨_, rfl⟩
  rw [← hnt] at f1 ⊢
  have c1 : compG (Et (Ce (Ep 1) (Ce (Ep 2) Es))) Cd e1_Notes_lines [.bo (nt), .un, .un] (N.map encC) = some (N.map ltD) :=
    compG_all (h := (Et (Ce (Ep 1) (Ce (Ep 2) Es)))) (fe := e1_Notes_lines) (ρ := [.bo (nt), .un, .un]) encC ltD N fun c hc => by
      have h := hN c hc
      have so := str_ok c.2 (fun x hx => by
        have := h.mem x hx
        have h3 : x.natAbs < 1000 := by omega
        exact Nat.lt_of_lt_of_le h3 (by decide)) (by rw [h.len]; omega)
      have lj := joinT_len hw h
      have nl := num_len h
      have s0 := h.s0
      have s1 := h.s1
      have lg := small_log (i := c.1) (by omega)
      have e3 := txt3_eq s0 s1
      have l3 : (txt3 c.1).length ≤ 100 := by rw [e3, len_app, len_bl]; omega
      have l8 : (txt8 (joinT c.2)).length ≤ 300 := by rw [txt8_eq, len_app, len_bl]; omega
      have le := line_eq hw h
      have m3 : D.fmt3 (.int c.1) = some (.str (txt3 c.1)) := by
        show (if _ then _ else _) = _
        rw [if_pos ⟨lg, by omega⟩]
      have m8 : D.fmt8 (.str (joinT c.2)) = some (.str (txt8 (joinT c.2))) := by
        show (if _ then _ else _) = _
        rw [if_pos (by omega)]
      obtain ⟨t3, h3⟩ : ∃ t3, t3 = txt3 c.1 := ⟨_, rfl⟩
      obtain ⟨t8, h8⟩ : ∃ t8, t8 = txt8 (joinT c.2) := ⟨_, rfl⟩
      rw [← h3] at m3 l3 le
      rw [← h8] at m8 l8 le
      have q1 : (" | " : Str).length = 3 := by decide +kernel
      have q2 : ("|" : Str).length = 1 := by decide +kernel
      have q0 : Str.empty.length = 0 := rfl
      have j1 : jsD Str.empty (.str t3) = some (Str.empty ++ t3) := by
        show (if _ then _ else _) = _
        rw [if_pos (by rw [len_app, q0]; omega)]
      have j2 : jsD (Str.empty ++ t3) (.str " | ") = some (Str.empty ++ t3 ++ " | ") := by
        show (if _ then _ else _) = _
        rw [if_pos (by rw [len_app, len_app, q0, q1]; omega)]
      have j3 : jsD (Str.empty ++ t3 ++ " | ") (.str t8) = some (Str.empty ++ t3 ++ " | " ++ t8) := by
        show (if _ then _ else _) = _
        rw [if_pos (by rw [len_app, len_app, len_app, q0, q1]; omega)]
      have j4 : jsD (Str.empty ++ t3 ++ " | " ++ t8) (.str "|") = some (ltS c) := by
        show (if _ then _ else _) = _
        rw [if_pos (by rw [len_app, len_app, len_app, len_app, q0, q1, q2]; omega), le]
      obtain ⟨cm, hcm⟩ : ∃ cm, cm = crD c.2 := ⟨_, rfl⟩
      have ic : isObj 0 cm = true := by rw [hcm]; rfl
      have ec : encC c = .tup [.int c.1, cm] := by rw [hcm]; rfl
      rw [← hcm] at so
      refine ⟨[.bo (nt), .sh (.int c.1), .sh (cm)], by rw [ec]; simp [Ci,Ca,Bb,Bd,Cw,Fd,Cy,Cf,Bf,Bk,Fe,Ee,Bl,Fg,Aj,El,Be,frz,Ez,Ac,Ba,fC,DL.M.bnd,Aa,Ay,Bc,Az,Fb,Cc,Em,Ff,Cz,Bg,Eo,Bj,Fi,Ck,Ea,Fc,Ed,Cd,up1,Eg,Ek,Bt,Ab,Ap,Aq,Ar,Au,Av,Aw,Ec,Cq,Eb,Kd.fr,Eh,D.isMut,Ep,Ah,Fh,Bi,Ef,Bm,Bn,D.len,D.list,D.tupl,Ak,Al,Am,An,Ai,Ao,Ae,Bo,Bp,Bq,Br,Bs,D.isN,D.isNot,Ei,ix_l,ix_t,ix_s,Ad,Af,LIM,Ej,Out.upE,Ag,Cr,Et,Ce,Es,Co,Ew,Ex,Cu,Cs,fMe,fMk,Ev,fIk,Cl,D.addI,D.subI,Er,fSl,Cj,slD,Cm,gBk,gCt,fLc,Cb,Ey,fCv,Cg,Bh,Ax,Cv,Ch,isO,only,Eu,at_0,at_1,at_2,at_3,Bu,isO,Bv,Bw,Bx,Bz,isP,Cp,D.isB,D.isNotB], ?_⟩
      have el : ltD c = .str (ltS c) := rfl
      rw [el]
      obtain ⟨jt, hjt⟩ : ∃ jt, jt = joinT c.2 := ⟨_, rfl⟩
      rw [← hjt] at so m8
      have p1 : Fb D.fmt3 (Aa 1) [.bo (nt), .sh (.int c.1), .sh (cm)] = some (.ok (.str t3)) := by simp [Ci,Ca,Bb,Bd,Cw,Fd,Cy,Cf,Bf,Bk,Fe,Ee,Bl,Fg,Aj,El,Be,frz,Ez,Ac,Ba,fC,DL.M.bnd,Aa,Ay,Bc,Az,Fb,Cc,Em,Ff,Cz,Bg,Eo,Bj,Fi,Ck,Ea,Fc,Ed,Cd,up1,Eg,Ek,Bt,Ab,Ap,Aq,Ar,Au,Av,Aw,Ec,Cq,Eb,Kd.fr,Eh,D.isMut,Ep,Ah,Fh,Bi,Ef,Bm,Bn,D.len,D.list,D.tupl,Ak,Al,Am,An,Ai,Ao,Ae,Bo,Bp,Bq,Br,Bs,D.isN,D.isNot,Ei,ix_l,ix_t,ix_s,Ad,Af,LIM,Ej,Out.upE,Ag,Cr,Et,Ce,Es,Co,Ew,Ex,Cu,Cs,fMe,fMk,Ev,fIk,Cl,D.addI,D.subI,Er,fSl,Cj,slD,Cm,gBk,gCt,fLc,Cb,Ey,fCv,Cg,Bh,Ax,Cv,Ch,isO,only,Eu,at_0,at_1,at_2,at_3,Bu,isO,Bv,Bw,Bx,Bz,isP,Cp,D.isB,D.isNotB,m3]
      have p3 : Fb D.fmt8 (Ez (opStrO 0 Fn_Crowd___str__) (Ac (Aa 2) Ba)) [.bo (nt), .sh (.int c.1), .sh (cm)] = some (.ok (.str t8)) := by simp [Ci,Ca,Bb,Bd,Cw,Fd,Cy,Cf,Bf,Bk,Fe,Ee,Bl,Fg,Aj,El,Be,frz,Ez,Ac,Ba,fC,DL.M.bnd,Aa,Ay,Bc,Az,Fb,Cc,Em,Ff,Cz,Bg,Eo,Bj,Fi,Ck,Ea,Fc,Ed,Cd,up1,Eg,Ek,Bt,Ab,Ap,Aq,Ar,Au,Av,Aw,Ec,Cq,Eb,Kd.fr,Eh,D.isMut,Ep,Ah,Fh,Bi,Ef,Bm,Bn,D.len,D.list,D.tupl,Ak,Al,Am,An,Ai,Ao,Ae,Bo,Bp,Bq,Br,Bs,D.isN,D.isNot,Ei,ix_l,ix_t,ix_s,Ad,Af,LIM,Ej,Out.upE,Ag,Cr,Et,Ce,Es,Co,Ew,Ex,Cu,Cs,fMe,fMk,Ev,fIk,Cl,D.addI,D.subI,Er,fSl,Cj,slD,Cm,gBk,gCt,fLc,Cb,Ey,fCv,Cg,Bh,Ax,Cv,Ch,isO,only,Eu,at_0,at_1,at_2,at_3,Bu,isO,Bv,Bw,Bx,Bz,isP,Cp,D.isB,D.isNotB,opStrO,ic,so,only,okStr,m8]
      unfold e1_Notes_lines
      simp only [fJs, p1, p3, fC, DL.M.bnd, j1, j2, j3, j4]
  obtain ⟨NX, hNX⟩ : ∃ NX, NX = N.map encC := ⟨_, rfl⟩
  obtain ⟨LX, hLX⟩ : ∃ LX, LX = N.map ltD := ⟨_, rfl⟩
  have n1 : LX.length ≤ 16000000 := by rw [hLX, List.length_map]; omega
  rw [← hNX] at f1 c1
  rw [← hLX] at c1 ⊢
  show Cq _ (r1_Notes_lines [.bo (nt), .un, .un]) = _
  simp [Ci,Ca,Bb,Bd,Cw,Fd,Cy,Cf,Bf,Bk,Fe,Ee,Bl,Fg,Aj,El,Be,frz,Ez,Ac,Ba,fC,DL.M.bnd,Aa,Ay,Bc,Az,Fb,Cc,Em,Ff,Cz,Bg,Eo,Bj,Fi,Ck,Ea,Fc,Ed,Cd,up1,Eg,Ek,Bt,Ab,Ap,Aq,Ar,Au,Av,Aw,Ec,Cq,Eb,Kd.fr,Eh,D.isMut,Ep,Ah,Fh,Bi,Ef,Bm,Bn,D.len,D.list,D.tupl,Ak,Al,Am,An,Ai,Ao,Ae,Bo,Bp,Bq,Br,Bs,D.isN,D.isNot,Ei,ix_l,ix_t,ix_s,Ad,Af,LIM,Ej,Out.upE,Ag,Cr,Et,Ce,Es,Co,Ew,Ex,Cu,Cs,fMe,fMk,Ev,fIk,Cl,D.addI,D.subI,Er,fSl,Cj,slD,Cm,gBk,gCt,fLc,Cb,Ey,fCv,Cg,Bh,Ax,Cv,Ch,isO,only,Eu,at_0,at_1,at_2,at_3,Bu,isO,Bv,Bw,Bx,Bz,isP,Cp,D.isB,D.isNotB,r1_Notes_lines,s1_Notes_lines,f1,c1,limL_ok n1]
end DL
namespace DL
open PySem PySem.Spec L2
theorem kn_id {S : Nat} (hS : S ≤ 48) {p : Int → Bool} {l : List Int} (hl : l = (ivl S).filter p) : kn l = l := by
  have sto : Sto (fun a b : Int => decide (a < b)) := sto_int
  refine asc_unique sto ?_ ?_ fun x => ?_
  · unfold kn
    refine List.pairwise_map.mpr ?_
    exact ((List.pairwise_lt_range (n := 48)).imp fun h => decide_eq_true (by omega)).sublist (List.filter_sublist)
  · rw [hl]
    exact (List.Pairwise.imp (fun h => decide_eq_true h) (ivl_lt S)).sublist (List.filter_sublist)
  · rw [mem_kn]
    refine ⟨fun h => h.1, fun h => ⟨h, ?_⟩⟩
    rw [hl] at h
    have := mem_ivl.mp (List.mem_filter.mp h).1
    omega
theorem kn_ok {S : Nat} (hS : S ≤ 48) {p : Int → Bool} {l : List Int} (hl : l = (ivl S).filter p) (hne : l ≠ []) : okSt l = true := by
  unfold okSt
  rw [kn_id hS hl, decide_eq_true hne, Bool.true_and, List.all_eq_true]
  exact fun x hx => decide_eq_true hx
theorem one_iv {S : Nat} {s : Int} (h : 0 ≤ s ∧ s < S) : [s] = (ivl S).filter fun k => decide (k = s) := by
  refine asc_unique sto_int (List.pairwise_singleton _ _) ((List.Pairwise.imp (fun h => decide_eq_true h) (ivl_lt S)).sublist (List.filter_sublist)) fun x => ?_
  rw [List.mem_singleton, List.mem_filter, decide_eq_true_eq, mem_ivl]
  omega
theorem filter_take {α : Type} {lt : α → α → Bool} (hs : Sto lt) (x : α) : ∀ {l : List α}, Asc lt l → l.filter (fun y => lt y x) = l.takeWhile (fun y => lt y x)
  | [], _ => rfl
  | y :: l, h => by
    obtain ⟨h1, h2⟩ := List.pairwise_cons.mp h
    cases e : lt y x with
    | true =>
      rw [List.filter_cons, List.takeWhile_cons, if_pos e, if_pos e, filter_take hs x h2]
    | false =>
      rw [List.filter_cons, List.takeWhile_cons, if_neg (by rw [e]; exact Bool.false_ne_true), if_neg (by rw [e]; exact Bool.false_ne_true)]
      refine List.filter_eq_nil_iff.mpr fun z hz hzx => ?_
      have := hs.tr _ _ _ (h1 z hz) hzx
      rw [e] at this
      cases this
theorem ins_at {α : Type} [DecidableEq α] {lt : α → α → Bool} (hs : Sto lt) {l : List α} (h : Asc lt l) {x : α} (hx : x ∉ l) : insR lt l x = l.take (l.filter fun y => lt y x).length ++ [x] ++ l.drop (l.filter fun y => lt y x).length := by
  rw [filter_take hs x h]
  have e := List.takeWhile_append_dropWhile (p := fun y => lt y x) (l := l)
  have t1 : l.take (l.takeWhile fun y => lt y x).length = l.takeWhile fun y => lt y x := by
    conv => lhs; arg 2; rw [← e]
    exact List.take_left
  have t2 : l.drop (l.takeWhile fun y => lt y x).length = l.dropWhile fun y => lt y x := by
    conv => lhs; arg 2; rw [← e]
    exact List.drop_left
  rw [t1, t2]
  unfold insR
  rw [if_neg]
  intro z
  exact hx ((List.dropWhile_sublist _).subset (List.mem_of_mem_head? z))
theorem ins_in {α : Type} [DecidableEq α] {lt : α → α → Bool} (hs : Sto lt) {l : List α} (h : Asc lt l) {x : α} (hx : x ∈ l) : insR lt l x = l :=
  asc_unique hs (asc_ins hs h x) h fun y => by
    rw [mem_ins]
    exact ⟨fun z => z.elim (fun e => e ▸ hx) id, .inr⟩
theorem ranked_ok (Ms : List Cfg) (hl : Ms.length ≤ 1000) : Fn__law_ranked [.lst (Ms.map keyD)] = some (.ret true (.lst ((sortR cfgLt Ms).map keyD)) []) := by
  obtain ⟨q0, hq0⟩ : ∃ q : Sl, q = .bo (.lst (Ms.map keyD)) := ⟨_, rfl⟩
  obtain ⟨ρ', e, q2, f2, rfl⟩ := loop_invT (h := (Ep 2)) (g := b1__law_ranked) keyD Ms (fun done ρ => ∃ q2 : Sl, q2.free = true ∧ ρ = [q0, .ow (.lst ((sortR cfgLt done).map keyD)), q2, .un]) [q0, .ow (.lst []), .un, .un] ⟨_, rfl, rfl⟩ (by
    rintro done M rest ρ er ⟨q2, f2, rfl⟩
    have hd := mid_len er
    obtain ⟨R, hR⟩ : ∃ R, R = sortR cfgLt done := ⟨_, rfl⟩
    have aR : Asc cfgLt R := by rw [hR]; exact asc_sort sto_cfg done
    have lR : R.length ≤ 1000 := by
      have := sort_le (lt := cfgLt) done
      rw [hR]
      omega
    have eS : sortR cfgLt (done ++ [M]) = insR cfgLt R M := by
      rw [hR]
      unfold sortR
      rw [List.foldl_append]
      rfl
    have ni : D.nin (keyD M) (.lst (R.map keyD)) = some (.bl (!decide (M ∈ R))) := by
      rw [eqE_key.nin (by decide)]
      congr
    have c1 : compG (Ep 3) c1__law_ranked e1__law_ranked [q0, .ln (.lst (R.map keyD)), .sh (keyD M), .un] (R.map keyD) = some ((R.filter fun y => cfgLt y M).map keyD) := by
      obtain ⟨RX, hRX⟩ : ∃ RX, RX = R.map keyD := ⟨_, rfl⟩
      rw [← hRX]
      obtain ⟨eM, hM⟩ : ∃ eM, eM = keyD M := ⟨_, rfl⟩
      rw [← hM]
      rw [show compG (Ep 3) c1__law_ranked e1__law_ranked [q0, .ln (.lst RX), .sh (eM), .un] RX = compG (Ep 3) c1__law_ranked e1__law_ranked [q0, .ln (.lst RX), .sh (eM), .un] (R.map keyD) by rw [← hRX], compG_map keyD (fun y => cfgLt y M) keyD R fun y _ => ?_]
      have lt := ord_key.lt y M
      obtain ⟨ey, hy⟩ : ∃ ey, ey = keyD y := ⟨_, rfl⟩
      rw [← hy, ← hM] at lt
      rw [← hy]
      exact ⟨[q0, .ln (.lst RX), .sh (eM), .sh (ey)], by simp [Ci,Ca,Bb,Bd,Cw,Fd,Cy,Cf,Bf,Bk,Fe,Ee,Bl,Fg,Aj,El,Be,frz,Ez,Ac,Ba,fC,DL.M.bnd,Aa,Ay,Bc,Az,Fb,Cc,Em,Ff,Cz,Bg,Eo,Bj,Fi,Ck,Ea,Fc,Ed,Cd,up1,Eg,Ek,Bt,Ab,Ap,Aq,Ar,Au,Av,Aw,Ec,Cq,Eb,Kd.fr,Eh,D.isMut,Ep,Ah,Fh,Bi,Ef,Bm,Bn,D.len,D.list,D.tupl,Ak,Al,Am,An,Ai,Ao,Ae,Bo,Bp,Bq,Br,Bs,D.isN,D.isNot,Ei,ix_l,ix_t,ix_s,Ad,Af,LIM,Ej,Out.upE,Ag,Cr,Et,Ce,Es,Co,Ew,Ex,Cu,Cs,fMe,fMk,Ev,fIk,Cl,D.addI,D.subI,Er,fSl,Cj,slD,Cm,gBk,gCt,fLc,Cb,Ey,fCv,Cg,Bh,Ax,Cv,Ch,isO,only,Eu,at_0,at_1,at_2,at_3,Bu,isO,Bv,Bw,Bx,Bz,isP,Cp,D.isB,D.isNotB], by simp [Ci,Ca,Bb,Bd,Cw,Fd,Cy,Cf,Bf,Bk,Fe,Ee,Bl,Fg,Aj,El,Be,frz,Ez,Ac,Ba,fC,DL.M.bnd,Aa,Ay,Bc,Az,Fb,Cc,Em,Ff,Cz,Bg,Eo,Bj,Fi,Ck,Ea,Fc,Ed,Cd,up1,Eg,Ek,Bt,Ab,Ap,Aq,Ar,Au,Av,Aw,Ec,Cq,Eb,Kd.fr,Eh,D.isMut,Ep,Ah,Fh,Bi,Ef,Bm,Bn,D.len,D.list,D.tupl,Ak,Al,Am,An,Ai,Ao,Ae,Bo,Bp,Bq,Br,Bs,D.isN,D.isNot,Ei,ix_l,ix_t,ix_s,Ad,Af,LIM,Ej,Out.upE,Ag,Cr,Et,Ce,Es,Co,Ew,Ex,Cu,Cs,fMe,fMk,Ev,fIk,Cl,D.addI,D.subI,Er,fSl,Cj,slD,Cm,gBk,gCt,fLc,Cb,Ey,fCv,Cg,Bh,Ax,Cv,Ch,isO,only,Eu,at_0,at_1,at_2,at_3,Bu,isO,Bv,Bw,Bx,Bz,isP,Cp,D.isB,D.isNotB,c1__law_ranked,lt], fun _ => by simp [Ci,Ca,Bb,Bd,Cw,Fd,Cy,Cf,Bf,Bk,Fe,Ee,Bl,Fg,Aj,El,Be,frz,Ez,Ac,Ba,fC,DL.M.bnd,Aa,Ay,Bc,Az,Fb,Cc,Em,Ff,Cz,Bg,Eo,Bj,Fi,Ck,Ea,Fc,Ed,Cd,up1,Eg,Ek,Bt,Ab,Ap,Aq,Ar,Au,Av,Aw,Ec,Cq,Eb,Kd.fr,Eh,D.isMut,Ep,Ah,Fh,Bi,Ef,Bm,Bn,D.len,D.list,D.tupl,Ak,Al,Am,An,Ai,Ao,Ae,Bo,Bp,Bq,Br,Bs,D.isN,D.isNot,Ei,ix_l,ix_t,ix_s,Ad,Af,LIM,Ej,Out.upE,Ag,Cr,Et,Ce,Es,Co,Ew,Ex,Cu,Cs,fMe,fMk,Ev,fIk,Cl,D.addI,D.subI,Er,fSl,Cj,slD,Cm,gBk,gCt,fLc,Cb,Ey,fCv,Cg,Bh,Ax,Cv,Ch,isO,only,Eu,at_0,at_1,at_2,at_3,Bu,isO,Bv,Bw,Bx,Bz,isP,Cp,D.isB,D.isNotB,e1__law_ranked]⟩
    obtain ⟨k, hk⟩ : ∃ k, k = (R.filter fun y => cfgLt y M).length := ⟨_, rfl⟩
    have lk : k ≤ R.length := by rw [hk]; exact List.length_filter_le _ _
    obtain ⟨FX, hFX⟩ : ∃ FX, FX = (R.filter fun y => cfgLt y M).map keyD := ⟨_, rfl⟩
    have lF : FX.length = k := by rw [hFX, List.length_map, hk]
    rw [← hFX] at c1
    rw [eS, ← hR]
    by_cases hm : M ∈ R
    · rw [decide_eq_true hm] at ni
      rw [ins_in sto_cfg aR hm]
      obtain ⟨RX, hRX⟩ : ∃ RX, RX = R.map keyD := ⟨_, rfl⟩
      rw [← hRX] at ni ⊢
      obtain ⟨eM, hM⟩ : ∃ eM, eM = keyD M := ⟨_, rfl⟩
      rw [← hM] at ni ⊢
      refine ⟨[q0, .ow (.lst RX), .sh (eM), .un], [q0, .ow (.lst RX), .sh (eM), .un], by simp [Ci,Ca,Bb,Bd,Cw,Fd,Cy,Cf,Bf,Bk,Fe,Ee,Bl,Fg,Aj,El,Be,frz,Ez,Ac,Ba,fC,DL.M.bnd,Aa,Ay,Bc,Az,Fb,Cc,Em,Ff,Cz,Bg,Eo,Bj,Fi,Ck,Ea,Fc,Ed,Cd,up1,Eg,Ek,Bt,Ab,Ap,Aq,Ar,Au,Av,Aw,Ec,Cq,Eb,Kd.fr,Eh,D.isMut,Ep,Ah,Fh,Bi,Ef,Bm,Bn,D.len,D.list,D.tupl,Ak,Al,Am,An,Ai,Ao,Ae,Bo,Bp,Bq,Br,Bs,D.isN,D.isNot,Ei,ix_l,ix_t,ix_s,Ad,Af,LIM,Ej,Out.upE,Ag,Cr,Et,Ce,Es,Co,Ew,Ex,Cu,Cs,fMe,fMk,Ev,fIk,Cl,D.addI,D.subI,Er,fSl,Cj,slD,Cm,gBk,gCt,fLc,Cb,Ey,fCv,Cg,Bh,Ax,Cv,Ch,isO,only,Eu,at_0,at_1,at_2,at_3,Bu,isO,Bv,Bw,Bx,Bz,isP,Cp,D.isB,D.isNotB,f2], .inl ?_, _, rfl, rfl⟩
      simp [Ci,Ca,Bb,Bd,Cw,Fd,Cy,Cf,Bf,Bk,Fe,Ee,Bl,Fg,Aj,El,Be,frz,Ez,Ac,Ba,fC,DL.M.bnd,Aa,Ay,Bc,Az,Fb,Cc,Em,Ff,Cz,Bg,Eo,Bj,Fi,Ck,Ea,Fc,Ed,Cd,up1,Eg,Ek,Bt,Ab,Ap,Aq,Ar,Au,Av,Aw,Ec,Cq,Eb,Kd.fr,Eh,D.isMut,Ep,Ah,Fh,Bi,Ef,Bm,Bn,D.len,D.list,D.tupl,Ak,Al,Am,An,Ai,Ao,Ae,Bo,Bp,Bq,Br,Bs,D.isN,D.isNot,Ei,ix_l,ix_t,ix_s,Ad,Af,LIM,Ej,Out.upE,Ag,Cr,Et,Ce,Es,Co,Ew,Ex,Cu,Cs,fMe,fMk,Ev,fIk,Cl,D.addI,D.subI,Er,fSl,Cj,slD,Cm,gBk,gCt,fLc,Cb,Ey,fCv,Cg,Bh,Ax,Cv,Ch,isO,only,Eu,at_0,at_1,at_2,at_3,Bu,isO,Bv,Bw,Bx,Bz,isP,Cp,D.isB,D.isNotB,b1__law_ranked,ni]
    · rw [decide_eq_false hm] at ni
      rw [ins_at sto_cfg aR hm, ← hk]
      have ed : (R.take k ++ [M] ++ R.drop k).map keyD = (R.map keyD).take k ++ [keyD M] ++ (R.map keyD).drop k := by
        rw [List.map_append, List.map_append, List.map_take, List.map_drop]
        rfl
      rw [ed]
      obtain ⟨RX, hRX⟩ : ∃ RX, RX = R.map keyD := ⟨_, rfl⟩
      have lX : RX.length < 16000000 := by rw [hRX, List.length_map]; omega
      rw [← hRX] at ni c1 ⊢
      obtain ⟨eM, hM⟩ : ∃ eM, eM = keyD M := ⟨_, rfl⟩
      rw [← hM] at ni c1 ⊢
      have k1 : ((k : Nat) : Int) ≤ 16000000 := by omega
      have ui : uIns [.int (k : Nat), eM] RX = some (RX.take k ++ [eM] ++ RX.drop k) := by
        show (if RX.length < LIM ∧ 0 ≤ ((k : Nat) : Int) ∧ ((k : Nat) : Int) ≤ 16000000 then some (RX.take ((k : Nat) : Int).toNat ++ [eM] ++ RX.drop ((k : Nat) : Int).toNat) else none) = _
        rw [if_pos ⟨lX, by omega, k1⟩]
        rfl
      refine ⟨[q0, .ow (.lst RX), .sh (eM), .un], [q0, .ow (.lst (RX.take k ++ [eM] ++ RX.drop k)), .sh (eM), .un], by simp [Ci,Ca,Bb,Bd,Cw,Fd,Cy,Cf,Bf,Bk,Fe,Ee,Bl,Fg,Aj,El,Be,frz,Ez,Ac,Ba,fC,DL.M.bnd,Aa,Ay,Bc,Az,Fb,Cc,Em,Ff,Cz,Bg,Eo,Bj,Fi,Ck,Ea,Fc,Ed,Cd,up1,Eg,Ek,Bt,Ab,Ap,Aq,Ar,Au,Av,Aw,Ec,Cq,Eb,Kd.fr,Eh,D.isMut,Ep,Ah,Fh,Bi,Ef,Bm,Bn,D.len,D.list,D.tupl,Ak,Al,Am,An,Ai,Ao,Ae,Bo,Bp,Bq,Br,Bs,D.isN,D.isNot,Ei,ix_l,ix_t,ix_s,Ad,Af,LIM,Ej,Out.upE,Ag,Cr,Et,Ce,Es,Co,Ew,Ex,Cu,Cs,fMe,fMk,Ev,fIk,Cl,D.addI,D.subI,Er,fSl,Cj,slD,Cm,gBk,gCt,fLc,Cb,Ey,fCv,Cg,Bh,Ax,Cv,Ch,isO,only,Eu,at_0,at_1,at_2,at_3,Bu,isO,Bv,Bw,Bx,Bz,isP,Cp,D.isB,D.isNotB,f2], .inl ?_, _, rfl, rfl⟩
      simp [Ci,Ca,Bb,Bd,Cw,Fd,Cy,Cf,Bf,Bk,Fe,Ee,Bl,Fg,Aj,El,Be,frz,Ez,Ac,Ba,fC,DL.M.bnd,Aa,Ay,Bc,Az,Fb,Cc,Em,Ff,Cz,Bg,Eo,Bj,Fi,Ck,Ea,Fc,Ed,Cd,up1,Eg,Ek,Bt,Ab,Ap,Aq,Ar,Au,Av,Aw,Ec,Cq,Eb,Kd.fr,Eh,D.isMut,Ep,Ah,Fh,Bi,Ef,Bm,Bn,D.len,D.list,D.tupl,Ak,Al,Am,An,Ai,Ao,Ae,Bo,Bp,Bq,Br,Bs,D.isN,D.isNot,Ei,ix_l,ix_t,ix_s,Ad,Af,LIM,Ej,Out.upE,Ag,Cr,Et,Ce,Es,Co,Ew,Ex,Cu,Cs,fMe,fMk,Ev,fIk,Cl,D.addI,D.subI,Er,fSl,Cj,slD,Cm,gBk,gCt,fLc,Cb,Ey,fCv,Cg,Bh,Ax,Cv,Ch,isO,only,Eu,at_0,at_1,at_2,at_3,Bu,isO,Bv,Bw,Bx,Bz,isP,Cp,D.isB,D.isNotB,b1__law_ranked,ni,c1,limL_ok (show FX.length ≤ 16000000 by omega),lF,ui])
  have e1 : r1__law_ranked [q0, .un, .un, .un] = r3__law_ranked [q0, .ow (.lst ((sortR cfgLt Ms).map keyD)), q2, .un] := by
    refine ((gSeq_nx (ρ' := [q0, .ow (.lst []), .un, .un]) ?_).trans (gSeq_nx ?_))
    · simp [Ci,Ca,Bb,Bd,Cw,Fd,Cy,Cf,Bf,Bk,Fe,Ee,Bl,Fg,Aj,El,Be,frz,Ez,Ac,Ba,fC,DL.M.bnd,Aa,Ay,Bc,Az,Fb,Cc,Em,Ff,Cz,Bg,Eo,Bj,Fi,Ck,Ea,Fc,Ed,Cd,up1,Eg,Ek,Bt,Ab,Ap,Aq,Ar,Au,Av,Aw,Ec,Cq,Eb,Kd.fr,Eh,D.isMut,Ep,Ah,Fh,Bi,Ef,Bm,Bn,D.len,D.list,D.tupl,Ak,Al,Am,An,Ai,Ao,Ae,Bo,Bp,Bq,Br,Bs,D.isN,D.isNot,Ei,ix_l,ix_t,ix_s,Ad,Af,LIM,Ej,Out.upE,Ag,Cr,Et,Ce,Es,Co,Ew,Ex,Cu,Cs,fMe,fMk,Ev,fIk,Cl,D.addI,D.subI,Er,fSl,Cj,slD,Cm,gBk,gCt,fLc,Cb,Ey,fCv,Cg,Bh,Ax,Cv,Ch,isO,only,Eu,at_0,at_1,at_2,at_3,Bu,isO,Bv,Bw,Bx,Bz,isP,Cp,D.isB,D.isNotB,s1__law_ranked]
    · rw [hq0] at e ⊢
      simp [Ci,Ca,Bb,Bd,Cw,Fd,Cy,Cf,Bf,Bk,Fe,Ee,Bl,Fg,Aj,El,Be,frz,Ez,Ac,Ba,fC,DL.M.bnd,Aa,Ay,Bc,Az,Fb,Cc,Em,Ff,Cz,Bg,Eo,Bj,Fi,Ck,Ea,Fc,Ed,Cd,up1,Eg,Ek,Bt,Ab,Ap,Aq,Ar,Au,Av,Aw,Ec,Cq,Eb,Kd.fr,Eh,D.isMut,Ep,Ah,Fh,Bi,Ef,Bm,Bn,D.len,D.list,D.tupl,Ak,Al,Am,An,Ai,Ao,Ae,Bo,Bp,Bq,Br,Bs,D.isN,D.isNot,Ei,ix_l,ix_t,ix_s,Ad,Af,LIM,Ej,Out.upE,Ag,Cr,Et,Ce,Es,Co,Ew,Ex,Cu,Cs,fMe,fMk,Ev,fIk,Cl,D.addI,D.subI,Er,fSl,Cj,slD,Cm,gBk,gCt,fLc,Cb,Ey,fCv,Cg,Bh,Ax,Cv,Ch,isO,only,Eu,at_0,at_1,at_2,at_3,Bu,isO,Bv,Bw,Bx,Bz,isP,Cp,D.isB,D.isNotB,s2__law_ranked,e]
  show Cq _ (r1__law_ranked [.bo (.lst (Ms.map keyD)), .un, .un, .un]) = _
  rw [← hq0, e1, hq0]
  simp [Ci,Ca,Bb,Bd,Cw,Fd,Cy,Cf,Bf,Bk,Fe,Ee,Bl,Fg,Aj,El,Be,frz,Ez,Ac,Ba,fC,DL.M.bnd,Aa,Ay,Bc,Az,Fb,Cc,Em,Ff,Cz,Bg,Eo,Bj,Fi,Ck,Ea,Fc,Ed,Cd,up1,Eg,Ek,Bt,Ab,Ap,Aq,Ar,Au,Av,Aw,Ec,Cq,Eb,Kd.fr,Eh,D.isMut,Ep,Ah,Fh,Bi,Ef,Bm,Bn,D.len,D.list,D.tupl,Ak,Al,Am,An,Ai,Ao,Ae,Bo,Bp,Bq,Br,Bs,D.isN,D.isNot,Ei,ix_l,ix_t,ix_s,Ad,Af,LIM,Ej,Out.upE,Ag,Cr,Et,Ce,Es,Co,Ew,Ex,Cu,Cs,fMe,fMk,Ev,fIk,Cl,D.addI,D.subI,Er,fSl,Cj,slD,Cm,gBk,gCt,fLc,Cb,Ey,fCv,Cg,Bh,Ax,Cv,Ch,isO,only,Eu,at_0,at_1,at_2,at_3,Bu,isO,Bv,Bw,Bx,Bz,isP,Cp,D.isB,D.isNotB,r3__law_ranked,s3__law_ranked]
theorem law_lines_ok (w : Nat) (hw : w ≤ 4) (N : List Cfg) (hN : ∀ c ∈ N, Row12 w c) (lN : N.length ≤ 1000) : Fn__law_lines [.lst (N.map keyD)] = some (.ret true (.lst (N.map ltD)) []) := by
  obtain ⟨q0, hq0⟩ : ∃ q : Sl, q = .bo (.lst (N.map keyD)) := ⟨_, rfl⟩
  obtain ⟨ρ', e, q2, q3, q4, f2, f3, f4, rfl⟩ := loop_invT (h := (Ep 2)) (g := b1__law_lines) keyD N (fun done ρ => ∃ q2 q3 q4 : Sl, q2.free = true ∧ q3.free = true ∧ q4.free = true ∧ ρ = [q0, .ow (.lst (done.map ltD)), q2, q3, q4, .un]) [q0, .ow (.lst []), .un, .un, .un, .un] ⟨_, _, _, rfl, rfl, rfl, rfl⟩ (by
    rintro done c rest ρ er ⟨q2, q3, q4, f2, f3, f4, rfl⟩
    have hd := mid_len er
    have h := hN c (mid_mem er)
    have s0 := h.s0
    have s1 := h.s1
    have lj := joinT_len hw h
    have nl := num_len h
    have k0 : (1000 : Nat) ≤ 10 ^ 42 := by decide
    have h1 : ∀ x ∈ c.2, x.natAbs < 10 ^ 42 := fun x hx => by
      have := h.mem x hx
      have h3 : x.natAbs < 1000 := by omega
      exact Nat.lt_of_lt_of_le h3 k0
    have n1 := str1_ok c.1 (Nat.lt_of_lt_of_le (show c.1.natAbs < 1000 by omega) k0)
    have jd := joinD_ok c.2 h1 (by rw [h.len]; omega)
    have el : ltD c = .str (ltS c) := rfl
    unfold ltS at el
    have eT : txI c.1 = .str (Str.ofString (toString c.1)) := rfl
    obtain ⟨nm, hnm⟩ : ∃ nm, nm = Str.ofString (toString c.1) := ⟨_, rfl⟩
    obtain ⟨jt, hjt⟩ : ∃ jt, jt = joinT c.2 := ⟨_, rfl⟩
    rw [← hnm] at el nl eT
    rw [← hjt] at el lj jd
    rw [eT] at n1
    have b3 : mulS (.str " ") (.int (3 - (nm.length : Nat))) = some (.str (bl_ (3 - nm.length))) := by
      show (if _ then _ else _) = _
      rw [if_pos ⟨rfl, by omega, by omega⟩, blk_eq _ ⟨by omega, by omega⟩, show ((3 : Int) - (nm.length : Nat)).toNat = 3 - nm.length by omega]
    have b8 : mulS (.str " ") (.int (8 - (jt.length : Nat))) = some (.str (bl_ (8 - jt.length))) := by
      show (if _ then _ else _) = _
      rw [if_pos ⟨rfl, by omega, by omega⟩, blk_eq _ ⟨by omega, by omega⟩, show ((8 : Int) - (jt.length : Nat)).toNat = 8 - jt.length by omega]
    have ln3 : D.lenS [.str nm] = some (.int (nm.length : Nat)) := by
      show (if _ then _ else _) = _
      rw [if_pos (by omega)]
    have ln8 : D.lenS [.str jt] = some (.int (jt.length : Nat)) := by
      show (if _ then _ else _) = _
      rw [if_pos (by omega)]
    have ads : ∀ x y : Str, x.length + y.length ≤ 16000000 → D.add (.str x) (.str y) = some (.str (x ++ y)) := fun x y hxy => by
      show ((none : Option D).or ((none : Option D).or ((none : Option D).or (if x.length + y.length ≤ LIM then some (D.str (x ++ y)) else none)))) = _
      rw [if_pos hxy]
      rfl
    have q1 : (" | " : Str).length = 3 := by decide +kernel
    have q5 : ("|" : Str).length = 1 := by decide +kernel
    have l3 := len_bl (3 - nm.length)
    have l8 := len_bl (8 - jt.length)
    obtain ⟨B3, hB3⟩ : ∃ B3, B3 = bl_ (3 - nm.length) := ⟨_, rfl⟩
    obtain ⟨B8, hB8⟩ : ∃ B8, B8 = bl_ (8 - jt.length) := ⟨_, rfl⟩
    rw [← hB3] at b3 l3 el
    rw [← hB8] at b8 l8 el
    have a1 := ads B3 nm (by omega)
    have a2 := ads (B3 ++ nm) " | " (by rw [len_app, q1]; omega)
    have a3 := ads (B3 ++ nm ++ " | ") jt (by rw [len_app, len_app, q1]; omega)
    have a4 := ads (B3 ++ nm ++ " | " ++ jt) B8 (by rw [len_app, len_app, len_app, q1]; omega)
    have a5 := ads (B3 ++ nm ++ " | " ++ jt ++ B8) "|" (by rw [len_app, len_app, len_app, len_app, q1, q5]; omega)
    obtain ⟨I3, hI3⟩ : ∃ I3 : Int, I3 = (nm.length : Nat) := ⟨_, rfl⟩
    obtain ⟨I8, hI8⟩ : ∃ I8 : Int, I8 = (jt.length : Nat) := ⟨_, rfl⟩
    rw [← hI3] at b3 ln3
    rw [← hI8] at b8 ln8
    obtain ⟨S3, hS3⟩ : ∃ S3 : Str, S3 = B3 ++ nm ++ " | " ++ jt ++ B8 ++ "|" := ⟨_, rfl⟩
    rw [← hS3] at a5 el
    obtain ⟨S2, hS2⟩ : ∃ S2 : Str, S2 = B3 ++ nm ++ " | " ++ jt ++ B8 := ⟨_, rfl⟩
    rw [← hS2] at a4 a5
    obtain ⟨S1, hS1⟩ : ∃ S1 : Str, S1 = B3 ++ nm ++ " | " ++ jt := ⟨_, rfl⟩
    rw [← hS1] at a3 a4
    obtain ⟨S0, hS0⟩ : ∃ S0 : Str, S0 = B3 ++ nm ++ " | " := ⟨_, rfl⟩
    rw [← hS0] at a2 a3
    obtain ⟨SN, hSN⟩ : ∃ SN : Str, SN = B3 ++ nm := ⟨_, rfl⟩
    rw [← hSN] at a1 a2
    have c1 : ∀ ek, compG (Ep 5) Cd e1__law_lines [q0, .ow (.lst (done.map ltD)), .sh (ek), .sh (.str nm), q4, .un] (c.2.map D.int) = some (c.2.map txI) := fun ek =>
      compG_all (h := (Ep 5)) (fe := e1__law_lines) (ρ := [q0, .ow (.lst (done.map ltD)), .sh (ek), .sh (.str nm), q4, .un]) D.int txI c.2 fun x hx => by
        have s := str1_ok x (h1 x hx)
        obtain ⟨tx, htx⟩ : ∃ tx, tx = txI x := ⟨_, rfl⟩
        rw [← htx] at s ⊢
        exact ⟨[q0, .ow (.lst (done.map ltD)), .sh (ek), .sh (.str nm), q4, .sh (.int x)], by simp [Ci,Ca,Bb,Bd,Cw,Fd,Cy,Cf,Bf,Bk,Fe,Ee,Bl,Fg,Aj,El,Be,frz,Ez,Ac,Ba,fC,DL.M.bnd,Aa,Ay,Bc,Az,Fb,Cc,Em,Ff,Cz,Bg,Eo,Bj,Fi,Ck,Ea,Fc,Ed,Cd,up1,Eg,Ek,Bt,Ab,Ap,Aq,Ar,Au,Av,Aw,Ec,Cq,Eb,Kd.fr,Eh,D.isMut,Ep,Ah,Fh,Bi,Ef,Bm,Bn,D.len,D.list,D.tupl,Ak,Al,Am,An,Ai,Ao,Ae,Bo,Bp,Bq,Br,Bs,D.isN,D.isNot,Ei,ix_l,ix_t,ix_s,Ad,Af,LIM,Ej,Out.upE,Ag,Cr,Et,Ce,Es,Co,Ew,Ex,Cu,Cs,fMe,fMk,Ev,fIk,Cl,D.addI,D.subI,Er,fSl,Cj,slD,Cm,gBk,gCt,fLc,Cb,Ey,fCv,Cg,Bh,Ax,Cv,Ch,isO,only,Eu,at_0,at_1,at_2,at_3,Bu,isO,Bv,Bw,Bx,Bz,isP,Cp,D.isB,D.isNotB], by simp [Ci,Ca,Bb,Bd,Cw,Fd,Cy,Cf,Bf,Bk,Fe,Ee,Bl,Fg,Aj,El,Be,frz,Ez,Ac,Ba,fC,DL.M.bnd,Aa,Ay,Bc,Az,Fb,Cc,Em,Ff,Cz,Bg,Eo,Bj,Fi,Ck,Ea,Fc,Ed,Cd,up1,Eg,Ek,Bt,Ab,Ap,Aq,Ar,Au,Av,Aw,Ec,Cq,Eb,Kd.fr,Eh,D.isMut,Ep,Ah,Fh,Bi,Ef,Bm,Bn,D.len,D.list,D.tupl,Ak,Al,Am,An,Ai,Ao,Ae,Bo,Bp,Bq,Br,Bs,D.isN,D.isNot,Ei,ix_l,ix_t,ix_s,Ad,Af,LIM,Ej,Out.upE,Ag,Cr,Et,Ce,Es,Co,Ew,Ex,Cu,Cs,fMe,fMk,Ev,fIk,Cl,D.addI,D.subI,Er,fSl,Cj,slD,Cm,gBk,gCt,fLc,Cb,Ey,fCv,Cg,Bh,Ax,Cv,Ch,isO,only,Eu,at_0,at_1,at_2,at_3,Bu,isO,Bv,Bw,Bx,Bz,isP,Cp,D.isB,D.isNotB,e1__law_lines,s]⟩
    obtain ⟨DX, hDX⟩ : ∃ DX, DX = done.map ltD := ⟨_, rfl⟩
    have nD : DX.length < 16000000 := by rw [hDX, List.length_map]; omega
    obtain ⟨MX, hMX⟩ : ∃ MX, MX = c.2.map D.int := ⟨_, rfl⟩
    obtain ⟨TX, hTX⟩ : ∃ TX, TX = c.2.map txI := ⟨_, rfl⟩
    have nT : TX.length ≤ 16000000 := by rw [hTX, List.length_map, h.len]; omega
    have kk : keyD c = .tup [.int c.1, .tup MX] := by rw [hMX]; rfl
    rw [← hDX, ← hMX, ← hTX] at c1
    rw [← hTX] at jd
    have eF : (done ++ [c]).map ltD = DX ++ [.str S3] := by rw [List.map_append, hDX, ← el]; rfl
    rw [kk, ← hDX]
    have c1 := c1 (.tup [.int c.1, .tup MX])
    refine ⟨[q0, .ow (.lst DX), .sh (.tup [.int c.1, .tup MX]), q3, q4, .un], [q0, .ow (.lst (DX ++ [.str S3])), .sh (.tup [.int c.1, .tup MX]), .sh (.str nm), .sh (.str jt), .un], by simp [Ci,Ca,Bb,Bd,Cw,Fd,Cy,Cf,Bf,Bk,Fe,Ee,Bl,Fg,Aj,El,Be,frz,Ez,Ac,Ba,fC,DL.M.bnd,Aa,Ay,Bc,Az,Fb,Cc,Em,Ff,Cz,Bg,Eo,Bj,Fi,Ck,Ea,Fc,Ed,Cd,up1,Eg,Ek,Bt,Ab,Ap,Aq,Ar,Au,Av,Aw,Ec,Cq,Eb,Kd.fr,Eh,D.isMut,Ep,Ah,Fh,Bi,Ef,Bm,Bn,D.len,D.list,D.tupl,Ak,Al,Am,An,Ai,Ao,Ae,Bo,Bp,Bq,Br,Bs,D.isN,D.isNot,Ei,ix_l,ix_t,ix_s,Ad,Af,LIM,Ej,Out.upE,Ag,Cr,Et,Ce,Es,Co,Ew,Ex,Cu,Cs,fMe,fMk,Ev,fIk,Cl,D.addI,D.subI,Er,fSl,Cj,slD,Cm,gBk,gCt,fLc,Cb,Ey,fCv,Cg,Bh,Ax,Cv,Ch,isO,only,Eu,at_0,at_1,at_2,at_3,Bu,isO,Bv,Bw,Bx,Bz,isP,Cp,D.isB,D.isNotB,f2], .inl ?_, _, _, _, rfl, rfl, rfl, by rw [eF]⟩
    unfold b1__law_lines
    refine ((gSeq_nx (ρ' := [q0, .ow (.lst DX), .sh (.tup [.int c.1, .tup MX]), .sh (.str nm), q4, .un]) ?_).trans ((gSeq_nx (ρ' := [q0, .ow (.lst DX), .sh (.tup [.int c.1, .tup MX]), .sh (.str nm), .sh (.str jt), .un]) ?_).trans ?_))
    · simp [Ci,Ca,Bb,Bd,Cw,Fd,Cy,Cf,Bf,Bk,Fe,Ee,Bl,Fg,Aj,El,Be,frz,Ez,Ac,Ba,fC,DL.M.bnd,Aa,Ay,Bc,Az,Fb,Cc,Em,Ff,Cz,Bg,Eo,Bj,Fi,Ck,Ea,Fc,Ed,Cd,up1,Eg,Ek,Bt,Ab,Ap,Aq,Ar,Au,Av,Aw,Ec,Cq,Eb,Kd.fr,Eh,D.isMut,Ep,Ah,Fh,Bi,Ef,Bm,Bn,D.len,D.list,D.tupl,Ak,Al,Am,An,Ai,Ao,Ae,Bo,Bp,Bq,Br,Bs,D.isN,D.isNot,Ei,ix_l,ix_t,ix_s,Ad,Af,LIM,Ej,Out.upE,Ag,Cr,Et,Ce,Es,Co,Ew,Ex,Cu,Cs,fMe,fMk,Ev,fIk,Cl,D.addI,D.subI,Er,fSl,Cj,slD,Cm,gBk,gCt,fLc,Cb,Ey,fCv,Cg,Bh,Ax,Cv,Ch,isO,only,Eu,at_0,at_1,at_2,at_3,Bu,isO,Bv,Bw,Bx,Bz,isP,Cp,D.isB,D.isNotB,n1,f3]
    · simp [Ci,Ca,Bb,Bd,Cw,Fd,Cy,Cf,Bf,Bk,Fe,Ee,Bl,Fg,Aj,El,Be,frz,Ez,Ac,Ba,fC,DL.M.bnd,Aa,Ay,Bc,Az,Fb,Cc,Em,Ff,Cz,Bg,Eo,Bj,Fi,Ck,Ea,Fc,Ed,Cd,up1,Eg,Ek,Bt,Ab,Ap,Aq,Ar,Au,Av,Aw,Ec,Cq,Eb,Kd.fr,Eh,D.isMut,Ep,Ah,Fh,Bi,Ef,Bm,Bn,D.len,D.list,D.tupl,Ak,Al,Am,An,Ai,Ao,Ae,Bo,Bp,Bq,Br,Bs,D.isN,D.isNot,Ei,ix_l,ix_t,ix_s,Ad,Af,LIM,Ej,Out.upE,Ag,Cr,Et,Ce,Es,Co,Ew,Ex,Cu,Cs,fMe,fMk,Ev,fIk,Cl,D.addI,D.subI,Er,fSl,Cj,slD,Cm,gBk,gCt,fLc,Cb,Ey,fCv,Cg,Bh,Ax,Cv,Ch,isO,only,Eu,at_0,at_1,at_2,at_3,Bu,isO,Bv,Bw,Bx,Bz,isP,Cp,D.isB,D.isNotB,fJoin,c1,limL_ok nT,jd,f4]
    · simp [Ci,Ca,Bb,Bd,Cw,Fd,Cy,Cf,Bf,Bk,Fe,Ee,Bl,Fg,Aj,El,Be,frz,Ez,Ac,Ba,fC,DL.M.bnd,Aa,Ay,Bc,Az,Fb,Cc,Em,Ff,Cz,Bg,Eo,Bj,Fi,Ck,Ea,Fc,Ed,Cd,up1,Eg,Ek,Bt,Ab,Ap,Aq,Ar,Au,Av,Aw,Ec,Cq,Eb,Kd.fr,Eh,D.isMut,Ep,Ah,Fh,Bi,Ef,Bm,Bn,D.len,D.list,D.tupl,Ak,Al,Am,An,Ai,Ao,Ae,Bo,Bp,Bq,Br,Bs,D.isN,D.isNot,Ei,ix_l,ix_t,ix_s,Ad,Af,LIM,Ej,Out.upE,Ag,Cr,Et,Ce,Es,Co,Ew,Ex,Cu,Cs,fMe,fMk,Ev,fIk,Cl,D.addI,D.subI,Er,fSl,Cj,slD,Cm,gBk,gCt,fLc,Cb,Ey,fCv,Cg,Bh,Ax,Cv,Ch,isO,only,Eu,at_0,at_1,at_2,at_3,Bu,isO,Bv,Bw,Bx,Bz,isP,Cp,D.isB,D.isNotB,ln3,b3,a1,a2,a3,ln8,b8,a4,a5,nD])
  have e1 : r1__law_lines [q0, .un, .un, .un, .un, .un] = r3__law_lines [q0, .ow (.lst (N.map ltD)), q2, q3, q4, .un] := by
    refine ((gSeq_nx (ρ' := [q0, .ow (.lst []), .un, .un, .un, .un]) ?_).trans (gSeq_nx ?_))
    · simp [Ci,Ca,Bb,Bd,Cw,Fd,Cy,Cf,Bf,Bk,Fe,Ee,Bl,Fg,Aj,El,Be,frz,Ez,Ac,Ba,fC,DL.M.bnd,Aa,Ay,Bc,Az,Fb,Cc,Em,Ff,Cz,Bg,Eo,Bj,Fi,Ck,Ea,Fc,Ed,Cd,up1,Eg,Ek,Bt,Ab,Ap,Aq,Ar,Au,Av,Aw,Ec,Cq,Eb,Kd.fr,Eh,D.isMut,Ep,Ah,Fh,Bi,Ef,Bm,Bn,D.len,D.list,D.tupl,Ak,Al,Am,An,Ai,Ao,Ae,Bo,Bp,Bq,Br,Bs,D.isN,D.isNot,Ei,ix_l,ix_t,ix_s,Ad,Af,LIM,Ej,Out.upE,Ag,Cr,Et,Ce,Es,Co,Ew,Ex,Cu,Cs,fMe,fMk,Ev,fIk,Cl,D.addI,D.subI,Er,fSl,Cj,slD,Cm,gBk,gCt,fLc,Cb,Ey,fCv,Cg,Bh,Ax,Cv,Ch,isO,only,Eu,at_0,at_1,at_2,at_3,Bu,isO,Bv,Bw,Bx,Bz,isP,Cp,D.isB,D.isNotB,s1__law_lines]
    · rw [hq0] at e ⊢
      simp [Ci,Ca,Bb,Bd,Cw,Fd,Cy,Cf,Bf,Bk,Fe,Ee,Bl,Fg,Aj,El,Be,frz,Ez,Ac,Ba,fC,DL.M.bnd,Aa,Ay,Bc,Az,Fb,Cc,Em,Ff,Cz,Bg,Eo,Bj,Fi,Ck,Ea,Fc,Ed,Cd,up1,Eg,Ek,Bt,Ab,Ap,Aq,Ar,Au,Av,Aw,Ec,Cq,Eb,Kd.fr,Eh,D.isMut,Ep,Ah,Fh,Bi,Ef,Bm,Bn,D.len,D.list,D.tupl,Ak,Al,Am,An,Ai,Ao,Ae,Bo,Bp,Bq,Br,Bs,D.isN,D.isNot,Ei,ix_l,ix_t,ix_s,Ad,Af,LIM,Ej,Out.upE,Ag,Cr,Et,Ce,Es,Co,Ew,Ex,Cu,Cs,fMe,fMk,Ev,fIk,Cl,D.addI,D.subI,Er,fSl,Cj,slD,Cm,gBk,gCt,fLc,Cb,Ey,fCv,Cg,Bh,Ax,Cv,Ch,isO,only,Eu,at_0,at_1,at_2,at_3,Bu,isO,Bv,Bw,Bx,Bz,isP,Cp,D.isB,D.isNotB,s2__law_lines,e]
  show Cq _ (r1__law_lines [.bo (.lst (N.map keyD)), .un, .un, .un, .un, .un]) = _
  rw [← hq0, e1, hq0]
  simp [Ci,Ca,Bb,Bd,Cw,Fd,Cy,Cf,Bf,Bk,Fe,Ee,Bl,Fg,Aj,El,Be,frz,Ez,Ac,Ba,fC,DL.M.bnd,Aa,Ay,Bc,Az,Fb,Cc,Em,Ff,Cz,Bg,Eo,Bj,Fi,Ck,Ea,Fc,Ed,Cd,up1,Eg,Ek,Bt,Ab,Ap,Aq,Ar,Au,Av,Aw,Ec,Cq,Eb,Kd.fr,Eh,D.isMut,Ep,Ah,Fh,Bi,Ef,Bm,Bn,D.len,D.list,D.tupl,Ak,Al,Am,An,Ai,Ao,Ae,Bo,Bp,Bq,Br,Bs,D.isN,D.isNot,Ei,ix_l,ix_t,ix_s,Ad,Af,LIM,Ej,Out.upE,Ag,Cr,Et,Ce,Es,Co,Ew,Ex,Cu,Cs,fMe,fMk,Ev,fIk,Cl,D.addI,D.subI,Er,fSl,Cj,slD,Cm,gBk,gCt,fLc,Cb,Ey,fCv,Cg,Bh,Ax,Cv,Ch,isO,only,Eu,at_0,at_1,at_2,at_3,Bu,isO,Bv,Bw,Bx,Bz,isP,Cp,D.isB,D.isNotB,r3__law_lines,s3__law_lines]
theorem copy_ok (w : Nat) (hw : w ≤ 4) (N : List Cfg) (hN : N.Nodup) (lN : N.length ≤ 1000000) : Fn_Notes_copy [ntD w N] = some (.ret true (ntD w N) []) := by
  have f0 := fld_n0 w N
  have f1 := fld_n1 w N
  have f2 := fld_n2 w N
  have ni := notes_init w hw
  have kd := keys_set keyD N
  have cd : ∀ q0 q1, dcG (Ep 2) Cd e1_Notes_copy e2_Notes_copy [q0, q1, .un] [] (N.map keyD) = some (N.map (setq keyD)) := fun q0 q1 => by
    have := dcS (encA := keyD) key_key (h := (Ep 2)) (gc := Cd) (fk := e1_Notes_copy) (fv := e2_Notes_copy) (ρ := [q0, q1, .un]) (fun c : Cfg => c) N (by omega) (by rw [List.map_id']; exact hN) fun c _ => by
      obtain ⟨kc, hkc⟩ : ∃ kc, kc = keyD c := ⟨_, rfl⟩
      rw [← hkc]
      exact ⟨[q0, q1, .sh (kc)], by simp [Ci,Ca,Bb,Bd,Cw,Fd,Cy,Cf,Bf,Bk,Fe,Ee,Bl,Fg,Aj,El,Be,frz,Ez,Ac,Ba,fC,DL.M.bnd,Aa,Ay,Bc,Az,Fb,Cc,Em,Ff,Cz,Bg,Eo,Bj,Fi,Ck,Ea,Fc,Ed,Cd,up1,Eg,Ek,Bt,Ab,Ap,Aq,Ar,Au,Av,Aw,Ec,Cq,Eb,Kd.fr,Eh,D.isMut,Ep,Ah,Fh,Bi,Ef,Bm,Bn,D.len,D.list,D.tupl,Ak,Al,Am,An,Ai,Ao,Ae,Bo,Bp,Bq,Br,Bs,D.isN,D.isNot,Ei,ix_l,ix_t,ix_s,Ad,Af,LIM,Ej,Out.upE,Ag,Cr,Et,Ce,Es,Co,Ew,Ex,Cu,Cs,fMe,fMk,Ev,fIk,Cl,D.addI,D.subI,Er,fSl,Cj,slD,Cm,gBk,gCt,fLc,Cb,Ey,fCv,Cg,Bh,Ax,Cv,Ch,isO,only,Eu,at_0,at_1,at_2,at_3,Bu,isO,Bv,Bw,Bx,Bz,isP,Cp,D.isB,D.isNotB], rfl, by simp [Ci,Ca,Bb,Bd,Cw,Fd,Cy,Cf,Bf,Bk,Fe,Ee,Bl,Fg,Aj,El,Be,frz,Ez,Ac,Ba,fC,DL.M.bnd,Aa,Ay,Bc,Az,Fb,Cc,Em,Ff,Cz,Bg,Eo,Bj,Fi,Ck,Ea,Fc,Ed,Cd,up1,Eg,Ek,Bt,Ab,Ap,Aq,Ar,Au,Av,Aw,Ec,Cq,Eb,Kd.fr,Eh,D.isMut,Ep,Ah,Fh,Bi,Ef,Bm,Bn,D.len,D.list,D.tupl,Ak,Al,Am,An,Ai,Ao,Ae,Bo,Bp,Bq,Br,Bs,D.isN,D.isNot,Ei,ix_l,ix_t,ix_s,Ad,Af,LIM,Ej,Out.upE,Ag,Cr,Et,Ce,Es,Co,Ew,Ex,Cu,Cs,fMe,fMk,Ev,fIk,Cl,D.addI,D.subI,Er,fSl,Cj,slD,Cm,gBk,gCt,fLc,Cb,Ey,fCv,Cg,Bh,Ax,Cv,Ch,isO,only,Eu,at_0,at_1,at_2,at_3,Bu,isO,Bv,Bw,Bx,Bz,isP,Cp,D.isB,D.isNotB,e1_Notes_copy], by simp [Ci,Ca,Bb,Bd,Cw,Fd,Cy,Cf,Bf,Bk,Fe,Ee,Bl,Fg,Aj,El,Be,frz,Ez,Ac,Ba,fC,DL.M.bnd,Aa,Ay,Bc,Az,Fb,Cc,Em,Ff,Cz,Bg,Eo,Bj,Fi,Ck,Ea,Fc,Ed,Cd,up1,Eg,Ek,Bt,Ab,Ap,Aq,Ar,Au,Av,Aw,Ec,Cq,Eb,Kd.fr,Eh,D.isMut,Ep,Ah,Fh,Bi,Ef,Bm,Bn,D.len,D.list,D.tupl,Ak,Al,Am,An,Ai,Ao,Ae,Bo,Bp,Bq,Br,Bs,D.isN,D.isNot,Ei,ix_l,ix_t,ix_s,Ad,Af,LIM,Ej,Out.upE,Ag,Cr,Et,Ce,Es,Co,Ew,Ex,Cu,Cs,fMe,fMk,Ev,fIk,Cl,D.addI,D.subI,Er,fSl,Cj,slD,Cm,gBk,gCt,fLc,Cb,Ey,fCv,Cg,Bh,Ax,Cv,Ch,isO,only,Eu,at_0,at_1,at_2,at_3,Bu,isO,Bv,Bw,Bx,Bz,isP,Cp,D.isB,D.isNotB,e2_Notes_copy]⟩
    rw [this, List.map_id']
  obtain ⟨nt, hnt⟩ : ∃ nt, nt = ntD w N := ⟨_, rfl⟩
  obtain ⟨NX, hNX⟩ : ∃ NX, NX = N.map encC := ⟨_, rfl⟩
  obtain ⟨NK, hNK⟩ : ∃ NK, NK = N.map (setq keyD) := ⟨_, rfl⟩
  obtain ⟨KX, hKX⟩ : ∃ KX, KX = N.map keyD := ⟨_, rfl⟩
  have en : ntD w N = .obj 3 [.int w, .lst NX, .dct NK] := by rw [hNX, hNK]; rfl
  have en0 : ntD w [] = .obj 3 [.int w, .lst [], .dct []] := rfl
  rw [← hNX] at f1
  rw [← hNK] at f2 kd cd
  rw [← hKX] at kd cd
  rw [← hnt] at f0 f1 f2 ⊢
  rw [en0] at ni
  have g1 : setFld 3 1 (.lst NX) (.obj 3 [.int (w : Nat), .lst [], .dct []]) = some (.obj 3 [.int (w : Nat), .lst NX, .dct []]) := rfl
  have g2 : setFld 3 2 (.dct NK) (.obj 3 [.int (w : Nat), .lst NX, .dct []]) = some (.obj 3 [.int (w : Nat), .lst NX, .dct NK]) := rfl
  have mu0 : (D.obj 3 [.int (w : Nat), .lst [], .dct []]).isMut = true := rfl
  obtain ⟨t0, ht0⟩ : ∃ t0 : D, t0 = .obj 3 [.int (w : Nat), .lst [], .dct []] := ⟨_, rfl⟩
  obtain ⟨t1, ht1⟩ : ∃ t1 : D, t1 = .obj 3 [.int (w : Nat), .lst NX, .dct []] := ⟨_, rfl⟩
  obtain ⟨t2, ht2⟩ : ∃ t2 : D, t2 = .obj 3 [.int (w : Nat), .lst NX, .dct NK] := ⟨_, rfl⟩
  rw [← ht0] at ni g1 mu0
  rw [← ht1] at g1 g2
  rw [← ht2] at g2
  have et : nt = t2 := by rw [hnt, ht2, en]
  show Cq _ (r1_Notes_copy [.bo (nt), .un, .un]) = _
  have e1 : r1_Notes_copy [.bo (nt), .un, .un] = r4_Notes_copy [.bo (nt), .ow (t2), .un] := by
    refine ((gSeq_nx (ρ' := [.bo (nt), .ow (t0), .un]) ?_).trans ((gSeq_nx (ρ' := [.bo (nt), .ow (t1), .un]) ?_).trans (gSeq_nx ?_)))
    · simp [Ci,Ca,Bb,Bd,Cw,Fd,Cy,Cf,Bf,Bk,Fe,Ee,Bl,Fg,Aj,El,Be,frz,Ez,Ac,Ba,fC,DL.M.bnd,Aa,Ay,Bc,Az,Fb,Cc,Em,Ff,Cz,Bg,Eo,Bj,Fi,Ck,Ea,Fc,Ed,Cd,up1,Eg,Ek,Bt,Ab,Ap,Aq,Ar,Au,Av,Aw,Ec,Cq,Eb,Kd.fr,Eh,D.isMut,Ep,Ah,Fh,Bi,Ef,Bm,Bn,D.len,D.list,D.tupl,Ak,Al,Am,An,Ai,Ao,Ae,Bo,Bp,Bq,Br,Bs,D.isN,D.isNot,Ei,ix_l,ix_t,ix_s,Ad,Af,LIM,Ej,Out.upE,Ag,Cr,Et,Ce,Es,Co,Ew,Ex,Cu,Cs,fMe,fMk,Ev,fIk,Cl,D.addI,D.subI,Er,fSl,Cj,slD,Cm,gBk,gCt,fLc,Cb,Ey,fCv,Cg,Bh,Ax,Cv,Ch,isO,only,Eu,at_0,at_1,at_2,at_3,Bu,isO,Bv,Bw,Bx,Bz,isP,Cp,D.isB,D.isNotB,s1_Notes_copy,f0,ni]
      rw [ht0]
      rfl
    · simp [Ci,Ca,Bb,Bd,Cw,Fd,Cy,Cf,Bf,Bk,Fe,Ee,Bl,Fg,Aj,El,Be,frz,Ez,Ac,Ba,fC,DL.M.bnd,Aa,Ay,Bc,Az,Fb,Cc,Em,Ff,Cz,Bg,Eo,Bj,Fi,Ck,Ea,Fc,Ed,Cd,up1,Eg,Ek,Bt,Ab,Ap,Aq,Ar,Au,Av,Aw,Ec,Cq,Eb,Kd.fr,Eh,D.isMut,Ep,Ah,Fh,Bi,Ef,Bm,Bn,D.len,D.list,D.tupl,Ak,Al,Am,An,Ai,Ao,Ae,Bo,Bp,Bq,Br,Bs,D.isN,D.isNot,Ei,ix_l,ix_t,ix_s,Ad,Af,LIM,Ej,Out.upE,Ag,Cr,Et,Ce,Es,Co,Ew,Ex,Cu,Cs,fMe,fMk,Ev,fIk,Cl,D.addI,D.subI,Er,fSl,Cj,slD,Cm,gBk,gCt,fLc,Cb,Ey,fCv,Cg,Bh,Ax,Cv,Ch,isO,only,Eu,at_0,at_1,at_2,at_3,Bu,isO,Bv,Bw,Bx,Bz,isP,Cp,D.isB,D.isNotB,s2_Notes_copy,f1,g1]
    · simp [Ci,Ca,Bb,Bd,Cw,Fd,Cy,Cf,Bf,Bk,Fe,Ee,Bl,Fg,Aj,El,Be,frz,Ez,Ac,Ba,fC,DL.M.bnd,Aa,Ay,Bc,Az,Fb,Cc,Em,Ff,Cz,Bg,Eo,Bj,Fi,Ck,Ea,Fc,Ed,Cd,up1,Eg,Ek,Bt,Ab,Ap,Aq,Ar,Au,Av,Aw,Ec,Cq,Eb,Kd.fr,Eh,D.isMut,Ep,Ah,Fh,Bi,Ef,Bm,Bn,D.len,D.list,D.tupl,Ak,Al,Am,An,Ai,Ao,Ae,Bo,Bp,Bq,Br,Bs,D.isN,D.isNot,Ei,ix_l,ix_t,ix_s,Ad,Af,LIM,Ej,Out.upE,Ag,Cr,Et,Ce,Es,Co,Ew,Ex,Cu,Cs,fMe,fMk,Ev,fIk,Cl,D.addI,D.subI,Er,fSl,Cj,slD,Cm,gBk,gCt,fLc,Cb,Ey,fCv,Cg,Bh,Ax,Cv,Ch,isO,only,Eu,at_0,at_1,at_2,at_3,Bu,isO,Bv,Bw,Bx,Bz,isP,Cp,D.isB,D.isNotB,s3_Notes_copy,f2,fIk,kd,fDc,cd,dctM,g2]
  rw [e1]
  simp [Ci,Ca,Bb,Bd,Cw,Fd,Cy,Cf,Bf,Bk,Fe,Ee,Bl,Fg,Aj,El,Be,frz,Ez,Ac,Ba,fC,DL.M.bnd,Aa,Ay,Bc,Az,Fb,Cc,Em,Ff,Cz,Bg,Eo,Bj,Fi,Ck,Ea,Fc,Ed,Cd,up1,Eg,Ek,Bt,Ab,Ap,Aq,Ar,Au,Av,Aw,Ec,Cq,Eb,Kd.fr,Eh,D.isMut,Ep,Ah,Fh,Bi,Ef,Bm,Bn,D.len,D.list,D.tupl,Ak,Al,Am,An,Ai,Ao,Ae,Bo,Bp,Bq,Br,Bs,D.isN,D.isNot,Ei,ix_l,ix_t,ix_s,Ad,Af,LIM,Ej,Out.upE,Ag,Cr,Et,Ce,Es,Co,Ew,Ex,Cu,Cs,fMe,fMk,Ev,fIk,Cl,D.addI,D.subI,Er,fSl,Cj,slD,Cm,gBk,gCt,fLc,Cb,Ey,fCv,Cg,Bh,Ax,Cv,Ch,isO,only,Eu,at_0,at_1,at_2,at_3,Bu,isO,Bv,Bw,Bx,Bz,isP,Cp,D.isB,D.isNotB,r4_Notes_copy,s4_Notes_copy,et]
theorem pairs_ok (w : Nat) (N : List Cfg) (lN : N.length ≤ 100) : Fn__law_pairs [ntD w N, .lst (N.map keyD)] = some (.ret true (.bl true) []) := by
  have itn := it_n w N
  have en := entry_ok
  obtain ⟨nt, hnt⟩ : ∃ nt, nt = ntD w N := ⟨_, rfl⟩
  rw [← hnt] at itn ⊢
  obtain ⟨prs, hprs⟩ : ∃ prs : List Cfg → List (List Cfg), prs = fun done => done.flatMap fun c => N.map fun d => [c, d] := ⟨_, rfl⟩
  obtain ⟨encP, hencP⟩ : ∃ encP : List Cfg → D, encP = fun l => D.lst (l.map keyD) := ⟨_, rfl⟩
  have lP : ∀ done : List Cfg, ((prs done).map encP).length = done.length * N.length := fun done => by
    rw [hprs, List.length_map]
    induction done with
    | nil => simp
    | cons c done ih =>
      have ih : (done.flatMap fun c => N.map fun d => [c, d]).length = done.length * N.length := ih
      show ((c :: done).flatMap fun c => N.map fun d => [c, d]).length = _
      rw [List.flatMap_cons, List.length_append, ih, List.length_map, List.length_cons, Nat.succ_mul]
      omega
  have pS : ∀ done c, prs (done ++ [c]) = prs done ++ N.map fun d => [c, d] := fun done c => by
    rw [hprs]
    simp [List.flatMap_append]
  have bnd : ∀ n : Nat, n ≤ N.length → n * N.length ≤ 10000 := fun n hn => Nat.le_trans (Nat.mul_le_mul hn (Nat.le_refl _)) (Nat.le_trans (Nat.mul_le_mul lN lN) (by decide))
  obtain ⟨KX, hKX⟩ : ∃ KX, KX = N.map keyD := ⟨_, rfl⟩
  obtain ⟨NX, hNX⟩ : ∃ NX, NX = N.map encC := ⟨_, rfl⟩
  rw [← hNX] at itn
  rw [← hKX]
  obtain ⟨ρ', e1, q4, f4, rfl⟩ := loop_invT (h := (Ep 4)) (g := b1__law_pairs) encC N (fun done ρ => ∃ q4 : Sl, q4.free = true ∧ ρ = [.bo (nt), .bo (.lst KX), .sh (.lst ((prs done).map encP)), .sh (.lst []), q4, .un]) [.bo (nt), .bo (.lst KX), .sh (.lst []), .sh (.lst []), .un, .un] ⟨_, rfl, by rw [hprs]; rfl⟩ (by
    rintro done c rest ρ er ⟨q4, f4, rfl⟩
    have hd := mid_len er
    have lD := lP done
    have b1 := bnd done.length (by omega)
    have pc := pS done c
    obtain ⟨DX, hDX⟩ : ∃ DX, DX = (prs done).map encP := ⟨_, rfl⟩
    rw [← hDX] at lD ⊢
    obtain ⟨ec, hec⟩ : ∃ ec, ec = encC c := ⟨_, rfl⟩
    have enc := en c
    rw [← hec] at enc ⊢
    have c1 : compG (Ep 5) Cd e1__law_pairs [.bo (nt), .bo (.lst KX), .sh (.lst DX), .sh (.lst []), .sh (ec), .un] (N.map encC) = some ((N.map fun d => [c, d]).map encP) := by
      rw [List.map_map]
      exact compG_all (h := (Ep 5)) (fe := e1__law_pairs) (ρ := [.bo (nt), .bo (.lst KX), .sh (.lst DX), .sh (.lst []), .sh (ec), .un]) encC (fun d => encP [c, d]) N fun d _ => by
        have end_ := en d
        obtain ⟨ed, hed⟩ : ∃ ed, ed = encC d := ⟨_, rfl⟩
        rw [← hed] at end_ ⊢
        have ep : encP [c, d] = .lst [keyD c, keyD d] := by rw [hencP]; rfl
        obtain ⟨kc, hkc⟩ : ∃ kc, kc = keyD c := ⟨_, rfl⟩
        obtain ⟨kd, hkd⟩ : ∃ kd, kd = keyD d := ⟨_, rfl⟩
        rw [← hkc] at enc ep
        rw [← hkd] at end_ ep
        rw [ep]
        exact ⟨[.bo (nt), .bo (.lst KX), .sh (.lst DX), .sh (.lst []), .sh (ec), .sh (ed)], by simp [Ci,Ca,Bb,Bd,Cw,Fd,Cy,Cf,Bf,Bk,Fe,Ee,Bl,Fg,Aj,El,Be,frz,Ez,Ac,Ba,fC,DL.M.bnd,Aa,Ay,Bc,Az,Fb,Cc,Em,Ff,Cz,Bg,Eo,Bj,Fi,Ck,Ea,Fc,Ed,Cd,up1,Eg,Ek,Bt,Ab,Ap,Aq,Ar,Au,Av,Aw,Ec,Cq,Eb,Kd.fr,Eh,D.isMut,Ep,Ah,Fh,Bi,Ef,Bm,Bn,D.len,D.list,D.tupl,Ak,Al,Am,An,Ai,Ao,Ae,Bo,Bp,Bq,Br,Bs,D.isN,D.isNot,Ei,ix_l,ix_t,ix_s,Ad,Af,LIM,Ej,Out.upE,Ag,Cr,Et,Ce,Es,Co,Ew,Ex,Cu,Cs,fMe,fMk,Ev,fIk,Cl,D.addI,D.subI,Er,fSl,Cj,slD,Cm,gBk,gCt,fLc,Cb,Ey,fCv,Cg,Bh,Ax,Cv,Ch,isO,only,Eu,at_0,at_1,at_2,at_3,Bu,isO,Bv,Bw,Bx,Bz,isP,Cp,D.isB,D.isNotB], by simp [Ci,Ca,Bb,Bd,Cw,Fd,Cy,Cf,Bf,Bk,Fe,Ee,Bl,Fg,Aj,El,Be,frz,Ez,Ac,Ba,fC,DL.M.bnd,Aa,Ay,Bc,Az,Fb,Cc,Em,Ff,Cz,Bg,Eo,Bj,Fi,Ck,Ea,Fc,Ed,Cd,up1,Eg,Ek,Bt,Ab,Ap,Aq,Ar,Au,Av,Aw,Ec,Cq,Eb,Kd.fr,Eh,D.isMut,Ep,Ah,Fh,Bi,Ef,Bm,Bn,D.len,D.list,D.tupl,Ak,Al,Am,An,Ai,Ao,Ae,Bo,Bp,Bq,Br,Bs,D.isN,D.isNot,Ei,ix_l,ix_t,ix_s,Ad,Af,LIM,Ej,Out.upE,Ag,Cr,Et,Ce,Es,Co,Ew,Ex,Cu,Cs,fMe,fMk,Ev,fIk,Cl,D.addI,D.subI,Er,fSl,Cj,slD,Cm,gBk,gCt,fLc,Cb,Ey,fCv,Cg,Bh,Ax,Cv,Ch,isO,only,Eu,at_0,at_1,at_2,at_3,Bu,isO,Bv,Bw,Bx,Bz,isP,Cp,D.isB,D.isNotB,e1__law_pairs,enc,end_]⟩
    obtain ⟨PX, hPX⟩ : ∃ PX, PX = (N.map fun d => [c, d]).map encP := ⟨_, rfl⟩
    have lX : PX.length = N.length := by rw [hPX, List.length_map, List.length_map]
    rw [← hPX, ← hNX] at c1
    have ad : D.add (.lst DX) (.lst PX) = some (.lst (DX ++ PX)) := add_ll (by omega)
    have eD : DX ++ PX = (prs (done ++ [c])).map encP := by rw [pc, List.map_append, hDX, hPX]
    refine ⟨[.bo (nt), .bo (.lst KX), .sh (.lst DX), .sh (.lst []), .sh (ec), .un], [.bo (nt), .bo (.lst KX), .sh (.lst (DX ++ PX)), .sh (.lst []), .sh (ec), .un], by simp [Ci,Ca,Bb,Bd,Cw,Fd,Cy,Cf,Bf,Bk,Fe,Ee,Bl,Fg,Aj,El,Be,frz,Ez,Ac,Ba,fC,DL.M.bnd,Aa,Ay,Bc,Az,Fb,Cc,Em,Ff,Cz,Bg,Eo,Bj,Fi,Ck,Ea,Fc,Ed,Cd,up1,Eg,Ek,Bt,Ab,Ap,Aq,Ar,Au,Av,Aw,Ec,Cq,Eb,Kd.fr,Eh,D.isMut,Ep,Ah,Fh,Bi,Ef,Bm,Bn,D.len,D.list,D.tupl,Ak,Al,Am,An,Ai,Ao,Ae,Bo,Bp,Bq,Br,Bs,D.isN,D.isNot,Ei,ix_l,ix_t,ix_s,Ad,Af,LIM,Ej,Out.upE,Ag,Cr,Et,Ce,Es,Co,Ew,Ex,Cu,Cs,fMe,fMk,Ev,fIk,Cl,D.addI,D.subI,Er,fSl,Cj,slD,Cm,gBk,gCt,fLc,Cb,Ey,fCv,Cg,Bh,Ax,Cv,Ch,isO,only,Eu,at_0,at_1,at_2,at_3,Bu,isO,Bv,Bw,Bx,Bz,isP,Cp,D.isB,D.isNotB,f4], .inl ?_, _, rfl, by rw [eD]⟩
    simp [Ci,Ca,Bb,Bd,Cw,Fd,Cy,Cf,Bf,Bk,Fe,Ee,Bl,Fg,Aj,El,Be,frz,Ez,Ac,Ba,fC,DL.M.bnd,Aa,Ay,Bc,Az,Fb,Cc,Em,Ff,Cz,Bg,Eo,Bj,Fi,Ck,Ea,Fc,Ed,Cd,up1,Eg,Ek,Bt,Ab,Ap,Aq,Ar,Au,Av,Aw,Ec,Cq,Eb,Kd.fr,Eh,D.isMut,Ep,Ah,Fh,Bi,Ef,Bm,Bn,D.len,D.list,D.tupl,Ak,Al,Am,An,Ai,Ao,Ae,Bo,Bp,Bq,Br,Bs,D.isN,D.isNot,Ei,ix_l,ix_t,ix_s,Ad,Af,LIM,Ej,Out.upE,Ag,Cr,Et,Ce,Es,Co,Ew,Ex,Cu,Cs,fMe,fMk,Ev,fIk,Cl,D.addI,D.subI,Er,fSl,Cj,slD,Cm,gBk,gCt,fLc,Cb,Ey,fCv,Cg,Bh,Ax,Cv,Ch,isO,only,Eu,at_0,at_1,at_2,at_3,Bu,isO,Bv,Bw,Bx,Bz,isP,Cp,D.isB,D.isNotB,b1__law_pairs,fItOL,itn,c1,limL_ok (show PX.length ≤ 16000000 by omega),ad])
  obtain ⟨HX, hHX⟩ : ∃ HX, HX = (prs N).map encP := ⟨_, rfl⟩
  rw [← hHX] at e1
  obtain ⟨ρ', e2, q4', f4', rfl⟩ := loop_invT (h := (Ep 4)) (g := b2__law_pairs) keyD N (fun done ρ => ∃ q4 : Sl, q4.free = true ∧ ρ = [.bo (nt), .bo (.lst KX), .sh (.lst HX), .sh (.lst ((prs done).map encP)), q4, .un]) [.bo (nt), .bo (.lst KX), .sh (.lst HX), .sh (.lst []), q4, .un] ⟨_, f4, by rw [hprs]; rfl⟩ (by
    rintro done c rest ρ er ⟨q4, f4, rfl⟩
    have hd := mid_len er
    have lD := lP done
    have b1 := bnd done.length (by omega)
    have pc := pS done c
    obtain ⟨DX, hDX⟩ : ∃ DX, DX = (prs done).map encP := ⟨_, rfl⟩
    rw [← hDX] at lD ⊢
    have ep0 : ∀ d, encP [c, d] = .lst [keyD c, keyD d] := fun d => by rw [hencP]; rfl
    obtain ⟨kc, hkc⟩ : ∃ kc, kc = keyD c := ⟨_, rfl⟩
    rw [← hkc] at ep0 ⊢
    have c1 : compG (Ep 5) Cd e2__law_pairs [.bo (nt), .bo (.lst KX), .sh (.lst HX), .sh (.lst DX), .sh (kc), .un] (N.map keyD) = some ((N.map fun d => [c, d]).map encP) := by
      rw [List.map_map]
      exact compG_all (h := (Ep 5)) (fe := e2__law_pairs) (ρ := [.bo (nt), .bo (.lst KX), .sh (.lst HX), .sh (.lst DX), .sh (kc), .un]) keyD (fun d => encP [c, d]) N fun d _ => by
        have ep := ep0 d
        obtain ⟨kd, hkd⟩ : ∃ kd, kd = keyD d := ⟨_, rfl⟩
        rw [← hkd] at ep ⊢
        rw [ep]
        exact ⟨[.bo (nt), .bo (.lst KX), .sh (.lst HX), .sh (.lst DX), .sh (kc), .sh (kd)], by simp [Ci,Ca,Bb,Bd,Cw,Fd,Cy,Cf,Bf,Bk,Fe,Ee,Bl,Fg,Aj,El,Be,frz,Ez,Ac,Ba,fC,DL.M.bnd,Aa,Ay,Bc,Az,Fb,Cc,Em,Ff,Cz,Bg,Eo,Bj,Fi,Ck,Ea,Fc,Ed,Cd,up1,Eg,Ek,Bt,Ab,Ap,Aq,Ar,Au,Av,Aw,Ec,Cq,Eb,Kd.fr,Eh,D.isMut,Ep,Ah,Fh,Bi,Ef,Bm,Bn,D.len,D.list,D.tupl,Ak,Al,Am,An,Ai,Ao,Ae,Bo,Bp,Bq,Br,Bs,D.isN,D.isNot,Ei,ix_l,ix_t,ix_s,Ad,Af,LIM,Ej,Out.upE,Ag,Cr,Et,Ce,Es,Co,Ew,Ex,Cu,Cs,fMe,fMk,Ev,fIk,Cl,D.addI,D.subI,Er,fSl,Cj,slD,Cm,gBk,gCt,fLc,Cb,Ey,fCv,Cg,Bh,Ax,Cv,Ch,isO,only,Eu,at_0,at_1,at_2,at_3,Bu,isO,Bv,Bw,Bx,Bz,isP,Cp,D.isB,D.isNotB], by simp [Ci,Ca,Bb,Bd,Cw,Fd,Cy,Cf,Bf,Bk,Fe,Ee,Bl,Fg,Aj,El,Be,frz,Ez,Ac,Ba,fC,DL.M.bnd,Aa,Ay,Bc,Az,Fb,Cc,Em,Ff,Cz,Bg,Eo,Bj,Fi,Ck,Ea,Fc,Ed,Cd,up1,Eg,Ek,Bt,Ab,Ap,Aq,Ar,Au,Av,Aw,Ec,Cq,Eb,Kd.fr,Eh,D.isMut,Ep,Ah,Fh,Bi,Ef,Bm,Bn,D.len,D.list,D.tupl,Ak,Al,Am,An,Ai,Ao,Ae,Bo,Bp,Bq,Br,Bs,D.isN,D.isNot,Ei,ix_l,ix_t,ix_s,Ad,Af,LIM,Ej,Out.upE,Ag,Cr,Et,Ce,Es,Co,Ew,Ex,Cu,Cs,fMe,fMk,Ev,fIk,Cl,D.addI,D.subI,Er,fSl,Cj,slD,Cm,gBk,gCt,fLc,Cb,Ey,fCv,Cg,Bh,Ax,Cv,Ch,isO,only,Eu,at_0,at_1,at_2,at_3,Bu,isO,Bv,Bw,Bx,Bz,isP,Cp,D.isB,D.isNotB,e2__law_pairs]⟩
    obtain ⟨PX, hPX⟩ : ∃ PX, PX = (N.map fun d => [c, d]).map encP := ⟨_, rfl⟩
    have lX : PX.length = N.length := by rw [hPX, List.length_map, List.length_map]
    rw [← hPX, ← hKX] at c1
    have ad : D.add (.lst DX) (.lst PX) = some (.lst (DX ++ PX)) := add_ll (by omega)
    have eD : DX ++ PX = (prs (done ++ [c])).map encP := by rw [pc, List.map_append, hDX, hPX]
    refine ⟨[.bo (nt), .bo (.lst KX), .sh (.lst HX), .sh (.lst DX), .sh (kc), .un], [.bo (nt), .bo (.lst KX), .sh (.lst HX), .sh (.lst (DX ++ PX)), .sh (kc), .un], by simp [Ci,Ca,Bb,Bd,Cw,Fd,Cy,Cf,Bf,Bk,Fe,Ee,Bl,Fg,Aj,El,Be,frz,Ez,Ac,Ba,fC,DL.M.bnd,Aa,Ay,Bc,Az,Fb,Cc,Em,Ff,Cz,Bg,Eo,Bj,Fi,Ck,Ea,Fc,Ed,Cd,up1,Eg,Ek,Bt,Ab,Ap,Aq,Ar,Au,Av,Aw,Ec,Cq,Eb,Kd.fr,Eh,D.isMut,Ep,Ah,Fh,Bi,Ef,Bm,Bn,D.len,D.list,D.tupl,Ak,Al,Am,An,Ai,Ao,Ae,Bo,Bp,Bq,Br,Bs,D.isN,D.isNot,Ei,ix_l,ix_t,ix_s,Ad,Af,LIM,Ej,Out.upE,Ag,Cr,Et,Ce,Es,Co,Ew,Ex,Cu,Cs,fMe,fMk,Ev,fIk,Cl,D.addI,D.subI,Er,fSl,Cj,slD,Cm,gBk,gCt,fLc,Cb,Ey,fCv,Cg,Bh,Ax,Cv,Ch,isO,only,Eu,at_0,at_1,at_2,at_3,Bu,isO,Bv,Bw,Bx,Bz,isP,Cp,D.isB,D.isNotB,f4], .inl ?_, _, rfl, by rw [eD]⟩
    simp [Ci,Ca,Bb,Bd,Cw,Fd,Cy,Cf,Bf,Bk,Fe,Ee,Bl,Fg,Aj,El,Be,frz,Ez,Ac,Ba,fC,DL.M.bnd,Aa,Ay,Bc,Az,Fb,Cc,Em,Ff,Cz,Bg,Eo,Bj,Fi,Ck,Ea,Fc,Ed,Cd,up1,Eg,Ek,Bt,Ab,Ap,Aq,Ar,Au,Av,Aw,Ec,Cq,Eb,Kd.fr,Eh,D.isMut,Ep,Ah,Fh,Bi,Ef,Bm,Bn,D.len,D.list,D.tupl,Ak,Al,Am,An,Ai,Ao,Ae,Bo,Bp,Bq,Br,Bs,D.isN,D.isNot,Ei,ix_l,ix_t,ix_s,Ad,Af,LIM,Ej,Out.upE,Ag,Cr,Et,Ce,Es,Co,Ew,Ex,Cu,Cs,fMe,fMk,Ev,fIk,Cl,D.addI,D.subI,Er,fSl,Cj,slD,Cm,gBk,gCt,fLc,Cb,Ey,fCv,Cg,Bh,Ax,Cv,Ch,isO,only,Eu,at_0,at_1,at_2,at_3,Bu,isO,Bv,Bw,Bx,Bz,isP,Cp,D.isB,D.isNotB,b2__law_pairs,c1,limL_ok (show PX.length ≤ 16000000 by omega),ad])
  rw [← hHX] at e2
  have eq := eqE_key.lst.lst.deq (by decide) (prs N) (prs N)
  have eqH : D.eq (.lst HX) (.lst HX) = some (.bl true) := by
    rw [hHX, hencP]
    refine eq.trans ?_
    simp
  rw [← hNX] at e1
  rw [← hKX] at e2
  show Cq _ (r1__law_pairs [.bo (nt), .bo (.lst KX), .un, .un, .un, .un]) = _
  have e : r1__law_pairs [.bo (nt), .bo (.lst KX), .un, .un, .un, .un] = r5__law_pairs [.bo (nt), .bo (.lst KX), .sh (.lst HX), .sh (.lst HX), q4', .un] := by
    refine ((gSeq_nx (ρ' := [.bo (nt), .bo (.lst KX), .sh (.lst []), .un, .un, .un]) ?_).trans ((gSeq_nx (ρ' := [.bo (nt), .bo (.lst KX), .sh (.lst []), .sh (.lst []), .un, .un]) ?_).trans ((gSeq_nx (ρ' := [.bo (nt), .bo (.lst KX), .sh (.lst HX), .sh (.lst []), q4, .un]) ?_).trans (gSeq_nx ?_))))
    · simp [Ci,Ca,Bb,Bd,Cw,Fd,Cy,Cf,Bf,Bk,Fe,Ee,Bl,Fg,Aj,El,Be,frz,Ez,Ac,Ba,fC,DL.M.bnd,Aa,Ay,Bc,Az,Fb,Cc,Em,Ff,Cz,Bg,Eo,Bj,Fi,Ck,Ea,Fc,Ed,Cd,up1,Eg,Ek,Bt,Ab,Ap,Aq,Ar,Au,Av,Aw,Ec,Cq,Eb,Kd.fr,Eh,D.isMut,Ep,Ah,Fh,Bi,Ef,Bm,Bn,D.len,D.list,D.tupl,Ak,Al,Am,An,Ai,Ao,Ae,Bo,Bp,Bq,Br,Bs,D.isN,D.isNot,Ei,ix_l,ix_t,ix_s,Ad,Af,LIM,Ej,Out.upE,Ag,Cr,Et,Ce,Es,Co,Ew,Ex,Cu,Cs,fMe,fMk,Ev,fIk,Cl,D.addI,D.subI,Er,fSl,Cj,slD,Cm,gBk,gCt,fLc,Cb,Ey,fCv,Cg,Bh,Ax,Cv,Ch,isO,only,Eu,at_0,at_1,at_2,at_3,Bu,isO,Bv,Bw,Bx,Bz,isP,Cp,D.isB,D.isNotB,s1__law_pairs]
    · simp [Ci,Ca,Bb,Bd,Cw,Fd,Cy,Cf,Bf,Bk,Fe,Ee,Bl,Fg,Aj,El,Be,frz,Ez,Ac,Ba,fC,DL.M.bnd,Aa,Ay,Bc,Az,Fb,Cc,Em,Ff,Cz,Bg,Eo,Bj,Fi,Ck,Ea,Fc,Ed,Cd,up1,Eg,Ek,Bt,Ab,Ap,Aq,Ar,Au,Av,Aw,Ec,Cq,Eb,Kd.fr,Eh,D.isMut,Ep,Ah,Fh,Bi,Ef,Bm,Bn,D.len,D.list,D.tupl,Ak,Al,Am,An,Ai,Ao,Ae,Bo,Bp,Bq,Br,Bs,D.isN,D.isNot,Ei,ix_l,ix_t,ix_s,Ad,Af,LIM,Ej,Out.upE,Ag,Cr,Et,Ce,Es,Co,Ew,Ex,Cu,Cs,fMe,fMk,Ev,fIk,Cl,D.addI,D.subI,Er,fSl,Cj,slD,Cm,gBk,gCt,fLc,Cb,Ey,fCv,Cg,Bh,Ax,Cv,Ch,isO,only,Eu,at_0,at_1,at_2,at_3,Bu,isO,Bv,Bw,Bx,Bz,isP,Cp,D.isB,D.isNotB,s2__law_pairs]
    · simp [Ci,Ca,Bb,Bd,Cw,Fd,Cy,Cf,Bf,Bk,Fe,Ee,Bl,Fg,Aj,El,Be,frz,Ez,Ac,Ba,fC,DL.M.bnd,Aa,Ay,Bc,Az,Fb,Cc,Em,Ff,Cz,Bg,Eo,Bj,Fi,Ck,Ea,Fc,Ed,Cd,up1,Eg,Ek,Bt,Ab,Ap,Aq,Ar,Au,Av,Aw,Ec,Cq,Eb,Kd.fr,Eh,D.isMut,Ep,Ah,Fh,Bi,Ef,Bm,Bn,D.len,D.list,D.tupl,Ak,Al,Am,An,Ai,Ao,Ae,Bo,Bp,Bq,Br,Bs,D.isN,D.isNot,Ei,ix_l,ix_t,ix_s,Ad,Af,LIM,Ej,Out.upE,Ag,Cr,Et,Ce,Es,Co,Ew,Ex,Cu,Cs,fMe,fMk,Ev,fIk,Cl,D.addI,D.subI,Er,fSl,Cj,slD,Cm,gBk,gCt,fLc,Cb,Ey,fCv,Cg,Bh,Ax,Cv,Ch,isO,only,Eu,at_0,at_1,at_2,at_3,Bu,isO,Bv,Bw,Bx,Bz,isP,Cp,D.isB,D.isNotB,s3__law_pairs,fItOL,itn,e1]
    · simp [Ci,Ca,Bb,Bd,Cw,Fd,Cy,Cf,Bf,Bk,Fe,Ee,Bl,Fg,Aj,El,Be,frz,Ez,Ac,Ba,fC,DL.M.bnd,Aa,Ay,Bc,Az,Fb,Cc,Em,Ff,Cz,Bg,Eo,Bj,Fi,Ck,Ea,Fc,Ed,Cd,up1,Eg,Ek,Bt,Ab,Ap,Aq,Ar,Au,Av,Aw,Ec,Cq,Eb,Kd.fr,Eh,D.isMut,Ep,Ah,Fh,Bi,Ef,Bm,Bn,D.len,D.list,D.tupl,Ak,Al,Am,An,Ai,Ao,Ae,Bo,Bp,Bq,Br,Bs,D.isN,D.isNot,Ei,ix_l,ix_t,ix_s,Ad,Af,LIM,Ej,Out.upE,Ag,Cr,Et,Ce,Es,Co,Ew,Ex,Cu,Cs,fMe,fMk,Ev,fIk,Cl,D.addI,D.subI,Er,fSl,Cj,slD,Cm,gBk,gCt,fLc,Cb,Ey,fCv,Cg,Bh,Ax,Cv,Ch,isO,only,Eu,at_0,at_1,at_2,at_3,Bu,isO,Bv,Bw,Bx,Bz,isP,Cp,D.isB,D.isNotB,s4__law_pairs,e2]
  rw [e]
  simp [Ci,Ca,Bb,Bd,Cw,Fd,Cy,Cf,Bf,Bk,Fe,Ee,Bl,Fg,Aj,El,Be,frz,Ez,Ac,Ba,fC,DL.M.bnd,Aa,Ay,Bc,Az,Fb,Cc,Em,Ff,Cz,Bg,Eo,Bj,Fi,Ck,Ea,Fc,Ed,Cd,up1,Eg,Ek,Bt,Ab,Ap,Aq,Ar,Au,Av,Aw,Ec,Cq,Eb,Kd.fr,Eh,D.isMut,Ep,Ah,Fh,Bi,Ef,Bm,Bn,D.len,D.list,D.tupl,Ak,Al,Am,An,Ai,Ao,Ae,Bo,Bp,Bq,Br,Bs,D.isN,D.isNot,Ei,ix_l,ix_t,ix_s,Ad,Af,LIM,Ej,Out.upE,Ag,Cr,Et,Ce,Es,Co,Ew,Ex,Cu,Cs,fMe,fMk,Ev,fIk,Cl,D.addI,D.subI,Er,fSl,Cj,slD,Cm,gBk,gCt,fLc,Cb,Ey,fCv,Cg,Bh,Ax,Cv,Ch,isO,only,Eu,at_0,at_1,at_2,at_3,Bu,isO,Bv,Bw,Bx,Bz,isP,Cp,D.isB,D.isNotB,r5__law_pairs,s5__law_pairs,eqH]
end DL
namespace DL
open PySem PySem.Spec L2
theorem mk_tup (M : List Int) (h0 : ∀ x ∈ M, 0 ≤ x) (hs : M.Pairwise (· ≤ ·)) (hl : M.length ≤ 1000) : Fn_Crowd___init__ [.obj 0 [], .tup (M.map D.int)] = some (.ret true .non [crD M]) := by
  have := init_ok M h0 (by omega) true
  rw [srt_id hs] at this
  exact this
theorem ban_one (M : List Int) (hl : M.length ≤ 4) {s : Int} (hs : 0 ≤ s ∧ s < 48) : Fn_Ban___init__ [.obj 2 [], crD M, .lst [.int s]] = some (.ret true .non [bnD M (some [s])]) := by
  have bs := ban_some false M [s] hl (by simp)
  have o := one_iv (S := 48) hs
  rw [if_pos (kn_ok (S := 48) (by decide) o (by simp)), kn_id (S := 48) (by decide) o] at bs
  exact bs
theorem eqE_row : EqEnc encR 2 := EqEnc.int.tup
theorem asked_ok (w : Nat) (hw : w ≤ 4) (N O : List Cfg) (hN : ∀ c ∈ N, Row12 w c) (hO : ∀ c ∈ O, Row12 w c) (lN : N.length ≤ 100) (lO : O.length ≤ 100) : Fn__law_asked [ntD w N, .lst (N.map keyD), .lst (O.map keyD)] = some (.ret true (.bl true) []) := by
  have isn := isN w N
  have inn := notes_in w N
  have ge := fun s => nt_get w N s (by omega)
  have lnn := notes_len w N
  have li := lines_ok w hw N hN (by omega)
  have ll := law_lines_ok w hw N hN (by omega)
  have ad := fun s M a b c => admits_own w N s M a b c hw
  have le := fun s M a b c => lets_own w N s M a b c hw
  have eqL : D.eq (.lst (N.map ltD)) (.lst (N.map ltD)) = some (.bl true) := (eqr_lines N).eq (by decide)
  obtain ⟨nt, hnt⟩ : ∃ nt, nt = ntD w N := ⟨_, rfl⟩
  rw [← hnt] at isn inn ge lnn li ad le ⊢
  obtain ⟨KN, hKN⟩ : ∃ KN, KN = N.map keyD := ⟨_, rfl⟩
  obtain ⟨KO, hKO⟩ : ∃ KO, KO = O.map keyD := ⟨_, rfl⟩
  have lKN : KN.length = N.length := by rw [hKN, List.length_map]
  have lKO : KO.length = O.length := by rw [hKO, List.length_map]
  obtain ⟨ρ', e, q3, q4, q5, q6, _, _, _, _, rfl⟩ := loop_invT (h := (Ep 3)) (g := b1__law_asked) keyD (N ++ O) (fun done ρ => ∃ q3 q4 q5 q6 : Sl, q3.free = true ∧ q4.free = true ∧ q5.free = true ∧ q6.free = true ∧ ρ = [.bo (nt), .bo (.lst KN), .bo (.lst KO), q3, q4, q5, q6, .un]) [.bo (nt), .bo (.lst KN), .bo (.lst KO), .un, .un, .un, .un, .un] ⟨_, _, _, _, rfl, rfl, rfl, rfl, rfl⟩ (by
    rintro done ⟨s, M⟩ rest ρ er ⟨q3, q4, q5, q6, f3, f4, f5, f6, rfl⟩
    have hc : Row12 w (s, M) := by
      rcases List.mem_append.mp (mid_mem er) with h | h
      · exact hN _ h
      · exact hO _ h
    have s0 : 0 ≤ s := hc.s0
    have s1 : s < 48 := hc.s1
    have lM : M.length = w := hc.len
    have aM : M.Pairwise (· ≤ ·) := hc.asc
    have pM : ∀ x ∈ M, 0 ≤ x := fun x hx => (hc.mem x hx).1
    have i1 : D.inn (keyD (s, M)) (.lst KN) = some (.bl (decide ((s, M) ∈ N))) := by
      rw [hKN, eqE_key.inn (by decide)]
      congr
    have mk := mk_tup M pM aM (by omega)
    have bn1 := ban_one M (by omega) ⟨s0, s1⟩
    have in1 := inn (s, M)
    have ad1 := ad s M aM pM lM
    have le1 := le s M aM pM lM
    have g := ge s
    obtain ⟨Ms, hMs⟩ : ∃ Ms, Ms = (N.filter fun c => decide (c.1 = s)).map (·.2) := ⟨_, rfl⟩
    rw [← hMs] at g
    have lMs : Ms.length ≤ N.length := by rw [hMs, List.length_map]; exact List.length_filter_le _ _
    obtain ⟨b, hb⟩ : ∃ b, b = decide ((s, M) ∈ N) := ⟨_, rfl⟩
    rw [← hb] at i1 in1 ad1 le1
    have n3 : D.ne (.lst [.bl b, .bl b, .bl b]) (.lst [.bl b, .bl b, .bl b]) = some (.bl false) := by cases b <;> kernel_rfl
    have ec : encC (s, M) = .tup [.int s, crD M] := rfl
    obtain ⟨cm, hcm⟩ : ∃ cm, cm = crD M := ⟨_, rfl⟩
    obtain ⟨MX, hMX⟩ : ∃ MX, MX = M.map D.int := ⟨_, rfl⟩
    have kk : keyD (s, M) = .tup [.int s, .tup MX] := by rw [hMX]; rfl
    obtain ⟨bn, hbn⟩ : ∃ bn, bn = bnD M (some [s]) := ⟨_, rfl⟩
    rw [← hcm] at ec mk bn1 ad1
    rw [← hMX] at mk
    rw [← hbn] at bn1 le1
    rw [ec] at in1
    rw [kk] at i1 ⊢
    have c1 : ∀ q6, compG (Ep 7) Cd e1__law_asked [.bo (nt), .bo (.lst KN), .bo (.lst KO), .sh (.tup [.int s, .tup MX]), .sh (.bl b), .sh (cm), q6, .un] (Ms.map crD) = some (Ms.map encR) := fun q6 =>
      compG_all (h := (Ep 7)) (fe := e1__law_asked) (ρ := [.bo (nt), .bo (.lst KN), .bo (.lst KO), .sh (.tup [.int s, .tup MX]), .sh (.bl b), .sh (cm), q6, .un]) crD encR Ms fun R _ => by
        have f0 := Bu R
        obtain ⟨cr, hcr⟩ : ∃ cr, cr = crD R := ⟨_, rfl⟩
        rw [← hcr] at f0 ⊢
        exact ⟨[.bo (nt), .bo (.lst KN), .bo (.lst KO), .sh (.tup [.int s, .tup MX]), .sh (.bl b), .sh (cm), q6, .sh (cr)], by simp [Ci,Ca,Bb,Bd,Cw,Fd,Cy,Cf,Bf,Bk,Fe,Ee,Bl,Fg,Aj,El,Be,frz,Ez,Ac,Ba,fC,DL.M.bnd,Aa,Ay,Bc,Az,Fb,Cc,Em,Ff,Cz,Bg,Eo,Bj,Fi,Ck,Ea,Fc,Ed,Cd,up1,Eg,Ek,Bt,Ab,Ap,Aq,Ar,Au,Av,Aw,Ec,Cq,Eb,Kd.fr,Eh,D.isMut,Ep,Ah,Fh,Bi,Ef,Bm,Bn,D.len,D.list,D.tupl,Ak,Al,Am,An,Ai,Ao,Ae,Bo,Bp,Bq,Br,Bs,D.isN,D.isNot,Ei,ix_l,ix_t,ix_s,Ad,Af,LIM,Ej,Out.upE,Ag,Cr,Et,Ce,Es,Co,Ew,Ex,Cu,Cs,fMe,fMk,Ev,fIk,Cl,D.addI,D.subI,Er,fSl,Cj,slD,Cm,gBk,gCt,fLc,Cb,Ey,fCv,Cg,Bh,Ax,Cv,Ch,isO,only,Eu,at_0,at_1,at_2,at_3,Bu,isO,Bv,Bw,Bx,Bz,isP,Cp,D.isB,D.isNotB], by simp [Ci,Ca,Bb,Bd,Cw,Fd,Cy,Cf,Bf,Bk,Fe,Ee,Bl,Fg,Aj,El,Be,frz,Ez,Ac,Ba,fC,DL.M.bnd,Aa,Ay,Bc,Az,Fb,Cc,Em,Ff,Cz,Bg,Eo,Bj,Fi,Ck,Ea,Fc,Ed,Cd,up1,Eg,Ek,Bt,Ab,Ap,Aq,Ar,Au,Av,Aw,Ec,Cq,Eb,Kd.fr,Eh,D.isMut,Ep,Ah,Fh,Bi,Ef,Bm,Bn,D.len,D.list,D.tupl,Ak,Al,Am,An,Ai,Ao,Ae,Bo,Bp,Bq,Br,Bs,D.isN,D.isNot,Ei,ix_l,ix_t,ix_s,Ad,Af,LIM,Ej,Out.upE,Ag,Cr,Et,Ce,Es,Co,Ew,Ex,Cu,Cs,fMe,fMk,Ev,fIk,Cl,D.addI,D.subI,Er,fSl,Cj,slD,Cm,gBk,gCt,fLc,Cb,Ey,fCv,Cg,Bh,Ax,Cv,Ch,isO,only,Eu,at_0,at_1,at_2,at_3,Bu,isO,Bv,Bw,Bx,Bz,isP,Cp,D.isB,D.isNotB,e1__law_asked,f0,encR]⟩
    have c2 : ∀ q6, compG (Ep 7) c1__law_asked e2__law_asked [.bo (nt), .bo (.lst KN), .bo (.lst KO), .sh (.tup [.int s, .tup MX]), .sh (.bl b), .sh (cm), q6, .un] (N.map keyD) = some (Ms.map encR) := fun q6 => by
      rw [compG_map keyD (fun c => decide (c.1 = s)) (fun c => encR c.2) N fun c _ => ?_, hMs, List.map_map]
      · rfl
      · obtain ⟨t, R⟩ := c
        have k2 : keyD (t, R) = .tup [.int t, encR R] := rfl
        obtain ⟨ea, hea⟩ : ∃ ea, ea = encR R := ⟨_, rfl⟩
        rw [← hea] at k2
        rw [k2]
        refine ⟨[.bo (nt), .bo (.lst KN), .bo (.lst KO), .sh (.tup [.int s, .tup MX]), .sh (.bl b), .sh (cm), q6, .sh (.tup [.int t, ea])], by simp [Ci,Ca,Bb,Bd,Cw,Fd,Cy,Cf,Bf,Bk,Fe,Ee,Bl,Fg,Aj,El,Be,frz,Ez,Ac,Ba,fC,DL.M.bnd,Aa,Ay,Bc,Az,Fb,Cc,Em,Ff,Cz,Bg,Eo,Bj,Fi,Ck,Ea,Fc,Ed,Cd,up1,Eg,Ek,Bt,Ab,Ap,Aq,Ar,Au,Av,Aw,Ec,Cq,Eb,Kd.fr,Eh,D.isMut,Ep,Ah,Fh,Bi,Ef,Bm,Bn,D.len,D.list,D.tupl,Ak,Al,Am,An,Ai,Ao,Ae,Bo,Bp,Bq,Br,Bs,D.isN,D.isNot,Ei,ix_l,ix_t,ix_s,Ad,Af,LIM,Ej,Out.upE,Ag,Cr,Et,Ce,Es,Co,Ew,Ex,Cu,Cs,fMe,fMk,Ev,fIk,Cl,D.addI,D.subI,Er,fSl,Cj,slD,Cm,gBk,gCt,fLc,Cb,Ey,fCv,Cg,Bh,Ax,Cv,Ch,isO,only,Eu,at_0,at_1,at_2,at_3,Bu,isO,Bv,Bw,Bx,Bz,isP,Cp,D.isB,D.isNotB], ?_, fun _ => by simp [Ci,Ca,Bb,Bd,Cw,Fd,Cy,Cf,Bf,Bk,Fe,Ee,Bl,Fg,Aj,El,Be,frz,Ez,Ac,Ba,fC,DL.M.bnd,Aa,Ay,Bc,Az,Fb,Cc,Em,Ff,Cz,Bg,Eo,Bj,Fi,Ck,Ea,Fc,Ed,Cd,up1,Eg,Ek,Bt,Ab,Ap,Aq,Ar,Au,Av,Aw,Ec,Cq,Eb,Kd.fr,Eh,D.isMut,Ep,Ah,Fh,Bi,Ef,Bm,Bn,D.len,D.list,D.tupl,Ak,Al,Am,An,Ai,Ao,Ae,Bo,Bp,Bq,Br,Bs,D.isN,D.isNot,Ei,ix_l,ix_t,ix_s,Ad,Af,LIM,Ej,Out.upE,Ag,Cr,Et,Ce,Es,Co,Ew,Ex,Cu,Cs,fMe,fMk,Ev,fIk,Cl,D.addI,D.subI,Er,fSl,Cj,slD,Cm,gBk,gCt,fLc,Cb,Ey,fCv,Cg,Bh,Ax,Cv,Ch,isO,only,Eu,at_0,at_1,at_2,at_3,Bu,isO,Bv,Bw,Bx,Bz,isP,Cp,D.isB,D.isNotB,e2__law_asked,hea]⟩
        by_cases h : t = s
        · rw [decide_eq_true h]
          simp [Ci,Ca,Bb,Bd,Cw,Fd,Cy,Cf,Bf,Bk,Fe,Ee,Bl,Fg,Aj,El,Be,frz,Ez,Ac,Ba,fC,DL.M.bnd,Aa,Ay,Bc,Az,Fb,Cc,Em,Ff,Cz,Bg,Eo,Bj,Fi,Ck,Ea,Fc,Ed,Cd,up1,Eg,Ek,Bt,Ab,Ap,Aq,Ar,Au,Av,Aw,Ec,Cq,Eb,Kd.fr,Eh,D.isMut,Ep,Ah,Fh,Bi,Ef,Bm,Bn,D.len,D.list,D.tupl,Ak,Al,Am,An,Ai,Ao,Ae,Bo,Bp,Bq,Br,Bs,D.isN,D.isNot,Ei,ix_l,ix_t,ix_s,Ad,Af,LIM,Ej,Out.upE,Ag,Cr,Et,Ce,Es,Co,Ew,Ex,Cu,Cs,fMe,fMk,Ev,fIk,Cl,D.addI,D.subI,Er,fSl,Cj,slD,Cm,gBk,gCt,fLc,Cb,Ey,fCv,Cg,Bh,Ax,Cv,Ch,isO,only,Eu,at_0,at_1,at_2,at_3,Bu,isO,Bv,Bw,Bx,Bz,isP,Cp,D.isB,D.isNotB,c1__law_asked,h]
        · rw [decide_eq_false h]
          simp [Ci,Ca,Bb,Bd,Cw,Fd,Cy,Cf,Bf,Bk,Fe,Ee,Bl,Fg,Aj,El,Be,frz,Ez,Ac,Ba,fC,DL.M.bnd,Aa,Ay,Bc,Az,Fb,Cc,Em,Ff,Cz,Bg,Eo,Bj,Fi,Ck,Ea,Fc,Ed,Cd,up1,Eg,Ek,Bt,Ab,Ap,Aq,Ar,Au,Av,Aw,Ec,Cq,Eb,Kd.fr,Eh,D.isMut,Ep,Ah,Fh,Bi,Ef,Bm,Bn,D.len,D.list,D.tupl,Ak,Al,Am,An,Ai,Ao,Ae,Bo,Bp,Bq,Br,Bs,D.isN,D.isNot,Ei,ix_l,ix_t,ix_s,Ad,Af,LIM,Ej,Out.upE,Ag,Cr,Et,Ce,Es,Co,Ew,Ex,Cu,Cs,fMe,fMk,Ev,fIk,Cl,D.addI,D.subI,Er,fSl,Cj,slD,Cm,gBk,gCt,fLc,Cb,Ey,fCv,Cg,Bh,Ax,Cv,Ch,isO,only,Eu,at_0,at_1,at_2,at_3,Bu,isO,Bv,Bw,Bx,Bz,isP,Cp,D.isB,D.isNotB,c1__law_asked,h]
    rw [← hKN] at c2
    have ne := eqE_row.lst.dne (by decide) Ms Ms
    obtain ⟨CX, hCX⟩ : ∃ CX, CX = Ms.map crD := ⟨_, rfl⟩
    obtain ⟨EX, hEX⟩ : ∃ EX, EX = Ms.map encR := ⟨_, rfl⟩
    have n1 : EX.length ≤ 16000000 := by rw [hEX, List.length_map]; omega
    have ne : D.ne (.lst EX) (.lst EX) = some (.bl false) := by
      rw [hEX]
      refine ne.trans ?_
      simp
    rw [← hCX] at g c1
    rw [← hEX] at c1 c2
    refine ⟨[.bo (nt), .bo (.lst KN), .bo (.lst KO), .sh (.tup [.int s, .tup MX]), q4, q5, q6, .un], [.bo (nt), .bo (.lst KN), .bo (.lst KO), .sh (.tup [.int s, .tup MX]), .sh (.bl b), .sh (cm), .sh (.lst [.bl b, .bl b, .bl b]), .un], by simp [Ci,Ca,Bb,Bd,Cw,Fd,Cy,Cf,Bf,Bk,Fe,Ee,Bl,Fg,Aj,El,Be,frz,Ez,Ac,Ba,fC,DL.M.bnd,Aa,Ay,Bc,Az,Fb,Cc,Em,Ff,Cz,Bg,Eo,Bj,Fi,Ck,Ea,Fc,Ed,Cd,up1,Eg,Ek,Bt,Ab,Ap,Aq,Ar,Au,Av,Aw,Ec,Cq,Eb,Kd.fr,Eh,D.isMut,Ep,Ah,Fh,Bi,Ef,Bm,Bn,D.len,D.list,D.tupl,Ak,Al,Am,An,Ai,Ao,Ae,Bo,Bp,Bq,Br,Bs,D.isN,D.isNot,Ei,ix_l,ix_t,ix_s,Ad,Af,LIM,Ej,Out.upE,Ag,Cr,Et,Ce,Es,Co,Ew,Ex,Cu,Cs,fMe,fMk,Ev,fIk,Cl,D.addI,D.subI,Er,fSl,Cj,slD,Cm,gBk,gCt,fLc,Cb,Ey,fCv,Cg,Bh,Ax,Cv,Ch,isO,only,Eu,at_0,at_1,at_2,at_3,Bu,isO,Bv,Bw,Bx,Bz,isP,Cp,D.isB,D.isNotB,f3], .inl ?_, _, _, _, _, rfl, rfl, rfl, rfl, rfl⟩
    unfold b1__law_asked
    refine ((gSeq_nx (ρ' := [.bo (nt), .bo (.lst KN), .bo (.lst KO), .sh (.tup [.int s, .tup MX]), .sh (.bl b), q5, q6, .un]) ?_).trans ((gSeq_nx (ρ' := [.bo (nt), .bo (.lst KN), .bo (.lst KO), .sh (.tup [.int s, .tup MX]), .sh (.bl b), .sh (cm), q6, .un]) ?_).trans ((gSeq_nx (ρ' := [.bo (nt), .bo (.lst KN), .bo (.lst KO), .sh (.tup [.int s, .tup MX]), .sh (.bl b), .sh (cm), .sh (.lst [.bl b, .bl b, .bl b]), .un]) ?_).trans ((gSeq_nx (ρ' := [.bo (nt), .bo (.lst KN), .bo (.lst KO), .sh (.tup [.int s, .tup MX]), .sh (.bl b), .sh (cm), .sh (.lst [.bl b, .bl b, .bl b]), .un]) ?_).trans ?_))))
    · simp [Ci,Ca,Bb,Bd,Cw,Fd,Cy,Cf,Bf,Bk,Fe,Ee,Bl,Fg,Aj,El,Be,frz,Ez,Ac,Ba,fC,DL.M.bnd,Aa,Ay,Bc,Az,Fb,Cc,Em,Ff,Cz,Bg,Eo,Bj,Fi,Ck,Ea,Fc,Ed,Cd,up1,Eg,Ek,Bt,Ab,Ap,Aq,Ar,Au,Av,Aw,Ec,Cq,Eb,Kd.fr,Eh,D.isMut,Ep,Ah,Fh,Bi,Ef,Bm,Bn,D.len,D.list,D.tupl,Ak,Al,Am,An,Ai,Ao,Ae,Bo,Bp,Bq,Br,Bs,D.isN,D.isNot,Ei,ix_l,ix_t,ix_s,Ad,Af,LIM,Ej,Out.upE,Ag,Cr,Et,Ce,Es,Co,Ew,Ex,Cu,Cs,fMe,fMk,Ev,fIk,Cl,D.addI,D.subI,Er,fSl,Cj,slD,Cm,gBk,gCt,fLc,Cb,Ey,fCv,Cg,Bh,Ax,Cv,Ch,isO,only,Eu,at_0,at_1,at_2,at_3,Bu,isO,Bv,Bw,Bx,Bz,isP,Cp,D.isB,D.isNotB,i1,f4]
    · simp [Ci,Ca,Bb,Bd,Cw,Fd,Cy,Cf,Bf,Bk,Fe,Ee,Bl,Fg,Aj,El,Be,frz,Ez,Ac,Ba,fC,DL.M.bnd,Aa,Ay,Bc,Az,Fb,Cc,Em,Ff,Cz,Bg,Eo,Bj,Fi,Ck,Ea,Fc,Ed,Cd,up1,Eg,Ek,Bt,Ab,Ap,Aq,Ar,Au,Av,Aw,Ec,Cq,Eb,Kd.fr,Eh,D.isMut,Ep,Ah,Fh,Bi,Ef,Bm,Bn,D.len,D.list,D.tupl,Ak,Al,Am,An,Ai,Ao,Ae,Bo,Bp,Bq,Br,Bs,D.isN,D.isNot,Ei,ix_l,ix_t,ix_s,Ad,Af,LIM,Ej,Out.upE,Ag,Cr,Et,Ce,Es,Co,Ew,Ex,Cu,Cs,fMe,fMk,Ev,fIk,Cl,D.addI,D.subI,Er,fSl,Cj,slD,Cm,gBk,gCt,fLc,Cb,Ey,fCv,Cg,Bh,Ax,Cv,Ch,isO,only,Eu,at_0,at_1,at_2,at_3,Bu,isO,Bv,Bw,Bx,Bz,isP,Cp,D.isB,D.isNotB,mk,f5]
    · simp [Ci,Ca,Bb,Bd,Cw,Fd,Cy,Cf,Bf,Bk,Fe,Ee,Bl,Fg,Aj,El,Be,frz,Ez,Ac,Ba,fC,DL.M.bnd,Aa,Ay,Bc,Az,Fb,Cc,Em,Ff,Cz,Bg,Eo,Bj,Fi,Ck,Ea,Fc,Ed,Cd,up1,Eg,Ek,Bt,Ab,Ap,Aq,Ar,Au,Av,Aw,Ec,Cq,Eb,Kd.fr,Eh,D.isMut,Ep,Ah,Fh,Bi,Ef,Bm,Bn,D.len,D.list,D.tupl,Ak,Al,Am,An,Ai,Ao,Ae,Bo,Bp,Bq,Br,Bs,D.isN,D.isNot,Ei,ix_l,ix_t,ix_s,Ad,Af,LIM,Ej,Out.upE,Ag,Cr,Et,Ce,Es,Co,Ew,Ex,Cu,Cs,fMe,fMk,Ev,fIk,Cl,D.addI,D.subI,Er,fSl,Cj,slD,Cm,gBk,gCt,fLc,Cb,Ey,fCv,Cg,Bh,Ax,Cv,Ch,isO,only,Eu,at_0,at_1,at_2,at_3,Bu,isO,Bv,Bw,Bx,Bz,isP,Cp,D.isB,D.isNotB,Ch,isn,in1,only,Eu,fMe,ad1,fMkK,bn1,le1,f6]
    · simp [Ci,Ca,Bb,Bd,Cw,Fd,Cy,Cf,Bf,Bk,Fe,Ee,Bl,Fg,Aj,El,Be,frz,Ez,Ac,Ba,fC,DL.M.bnd,Aa,Ay,Bc,Az,Fb,Cc,Em,Ff,Cz,Bg,Eo,Bj,Fi,Ck,Ea,Fc,Ed,Cd,up1,Eg,Ek,Bt,Ab,Ap,Aq,Ar,Au,Av,Aw,Ec,Cq,Eb,Kd.fr,Eh,D.isMut,Ep,Ah,Fh,Bi,Ef,Bm,Bn,D.len,D.list,D.tupl,Ak,Al,Am,An,Ai,Ao,Ae,Bo,Bp,Bq,Br,Bs,D.isN,D.isNot,Ei,ix_l,ix_t,ix_s,Ad,Af,LIM,Ej,Out.upE,Ag,Cr,Et,Ce,Es,Co,Ew,Ex,Cu,Cs,fMe,fMk,Ev,fIk,Cl,D.addI,D.subI,Er,fSl,Cj,slD,Cm,gBk,gCt,fLc,Cb,Ey,fCv,Cg,Bh,Ax,Cv,Ch,isO,only,Eu,at_0,at_1,at_2,at_3,Bu,isO,Bv,Bw,Bx,Bz,isP,Cp,D.isB,D.isNotB,n3]
    · have c1 := c1 (.sh (.lst [.bl b, .bl b, .bl b]))
      have c2 := c2 (.sh (.lst [.bl b, .bl b, .bl b]))
      simp [Ci,Ca,Bb,Bd,Cw,Fd,Cy,Cf,Bf,Bk,Fe,Ee,Bl,Fg,Aj,El,Be,frz,Ez,Ac,Ba,fC,DL.M.bnd,Aa,Ay,Bc,Az,Fb,Cc,Em,Ff,Cz,Bg,Eo,Bj,Fi,Ck,Ea,Fc,Ed,Cd,up1,Eg,Ek,Bt,Ab,Ap,Aq,Ar,Au,Av,Aw,Ec,Cq,Eb,Kd.fr,Eh,D.isMut,Ep,Ah,Fh,Bi,Ef,Bm,Bn,D.len,D.list,D.tupl,Ak,Al,Am,An,Ai,Ao,Ae,Bo,Bp,Bq,Br,Bs,D.isN,D.isNot,Ei,ix_l,ix_t,ix_s,Ad,Af,LIM,Ej,Out.upE,Ag,Cr,Et,Ce,Es,Co,Ew,Ex,Cu,Cs,fMe,fMk,Ev,fIk,Cl,D.addI,D.subI,Er,fSl,Cj,slD,Cm,gBk,gCt,fLc,Cb,Ey,fCv,Cg,Bh,Ax,Cv,Ch,isO,only,Eu,at_0,at_1,at_2,at_3,Bu,isO,Bv,Bw,Bx,Bz,isP,Cp,D.isB,D.isNotB,opGetO,isn,g,okAll,c1,c2,limL_ok n1,ne])
  have eA : (N ++ O).map keyD = KN ++ KO := by rw [List.map_append, hKN, hKO]
  rw [eA] at e
  have ad : D.add (.lst KN) (.lst KO) = some (.lst (KN ++ KO)) := add_ll (by omega)
  have nA : (KN ++ KO).length ≤ 16000000 := by rw [List.length_append]; omega
  rw [← hKN] at ll
  obtain ⟨LX, hLX⟩ : ∃ LX, LX = N.map ltD := ⟨_, rfl⟩
  rw [← hLX] at li ll eqL
  rw [← hKN, ← hKO]
  obtain ⟨nn, hnn⟩ : ∃ nn : Nat, nn = N.length := ⟨_, rfl⟩
  rw [← hnn] at lnn lKN
  have hnn2 : ((nn : Nat) : Int) ≤ 16000000 := by omega
  have cn : D.eq (.int (nn : Nat)) (.int (nn : Nat)) = some (.bl true) := by rw [Co]; simp
  show Cq _ (r1__law_asked [.bo (nt), .bo (.lst KN), .bo (.lst KO), .un, .un, .un, .un, .un]) = _
  have e1 : r1__law_asked [.bo (nt), .bo (.lst KN), .bo (.lst KO), .un, .un, .un, .un, .un] = r2__law_asked [.bo (nt), .bo (.lst KN), .bo (.lst KO), q3, q4, q5, q6, .un] := by
    refine gSeq_nx ?_
    simp [Ci,Ca,Bb,Bd,Cw,Fd,Cy,Cf,Bf,Bk,Fe,Ee,Bl,Fg,Aj,El,Be,frz,Ez,Ac,Ba,fC,DL.M.bnd,Aa,Ay,Bc,Az,Fb,Cc,Em,Ff,Cz,Bg,Eo,Bj,Fi,Ck,Ea,Fc,Ed,Cd,up1,Eg,Ek,Bt,Ab,Ap,Aq,Ar,Au,Av,Aw,Ec,Cq,Eb,Kd.fr,Eh,D.isMut,Ep,Ah,Fh,Bi,Ef,Bm,Bn,D.len,D.list,D.tupl,Ak,Al,Am,An,Ai,Ao,Ae,Bo,Bp,Bq,Br,Bs,D.isN,D.isNot,Ei,ix_l,ix_t,ix_s,Ad,Af,LIM,Ej,Out.upE,Ag,Cr,Et,Ce,Es,Co,Ew,Ex,Cu,Cs,fMe,fMk,Ev,fIk,Cl,D.addI,D.subI,Er,fSl,Cj,slD,Cm,gBk,gCt,fLc,Cb,Ey,fCv,Cg,Bh,Ax,Cv,Ch,isO,only,Eu,at_0,at_1,at_2,at_3,Bu,isO,Bv,Bw,Bx,Bz,isP,Cp,D.isB,D.isNotB,s1__law_asked,ad,e]
  rw [e1]
  simp [Ci,Ca,Bb,Bd,Cw,Fd,Cy,Cf,Bf,Bk,Fe,Ee,Bl,Fg,Aj,El,Be,frz,Ez,Ac,Ba,fC,DL.M.bnd,Aa,Ay,Bc,Az,Fb,Cc,Em,Ff,Cz,Bg,Eo,Bj,Fi,Ck,Ea,Fc,Ed,Cd,up1,Eg,Ek,Bt,Ab,Ap,Aq,Ar,Au,Av,Aw,Ec,Cq,Eb,Kd.fr,Eh,D.isMut,Ep,Ah,Fh,Bi,Ef,Bm,Bn,D.len,D.list,D.tupl,Ak,Al,Am,An,Ai,Ao,Ae,Bo,Bp,Bq,Br,Bs,D.isN,D.isNot,Ei,ix_l,ix_t,ix_s,Ad,Af,LIM,Ej,Out.upE,Ag,Cr,Et,Ce,Es,Co,Ew,Ex,Cu,Cs,fMe,fMk,Ev,fIk,Cl,D.addI,D.subI,Er,fSl,Cj,slD,Cm,gBk,gCt,fLc,Cb,Ey,fCv,Cg,Bh,Ax,Cv,Ch,isO,only,Eu,at_0,at_1,at_2,at_3,Bu,isO,Bv,Bw,Bx,Bz,isP,Cp,D.isB,D.isNotB,r2__law_asked,s2__law_asked,opLenO,isn,lnn,okLen,hnn2,lKN,cn,fMe,li,ll,eqL]
end DL
namespace DL
open PySem PySem.Spec L2
theorem isi_s (s : Str) : D.isi [.str s, .typ "str"] = some (.bl true) := by
  show (isiT (.b "str") (.b "str")).map D.bl = _
  kernel_rfl
theorem idC {α : Type} (i : Nat) (enc : α → D) (L : List α) (ρ : En) (h : oFree ρ[i]? = true) : compG (Ep i) Cd (Ay i) ρ (L.map enc) = some (L.map enc) := by
  have hl : i < ρ.length := by
    cases e : ρ[i]? with
    | none => rw [e] at h; cases h
    | some s => exact (List.getElem?_eq_some_iff.mp e).1
  refine compG_all enc enc L fun a _ => ⟨ρ.set i (.sh (enc a)), ?_, ?_⟩
  · show put i (.sh (enc a)) ρ = _
    rw [Bt, if_pos h]
  · unfold Ay
    rw [List.getElem?_set_self hl]
theorem mk_rep (v : Int) (hv : 0 ≤ v) (n : Nat) (hn : n ≤ 100) : Fn_Crowd___init__ [.obj 0 [], .lst ((List.replicate n v).map D.int)] = some (.ret true .non [crD (List.replicate n v)]) := by
  have := init_ok (List.replicate n v) (fun x hx => by rw [List.eq_of_mem_replicate hx]; exact hv) (by rw [List.length_replicate]; omega) false
  have e : srt (List.replicate n v) = List.replicate n v := srt_id (List.pairwise_replicate.mpr (.inr (Int.le_refl _)))
  rw [e] at this
  exact this
theorem row_rep (w : Nat) (v : Int) (hv : 0 ≤ v ∧ v < 1000) {s : Int} (hs : 0 ≤ s ∧ s < 48) : Row12 w (s, List.replicate w v) :=
  ⟨hs.1, hs.2, List.length_replicate, List.pairwise_replicate.mpr (.inr (Int.le_refl _)), fun x hx => by rw [List.eq_of_mem_replicate hx]; exact hv⟩
theorem rows_loop (g : Nat → Int) (DS : List D) (hg0 : ∀ k, k < 40 → 0 ≤ g k) (hg : ∀ k : Nat, k < 40 → atI DS (k : Int) = some (.int (g k))) (w : Nat) (hw : w ≤ 4) (b : Int) (hb : 0 < b ∧ b < 1000) (m : Nat) (hm : m ≤ 6) (q0 : Sl) :
    ∃ (Rs : List Cfg) (q5' q6' : Sl), Rs.length = m ∧ (∀ c ∈ Rs, Row12 w c) ∧ q5'.free = true ∧ q6'.free = true ∧ loopG (Ep 5) b1_law ((ivl m).map D.int) [q0, .sh (.lst DS), .sh (.int (w : Nat)), .sh (.int b), .ow (.lst []), .un, .un, .un, .un, .un, .un, .un, .un, .un, .un, .un, .un] = some (.nx [q0, .sh (.lst DS), .sh (.int (w : Nat)), .sh (.int b), .ow (.lst (Rs.map keyD)), q5', q6', .un, .un, .un, .un, .un, .un, .un, .un, .un, .un]) := by
  have rw1 := rng_1 w (by omega)
  obtain ⟨WX, hWX⟩ : ∃ WX, WX = (ivl w).map D.int := ⟨_, rfl⟩
  rw [← hWX] at rw1
  have d3 : atI DS 3 = some (.int (g 3)) := hg 3 (by decide)
  obtain ⟨p, hp⟩ : ∃ p : Int, p = g 3 % 2 := ⟨_, rfl⟩
  have hp2 : p = 0 ∨ p = 1 := by omega
  obtain ⟨ρ', e, Rs, q5', q6', h1, h2, f1, f2, rfl⟩ := loop_invT (h := (Ep 5)) (g := b1_law) D.int (ivl m) (fun done ρ => ∃ (Rs : List Cfg) (q5 q6 : Sl), Rs.length = done.length ∧ (∀ c ∈ Rs, Row12 w c) ∧ q5.free = true ∧ q6.free = true ∧ ρ = [q0, .sh (.lst DS), .sh (.int (w : Nat)), .sh (.int b), .ow (.lst (Rs.map keyD)), q5, q6, .un, .un, .un, .un, .un, .un, .un, .un, .un, .un]) [q0, .sh (.lst DS), .sh (.int (w : Nat)), .sh (.int b), .ow (.lst []), .un, .un, .un, .un, .un, .un, .un, .un, .un, .un, .un, .un] ⟨[], .un, .un, rfl, (fun _ h => by cases h), rfl, rfl, rfl⟩ (by
    rintro done k rest ρ er ⟨Rs, q5, q6, lB, hB, f5, f6, rfl⟩
    have hd := mid_len er
    rw [ivl_len] at hd
    have hk := mem_ivl.mp (mid_mem er)
    obtain ⟨F, hF⟩ : ∃ F : Int → Int, F = fun j => g (10 + 4 * k + j).toNat % b := ⟨_, rfl⟩
    have F0 : ∀ j, 0 ≤ F j ∧ F j < 1000 := fun j => by
      rw [hF]
      have h1 := Int.emod_nonneg (g (10 + 4 * k + j).toNat) (show b ≠ 0 by omega)
      have h2 := Int.emod_lt_of_pos (g (10 + 4 * k + j).toNat) hb.1
      exact ⟨h1, by show g _ % b < 1000; omega⟩
    obtain ⟨BX, hBX⟩ : ∃ BX, BX = Rs.map keyD := ⟨_, rfl⟩
    have nB : BX.length < 16000000 := by rw [hBX, List.length_map]; omega
    have hb1 := hb.1
    have c1 : compG (Ep 14) Cd e1_law [q0, .sh (.lst DS), .sh (.int (w : Nat)), .sh (.int b), .ow (.lst BX), .sh (.int k), q6, .un, .un, .un, .un, .un, .un, .un, .un, .un, .un] ((ivl w).map D.int) = some (((ivl w).map F).map D.int) := by
      rw [List.map_map]
      exact compG_all (h := (Ep 14)) (fe := e1_law) (ρ := [q0, .sh (.lst DS), .sh (.int (w : Nat)), .sh (.int b), .ow (.lst BX), .sh (.int k), q6, .un, .un, .un, .un, .un, .un, .un, .un, .un, .un]) D.int (fun j => D.int (F j)) (ivl w) fun j hj => by
        have hj := mem_ivl.mp hj
        have t := hg (10 + 4 * k + j).toNat (by omega)
        have ei : (((10 + 4 * k + j).toNat : Nat) : Int) = 10 + 4 * k + j := by omega
        rw [ei] at t
        have eF : g (10 + 4 * k + j).toNat % b = F j := by rw [hF]
        obtain ⟨y, hy⟩ : ∃ y, y = g (10 + 4 * k + j).toNat := ⟨_, rfl⟩
        rw [← hy] at t eF
        exact ⟨[q0, .sh (.lst DS), .sh (.int (w : Nat)), .sh (.int b), .ow (.lst BX), .sh (.int k), q6, .un, .un, .un, .un, .un, .un, .un, .sh (.int j), .un, .un], by simp [Ci,Ca,Bb,Bd,Cw,Fd,Cy,Cf,Bf,Bk,Fe,Ee,Bl,Fg,Aj,El,Be,frz,Ez,Ac,Ba,fC,DL.M.bnd,Aa,Ay,Bc,Az,Fb,Cc,Em,Ff,Cz,Bg,Eo,Bj,Fi,Ck,Ea,Fc,Ed,Cd,up1,Eg,Ek,Bt,Ab,Ap,Aq,Ar,Au,Av,Aw,Ec,Cq,Eb,Kd.fr,Eh,D.isMut,Ep,Ah,Fh,Bi,Ef,Bm,Bn,D.len,D.list,D.tupl,Ak,Al,Am,An,Ai,Ao,Ae,Bo,Bp,Bq,Br,Bs,D.isN,D.isNot,Ei,ix_l,ix_t,ix_s,Ad,Af,LIM,Ej,Out.upE,Ag,Cr,Et,Ce,Es,Co,Ew,Ex,Cu,Cs,fMe,fMk,Ev,fIk,Cl,D.addI,D.subI,Er,fSl,Cj,slD,Cm,gBk,gCt,fLc,Cb,Ey,fCv,Cg,Bh,Ax,Cv,Ch,isO,only,Eu,at_0,at_1,at_2,at_3,Bu,isO,Bv,Bw,Bx,Bz,isP,Cp,D.isB,D.isNotB], by simp [Ci,Ca,Bb,Bd,Cw,Fd,Cy,Cf,Bf,Bk,Fe,Ee,Bl,Fg,Aj,El,Be,frz,Ez,Ac,Ba,fC,DL.M.bnd,Aa,Ay,Bc,Az,Fb,Cc,Em,Ff,Cz,Bg,Eo,Bj,Fi,Ck,Ea,Fc,Ed,Cd,up1,Eg,Ek,Bt,Ab,Ap,Aq,Ar,Au,Av,Aw,Ec,Cq,Eb,Kd.fr,Eh,D.isMut,Ep,Ah,Fh,Bi,Ef,Bm,Bn,D.len,D.list,D.tupl,Ak,Al,Am,An,Ai,Ao,Ae,Bo,Bp,Bq,Br,Bs,D.isN,D.isNot,Ei,ix_l,ix_t,ix_s,Ad,Af,LIM,Ej,Out.upE,Ag,Cr,Et,Ce,Es,Co,Ew,Ex,Cu,Cs,fMe,fMk,Ev,fIk,Cl,D.addI,D.subI,Er,fSl,Cj,slD,Cm,gBk,gCt,fLc,Cb,Ey,fCv,Cg,Bh,Ax,Cv,Ch,isO,only,Eu,at_0,at_1,at_2,at_3,Bu,isO,Bv,Bw,Bx,Bz,isP,Cp,D.isB,D.isNotB,e1_law,t,hb1,eF]⟩
    obtain ⟨RL, hRL⟩ : ∃ RL, RL = (ivl w).map F := ⟨_, rfl⟩
    have lR : RL.length = w := by rw [hRL, List.length_map, ivl_len]
    have pR : ∀ x ∈ RL, 0 ≤ x ∧ x < 1000 := fun x hx => by
      rw [hRL] at hx
      obtain ⟨j, _, rfl⟩ := List.mem_map.mp hx
      exact F0 j
    rw [← hRL] at c1
    have so := sorted_I RL
    obtain ⟨RX, hRX⟩ : ∃ RX, RX = RL.map D.int := ⟨_, rfl⟩
    have nR : RX.length ≤ 16000000 := by rw [hRX, List.length_map]; omega
    rw [← hRX] at c1 so
    rw [← hWX] at c1
    obtain ⟨SX, hSX⟩ : ∃ SX, SX = (srt RL).map D.int := ⟨_, rfl⟩
    rw [← hSX] at so
    have nS : SX.length ≤ 16000000 := by rw [hSX, List.length_map, srt_length]; omega
    obtain ⟨v, st, hat, hmu, hst⟩ : ∃ v st : Int, atI [D.int 5, .int 10, .int 47, .int 9, .int 5, .int 0] k = some (.int v) ∧ v + p * (k % 2) = st ∧ 0 ≤ st ∧ st < 48 := by
      have h5 : k = 0 ∨ k = 1 ∨ k = 2 ∨ k = 3 ∨ k = 4 ∨ k = 5 := by omega
      rcases h5 with rfl | rfl | rfl | rfl | rfl | rfl <;> rcases hp2 with rfl | rfl
      · exact ⟨5, _, rfl, rfl, by decide, by decide⟩
      · exact ⟨5, _, rfl, rfl, by decide, by decide⟩
      · exact ⟨10, _, rfl, rfl, by decide, by decide⟩
      · exact ⟨10, _, rfl, rfl, by decide, by decide⟩
      · exact ⟨47, _, rfl, rfl, by decide, by decide⟩
      · exact ⟨47, _, rfl, rfl, by decide, by decide⟩
      · exact ⟨9, _, rfl, rfl, by decide, by decide⟩
      · exact ⟨9, _, rfl, rfl, by decide, by decide⟩
      · exact ⟨5, _, rfl, rfl, by decide, by decide⟩
      · exact ⟨5, _, rfl, rfl, by decide, by decide⟩
      · exact ⟨0, _, rfl, rfl, by decide, by decide⟩
      · exact ⟨0, _, rfl, rfl, by decide, by decide⟩
    have mm : D.mul (.int p) (.int (k % 2)) = some (.int (p * (k % 2))) := Ai (by omega) (by omega)
    have eB : BX ++ [D.tup [.int st, .tup SX]] = (Rs ++ [(st, srt RL)]).map keyD := by rw [List.map_append, hBX, hSX]; rfl
    rw [← hBX]
    refine ⟨[q0, .sh (.lst DS), .sh (.int (w : Nat)), .sh (.int b), .ow (.lst BX), .sh (.int k), q6, .un, .un, .un, .un, .un, .un, .un, .un, .un, .un], [q0, .sh (.lst DS), .sh (.int (w : Nat)), .sh (.int b), .ow (.lst (BX ++ [.tup [.int st, .tup SX]])), .sh (.int k), .sh (.tup SX), .un, .un, .un, .un, .un, .un, .un, .un, .un, .un], by simp [Ci,Ca,Bb,Bd,Cw,Fd,Cy,Cf,Bf,Bk,Fe,Ee,Bl,Fg,Aj,El,Be,frz,Ez,Ac,Ba,fC,DL.M.bnd,Aa,Ay,Bc,Az,Fb,Cc,Em,Ff,Cz,Bg,Eo,Bj,Fi,Ck,Ea,Fc,Ed,Cd,up1,Eg,Ek,Bt,Ab,Ap,Aq,Ar,Au,Av,Aw,Ec,Cq,Eb,Kd.fr,Eh,D.isMut,Ep,Ah,Fh,Bi,Ef,Bm,Bn,D.len,D.list,D.tupl,Ak,Al,Am,An,Ai,Ao,Ae,Bo,Bp,Bq,Br,Bs,D.isN,D.isNot,Ei,ix_l,ix_t,ix_s,Ad,Af,LIM,Ej,Out.upE,Ag,Cr,Et,Ce,Es,Co,Ew,Ex,Cu,Cs,fMe,fMk,Ev,fIk,Cl,D.addI,D.subI,Er,fSl,Cj,slD,Cm,gBk,gCt,fLc,Cb,Ey,fCv,Cg,Bh,Ax,Cv,Ch,isO,only,Eu,at_0,at_1,at_2,at_3,Bu,isO,Bv,Bw,Bx,Bz,isP,Cp,D.isB,D.isNotB,f5], .inl ?_, Rs ++ [(st, srt RL)], _, _, by rw [List.length_append, List.length_append, lB]; rfl, fun c hc => ?_, rfl, rfl, by rw [eB]⟩
    · unfold b1_law
      refine ((gSeq_nx (ρ' := [q0, .sh (.lst DS), .sh (.int (w : Nat)), .sh (.int b), .ow (.lst BX), .sh (.int k), .sh (.tup SX), .un, .un, .un, .un, .un, .un, .un, .un, .un, .un]) ?_).trans ?_)
      · simp [Ci,Ca,Bb,Bd,Cw,Fd,Cy,Cf,Bf,Bk,Fe,Ee,Bl,Fg,Aj,El,Be,frz,Ez,Ac,Ba,fC,DL.M.bnd,Aa,Ay,Bc,Az,Fb,Cc,Em,Ff,Cz,Bg,Eo,Bj,Fi,Ck,Ea,Fc,Ed,Cd,up1,Eg,Ek,Bt,Ab,Ap,Aq,Ar,Au,Av,Aw,Ec,Cq,Eb,Kd.fr,Eh,D.isMut,Ep,Ah,Fh,Bi,Ef,Bm,Bn,D.len,D.list,D.tupl,Ak,Al,Am,An,Ai,Ao,Ae,Bo,Bp,Bq,Br,Bs,D.isN,D.isNot,Ei,ix_l,ix_t,ix_s,Ad,Af,LIM,Ej,Out.upE,Ag,Cr,Et,Ce,Es,Co,Ew,Ex,Cu,Cs,fMe,fMk,Ev,fIk,Cl,D.addI,D.subI,Er,fSl,Cj,slD,Cm,gBk,gCt,fLc,Cb,Ey,fCv,Cg,Bh,Ax,Cv,Ch,isO,only,Eu,at_0,at_1,at_2,at_3,Bu,isO,Bv,Bw,Bx,Bz,isP,Cp,D.isB,D.isNotB,rw1,c1,limL_ok nR,so,nS,f6]
      · simp [Ci,Ca,Bb,Bd,Cw,Fd,Cy,Cf,Bf,Bk,Fe,Ee,Bl,Fg,Aj,El,Be,frz,Ez,Ac,Ba,fC,DL.M.bnd,Aa,Ay,Bc,Az,Fb,Cc,Em,Ff,Cz,Bg,Eo,Bj,Fi,Ck,Ea,Fc,Ed,Cd,up1,Eg,Ek,Bt,Ab,Ap,Aq,Ar,Au,Av,Aw,Ec,Cq,Eb,Kd.fr,Eh,D.isMut,Ep,Ah,Fh,Bi,Ef,Bm,Bn,D.len,D.list,D.tupl,Ak,Al,Am,An,Ai,Ao,Ae,Bo,Bp,Bq,Br,Bs,D.isN,D.isNot,Ei,ix_l,ix_t,ix_s,Ad,Af,LIM,Ej,Out.upE,Ag,Cr,Et,Ce,Es,Co,Ew,Ex,Cu,Cs,fMe,fMk,Ev,fIk,Cl,D.addI,D.subI,Er,fSl,Cj,slD,Cm,gBk,gCt,fLc,Cb,Ey,fCv,Cg,Bh,Ax,Cv,Ch,isO,only,Eu,at_0,at_1,at_2,at_3,Bu,isO,Bv,Bw,Bx,Bz,isP,Cp,D.isB,D.isNotB,hat,d3,← hp,mm,hmu,nB]
    · rcases List.mem_append.mp hc with hc | hc
      · exact hB c hc
      · rw [List.mem_singleton.mp hc]
        exact ⟨hst.1, hst.2, by rw [srt_length]; exact lR, srt_sorted RL, fun x hx => pR x ((srt_perm RL).mem_iff.mp hx)⟩)
  exact ⟨Rs, q5', q6', by rw [h1, ivl_len], h2, f1, f2, e⟩
theorem ivl_at {m : Nat} {done rest : List Int} {t : Int} (er : ivl m = done ++ t :: rest) : t = (done.length : Nat) := by
  have h : (ivl m)[done.length]? = some t := by
    rw [er, List.getElem?_append_right (Nat.le_refl _), Nat.sub_self]
    rfl
  unfold ivl at h
  rw [List.getElem?_map] at h
  obtain ⟨k, hk, rfl⟩ := Option.map_eq_some_iff.mp h
  rw [List.getElem?_range (by
    have := (List.getElem?_eq_some_iff.mp hk).1
    rwa [List.length_range] at this)] at hk
  cases hk
  first | rfl | omega
theorem set_step {R : List Cfg} (hR : Asc cfgLt R) (t : Int) : setN (R.filter fun c => decide (c.1 < t)) t ((R.filter fun c => decide (c.1 = t)).map (·.2)) = R.filter fun c => decide (c.1 < t + 1) := by
  refine asc_unique sto_cfg (setN_asc (hR.sublist List.filter_sublist) t _) (hR.sublist List.filter_sublist) fun c => ?_
  rw [mem_setN, List.mem_filter, List.mem_filter, List.mem_map, decide_eq_true_eq, decide_eq_true_eq]
  constructor
  · rintro (⟨⟨h1, h2⟩, h3⟩ | ⟨h1, d, hd, h2⟩)
    · exact ⟨h1, by omega⟩
    · obtain ⟨h3, h4⟩ := List.mem_filter.mp hd
      have h4 := of_decide_eq_true h4
      have e : c = d := Prod.ext (by omega) h2.symm
      rw [e]
      exact ⟨h3, by omega⟩
  · rintro ⟨h1, h2⟩
    by_cases e : c.1 = t
    · exact .inr ⟨e, c, List.mem_filter.mpr ⟨h1, decide_eq_true e⟩, rfl⟩
    · exact .inl ⟨⟨h1, by omega⟩, e⟩
theorem no_step {R : List Cfg} {t : Int} (h : t ∉ R.map (·.1)) : (R.filter fun c => decide (c.1 < t + 1)) = R.filter fun c => decide (c.1 < t) := by
  refine List.filter_congr fun c hc => ?_
  have : c.1 ≠ t := fun e => h (e ▸ List.mem_map.mpr ⟨c, hc, rfl⟩)
  rw [decide_eq_decide]
  omega
theorem notes_loop (w : Nat) (hw : w ≤ 4) (R : List Cfg) (hR : Asc cfgLt R) (okR : ∀ c ∈ R, Row12 w c) (lR : R.length ≤ 100) (DS : List D) (b : Int) (q0 q5 q6 : Sl) (RK : List D) (hRK : RK = R.map keyD) :
    ∃ q8, q8.free = true ∧ loopG (Ep 8) b2_law ((ivl 48).map D.int) [q0, .sh (.lst DS), .sh (.int (w : Nat)), .sh (.int b), .ow (.lst RK), q5, q6, .ow (ntD w []), .un, .un, .un, .un, .un, .un, .un, .un, .un] = some (.nx [q0, .sh (.lst DS), .sh (.int (w : Nat)), .sh (.int b), .ow (.lst RK), q5, q6, .ow (ntD w R), q8, .un, .un, .un, .un, .un, .un, .un, .un]) := by
  have e0 : (R.filter fun c => decide (c.1 < 0)) = [] := List.filter_eq_nil_iff.mpr fun c hc h => by
    have := of_decide_eq_true h
    have := (okR c hc).s0
    omega
  have e48 : (R.filter fun c => decide (c.1 < 48)) = R := List.filter_eq_self.mpr fun c hc => decide_eq_true (okR c hc).s1
  obtain ⟨ρ', e, q8, f8, rfl⟩ := loop_invT (h := (Ep 8)) (g := b2_law) D.int (ivl 48) (fun done ρ => ∃ q8 : Sl, q8.free = true ∧ ρ = [q0, .sh (.lst DS), .sh (.int (w : Nat)), .sh (.int b), .ow (.lst RK), q5, q6, .ow (ntD w (R.filter fun c => decide (c.1 < (done.length : Nat)))), q8, .un, .un, .un, .un, .un, .un, .un, .un]) [q0, .sh (.lst DS), .sh (.int (w : Nat)), .sh (.int b), .ow (.lst RK), q5, q6, .ow (ntD w []), .un, .un, .un, .un, .un, .un, .un, .un, .un] ⟨_, rfl, by
      show _ = [q0, .sh (.lst DS), .sh (.int (w : Nat)), .sh (.int b), .ow (.lst RK), q5, q6, .ow (ntD w (R.filter fun c => decide (c.1 < ((0 : Nat) : Int)))), .un, .un, .un, .un, .un, .un, .un, .un, .un]
      rw [show ((0 : Nat) : Int) = 0 from rfl, e0]⟩ (by
    rintro done t rest ρ er ⟨q8, f8, rfl⟩
    have et := ivl_at er
    have e1 : (((done ++ [t]).length : Nat) : Int) = t + 1 := by rw [List.length_append, List.length_singleton, et]; omega
    rw [e1, ← et]
    obtain ⟨N, hN⟩ : ∃ N, N = R.filter fun c => decide (c.1 < t) := ⟨_, rfl⟩
    have aN : Asc cfgLt N := by rw [hN]; exact hR.sublist List.filter_sublist
    have lN : N.length ≤ 100 := by rw [hN]; exact Nat.le_trans (List.length_filter_le _ _) lR
    have st := set_step hR t
    have ns := @no_step R t
    rw [← hN] at st ns ⊢
    obtain ⟨N2, hN2⟩ : ∃ N2, N2 = R.filter fun c => decide (c.1 < t + 1) := ⟨_, rfl⟩
    rw [← hN2] at st ns ⊢
    obtain ⟨Ms, hMs⟩ : ∃ Ms, Ms = (R.filter fun c => decide (c.1 = t)).map (·.2) := ⟨_, rfl⟩
    have okM : ∀ M ∈ Ms, M.length = w ∧ M.Pairwise (· ≤ ·) ∧ ∀ x ∈ M, 0 ≤ x := fun M hM => by
      rw [hMs] at hM
      obtain ⟨c, hc, rfl⟩ := List.mem_map.mp hM
      have h := okR c (List.mem_filter.mp hc).1
      exact ⟨h.len, h.asc, fun x hx => (h.mem x hx).1⟩
    have lMs : Ms.length ≤ 100 := by rw [hMs, List.length_map]; exact Nat.le_trans (List.length_filter_le _ _) lR
    rw [← hMs] at st
    have sn := nt_set w (by omega) N t Ms (.lst (Ms.map crD)) (Ad _) (fun M h => (okM M h).1) (fun M h => (okM M h).2.1) (fun M h => (okM M h).2.2) aN (by omega)
    rw [st] at sn
    have isn := isN w N
    obtain ⟨nt, hnt⟩ : ∃ nt, nt = ntD w N := ⟨_, rfl⟩
    rw [← hnt] at sn isn ⊢
    have c1 : compG (Ep 15) Cd e2_law [q0, .sh (.lst DS), .sh (.int (w : Nat)), .sh (.int b), .ln (.lst RK), q5, q6, .ow (nt), .sh (.int t), .un, .un, .un, .un, .un, .un, .un, .un] (R.map keyD) = some ((R.map (·.1)).map D.int) := by
      rw [List.map_map]
      exact compG_all (h := (Ep 15)) (fe := e2_law) (ρ := [q0, .sh (.lst DS), .sh (.int (w : Nat)), .sh (.int b), .ln (.lst RK), q5, q6, .ow (nt), .sh (.int t), .un, .un, .un, .un, .un, .un, .un, .un]) keyD (fun c => D.int c.1) R fun c _ => by
        have kk : keyD c = .tup [.int c.1, encR c.2] := rfl
        obtain ⟨er, her⟩ : ∃ er, er = encR c.2 := ⟨_, rfl⟩
        rw [← her] at kk
        rw [kk]
        exact ⟨[q0, .sh (.lst DS), .sh (.int (w : Nat)), .sh (.int b), .ln (.lst RK), q5, q6, .ow (nt), .sh (.int t), .un, .un, .un, .un, .un, .un, .sh (.tup [.int c.1, er]), .un], by simp [Ci,Ca,Bb,Bd,Cw,Fd,Cy,Cf,Bf,Bk,Fe,Ee,Bl,Fg,Aj,El,Be,frz,Ez,Ac,Ba,fC,DL.M.bnd,Aa,Ay,Bc,Az,Fb,Cc,Em,Ff,Cz,Bg,Eo,Bj,Fi,Ck,Ea,Fc,Ed,Cd,up1,Eg,Ek,Bt,Ab,Ap,Aq,Ar,Au,Av,Aw,Ec,Cq,Eb,Kd.fr,Eh,D.isMut,Ep,Ah,Fh,Bi,Ef,Bm,Bn,D.len,D.list,D.tupl,Ak,Al,Am,An,Ai,Ao,Ae,Bo,Bp,Bq,Br,Bs,D.isN,D.isNot,Ei,ix_l,ix_t,ix_s,Ad,Af,LIM,Ej,Out.upE,Ag,Cr,Et,Ce,Es,Co,Ew,Ex,Cu,Cs,fMe,fMk,Ev,fIk,Cl,D.addI,D.subI,Er,fSl,Cj,slD,Cm,gBk,gCt,fLc,Cb,Ey,fCv,Cg,Bh,Ax,Cv,Ch,isO,only,Eu,at_0,at_1,at_2,at_3,Bu,isO,Bv,Bw,Bx,Bz,isP,Cp,D.isB,D.isNotB], by simp [Ci,Ca,Bb,Bd,Cw,Fd,Cy,Cf,Bf,Bk,Fe,Ee,Bl,Fg,Aj,El,Be,frz,Ez,Ac,Ba,fC,DL.M.bnd,Aa,Ay,Bc,Az,Fb,Cc,Em,Ff,Cz,Bg,Eo,Bj,Fi,Ck,Ea,Fc,Ed,Cd,up1,Eg,Ek,Bt,Ab,Ap,Aq,Ar,Au,Av,Aw,Ec,Cq,Eb,Kd.fr,Eh,D.isMut,Ep,Ah,Fh,Bi,Ef,Bm,Bn,D.len,D.list,D.tupl,Ak,Al,Am,An,Ai,Ao,Ae,Bo,Bp,Bq,Br,Bs,D.isN,D.isNot,Ei,ix_l,ix_t,ix_s,Ad,Af,LIM,Ej,Out.upE,Ag,Cr,Et,Ce,Es,Co,Ew,Ex,Cu,Cs,fMe,fMk,Ev,fIk,Cl,D.addI,D.subI,Er,fSl,Cj,slD,Cm,gBk,gCt,fLc,Cb,Ey,fCv,Cg,Bh,Ax,Cv,Ch,isO,only,Eu,at_0,at_1,at_2,at_3,Bu,isO,Bv,Bw,Bx,Bz,isP,Cp,D.isB,D.isNotB,e2_law]⟩
    have c2 : compG (Ep 15) c1_law e3_law [q0, .sh (.lst DS), .sh (.int (w : Nat)), .sh (.int b), .ln (.lst RK), q5, q6, .ow (nt), .sh (.int t), .un, .un, .un, .un, .un, .un, .un, .un] (R.map keyD) = some (Ms.map crD) := by
      rw [compG_map keyD (fun c => decide (c.1 = t)) (fun c => crD c.2) R fun c hc => ?_, hMs, List.map_map]
      · rfl
      · have h := okR c hc
        have mk := mk_tup c.2 (fun x hx => (h.mem x hx).1) h.asc (by rw [h.len]; omega)
        have kk : keyD c = .tup [.int c.1, .tup (c.2.map D.int)] := rfl
        obtain ⟨MX, hMX⟩ : ∃ MX, MX = c.2.map D.int := ⟨_, rfl⟩
        obtain ⟨cm, hcm⟩ : ∃ cm, cm = crD c.2 := ⟨_, rfl⟩
        rw [← hMX] at kk mk
        rw [← hcm] at mk ⊢
        rw [kk]
        refine ⟨[q0, .sh (.lst DS), .sh (.int (w : Nat)), .sh (.int b), .ln (.lst RK), q5, q6, .ow (nt), .sh (.int t), .un, .un, .un, .un, .un, .un, .sh (.tup [.int c.1, .tup MX]), .un], by simp [Ci,Ca,Bb,Bd,Cw,Fd,Cy,Cf,Bf,Bk,Fe,Ee,Bl,Fg,Aj,El,Be,frz,Ez,Ac,Ba,fC,DL.M.bnd,Aa,Ay,Bc,Az,Fb,Cc,Em,Ff,Cz,Bg,Eo,Bj,Fi,Ck,Ea,Fc,Ed,Cd,up1,Eg,Ek,Bt,Ab,Ap,Aq,Ar,Au,Av,Aw,Ec,Cq,Eb,Kd.fr,Eh,D.isMut,Ep,Ah,Fh,Bi,Ef,Bm,Bn,D.len,D.list,D.tupl,Ak,Al,Am,An,Ai,Ao,Ae,Bo,Bp,Bq,Br,Bs,D.isN,D.isNot,Ei,ix_l,ix_t,ix_s,Ad,Af,LIM,Ej,Out.upE,Ag,Cr,Et,Ce,Es,Co,Ew,Ex,Cu,Cs,fMe,fMk,Ev,fIk,Cl,D.addI,D.subI,Er,fSl,Cj,slD,Cm,gBk,gCt,fLc,Cb,Ey,fCv,Cg,Bh,Ax,Cv,Ch,isO,only,Eu,at_0,at_1,at_2,at_3,Bu,isO,Bv,Bw,Bx,Bz,isP,Cp,D.isB,D.isNotB], ?_, fun _ => by simp [Ci,Ca,Bb,Bd,Cw,Fd,Cy,Cf,Bf,Bk,Fe,Ee,Bl,Fg,Aj,El,Be,frz,Ez,Ac,Ba,fC,DL.M.bnd,Aa,Ay,Bc,Az,Fb,Cc,Em,Ff,Cz,Bg,Eo,Bj,Fi,Ck,Ea,Fc,Ed,Cd,up1,Eg,Ek,Bt,Ab,Ap,Aq,Ar,Au,Av,Aw,Ec,Cq,Eb,Kd.fr,Eh,D.isMut,Ep,Ah,Fh,Bi,Ef,Bm,Bn,D.len,D.list,D.tupl,Ak,Al,Am,An,Ai,Ao,Ae,Bo,Bp,Bq,Br,Bs,D.isN,D.isNot,Ei,ix_l,ix_t,ix_s,Ad,Af,LIM,Ej,Out.upE,Ag,Cr,Et,Ce,Es,Co,Ew,Ex,Cu,Cs,fMe,fMk,Ev,fIk,Cl,D.addI,D.subI,Er,fSl,Cj,slD,Cm,gBk,gCt,fLc,Cb,Ey,fCv,Cg,Bh,Ax,Cv,Ch,isO,only,Eu,at_0,at_1,at_2,at_3,Bu,isO,Bv,Bw,Bx,Bz,isP,Cp,D.isB,D.isNotB,e3_law,mk]⟩
        by_cases h : c.1 = t
        · rw [decide_eq_true h]
          simp [Ci,Ca,Bb,Bd,Cw,Fd,Cy,Cf,Bf,Bk,Fe,Ee,Bl,Fg,Aj,El,Be,frz,Ez,Ac,Ba,fC,DL.M.bnd,Aa,Ay,Bc,Az,Fb,Cc,Em,Ff,Cz,Bg,Eo,Bj,Fi,Ck,Ea,Fc,Ed,Cd,up1,Eg,Ek,Bt,Ab,Ap,Aq,Ar,Au,Av,Aw,Ec,Cq,Eb,Kd.fr,Eh,D.isMut,Ep,Ah,Fh,Bi,Ef,Bm,Bn,D.len,D.list,D.tupl,Ak,Al,Am,An,Ai,Ao,Ae,Bo,Bp,Bq,Br,Bs,D.isN,D.isNot,Ei,ix_l,ix_t,ix_s,Ad,Af,LIM,Ej,Out.upE,Ag,Cr,Et,Ce,Es,Co,Ew,Ex,Cu,Cs,fMe,fMk,Ev,fIk,Cl,D.addI,D.subI,Er,fSl,Cj,slD,Cm,gBk,gCt,fLc,Cb,Ey,fCv,Cg,Bh,Ax,Cv,Ch,isO,only,Eu,at_0,at_1,at_2,at_3,Bu,isO,Bv,Bw,Bx,Bz,isP,Cp,D.isB,D.isNotB,c1_law,h]
        · rw [decide_eq_false h]
          simp [Ci,Ca,Bb,Bd,Cw,Fd,Cy,Cf,Bf,Bk,Fe,Ee,Bl,Fg,Aj,El,Be,frz,Ez,Ac,Ba,fC,DL.M.bnd,Aa,Ay,Bc,Az,Fb,Cc,Em,Ff,Cz,Bg,Eo,Bj,Fi,Ck,Ea,Fc,Ed,Cd,up1,Eg,Ek,Bt,Ab,Ap,Aq,Ar,Au,Av,Aw,Ec,Cq,Eb,Kd.fr,Eh,D.isMut,Ep,Ah,Fh,Bi,Ef,Bm,Bn,D.len,D.list,D.tupl,Ak,Al,Am,An,Ai,Ao,Ae,Bo,Bp,Bq,Br,Bs,D.isN,D.isNot,Ei,ix_l,ix_t,ix_s,Ad,Af,LIM,Ej,Out.upE,Ag,Cr,Et,Ce,Es,Co,Ew,Ex,Cu,Cs,fMe,fMk,Ev,fIk,Cl,D.addI,D.subI,Er,fSl,Cj,slD,Cm,gBk,gCt,fLc,Cb,Ey,fCv,Cg,Bh,Ax,Cv,Ch,isO,only,Eu,at_0,at_1,at_2,at_3,Bu,isO,Bv,Bw,Bx,Bz,isP,Cp,D.isB,D.isNotB,c1_law,h]
    have ii : D.inn (.int t) (.lst ((R.map (·.1)).map D.int)) = some (.bl (decide (t ∈ R.map (·.1)))) := by
      rw [EqEnc.int.inn (by decide)]
    rw [← hRK] at c1 c2
    obtain ⟨SX, hSX⟩ : ∃ SX, SX = (R.map (·.1)).map D.int := ⟨_, rfl⟩
    have nS : SX.length ≤ 16000000 := by rw [hSX, List.length_map, List.length_map]; omega
    rw [← hSX] at c1 ii
    obtain ⟨CX, hCX⟩ : ∃ CX, CX = Ms.map crD := ⟨_, rfl⟩
    have nC : CX.length ≤ 16000000 := by rw [hCX, List.length_map]; omega
    rw [← hCX] at c2 sn
    by_cases ht : t ∈ R.map (·.1)
    · rw [decide_eq_true ht] at ii
      obtain ⟨nt2, hnt2⟩ : ∃ nt2, nt2 = ntD w N2 := ⟨_, rfl⟩
      rw [← hnt2] at sn ⊢
      refine ⟨[q0, .sh (.lst DS), .sh (.int (w : Nat)), .sh (.int b), .ow (.lst RK), q5, q6, .ow (nt), .sh (.int t), .un, .un, .un, .un, .un, .un, .un, .un], [q0, .sh (.lst DS), .sh (.int (w : Nat)), .sh (.int b), .ow (.lst RK), q5, q6, .ow (nt2), .sh (.int t), .un, .un, .un, .un, .un, .un, .un, .un], by simp [Ci,Ca,Bb,Bd,Cw,Fd,Cy,Cf,Bf,Bk,Fe,Ee,Bl,Fg,Aj,El,Be,frz,Ez,Ac,Ba,fC,DL.M.bnd,Aa,Ay,Bc,Az,Fb,Cc,Em,Ff,Cz,Bg,Eo,Bj,Fi,Ck,Ea,Fc,Ed,Cd,up1,Eg,Ek,Bt,Ab,Ap,Aq,Ar,Au,Av,Aw,Ec,Cq,Eb,Kd.fr,Eh,D.isMut,Ep,Ah,Fh,Bi,Ef,Bm,Bn,D.len,D.list,D.tupl,Ak,Al,Am,An,Ai,Ao,Ae,Bo,Bp,Bq,Br,Bs,D.isN,D.isNot,Ei,ix_l,ix_t,ix_s,Ad,Af,LIM,Ej,Out.upE,Ag,Cr,Et,Ce,Es,Co,Ew,Ex,Cu,Cs,fMe,fMk,Ev,fIk,Cl,D.addI,D.subI,Er,fSl,Cj,slD,Cm,gBk,gCt,fLc,Cb,Ey,fCv,Cg,Bh,Ax,Cv,Ch,isO,only,Eu,at_0,at_1,at_2,at_3,Bu,isO,Bv,Bw,Bx,Bz,isP,Cp,D.isB,D.isNotB,f8], .inl ?_, _, rfl, rfl⟩
      simp [Ci,Ca,Bb,Bd,Cw,Fd,Cy,Cf,Bf,Bk,Fe,Ee,Bl,Fg,Aj,El,Be,frz,Ez,Ac,Ba,fC,DL.M.bnd,Aa,Ay,Bc,Az,Fb,Cc,Em,Ff,Cz,Bg,Eo,Bj,Fi,Ck,Ea,Fc,Ed,Cd,up1,Eg,Ek,Bt,Ab,Ap,Aq,Ar,Au,Av,Aw,Ec,Cq,Eb,Kd.fr,Eh,D.isMut,Ep,Ah,Fh,Bi,Ef,Bm,Bn,D.len,D.list,D.tupl,Ak,Al,Am,An,Ai,Ao,Ae,Bo,Bp,Bq,Br,Bs,D.isN,D.isNot,Ei,ix_l,ix_t,ix_s,Ad,Af,LIM,Ej,Out.upE,Ag,Cr,Et,Ce,Es,Co,Ew,Ex,Cu,Cs,fMe,fMk,Ev,fIk,Cl,D.addI,D.subI,Er,fSl,Cj,slD,Cm,gBk,gCt,fLc,Cb,Ey,fCv,Cg,Bh,Ax,Cv,Ch,isO,only,Eu,at_0,at_1,at_2,at_3,Bu,isO,Bv,Bw,Bx,Bz,isP,Cp,D.isB,D.isNotB,b2_law,c1,limL_ok nS,ii,c2,limL_ok nC,gSetO,fMuV,isn,sn,outX,setO]
    · rw [decide_eq_false ht] at ii
      rw [ns ht, ← hnt]
      refine ⟨[q0, .sh (.lst DS), .sh (.int (w : Nat)), .sh (.int b), .ow (.lst RK), q5, q6, .ow (nt), .sh (.int t), .un, .un, .un, .un, .un, .un, .un, .un], [q0, .sh (.lst DS), .sh (.int (w : Nat)), .sh (.int b), .ow (.lst RK), q5, q6, .ow (nt), .sh (.int t), .un, .un, .un, .un, .un, .un, .un, .un], by simp [Ci,Ca,Bb,Bd,Cw,Fd,Cy,Cf,Bf,Bk,Fe,Ee,Bl,Fg,Aj,El,Be,frz,Ez,Ac,Ba,fC,DL.M.bnd,Aa,Ay,Bc,Az,Fb,Cc,Em,Ff,Cz,Bg,Eo,Bj,Fi,Ck,Ea,Fc,Ed,Cd,up1,Eg,Ek,Bt,Ab,Ap,Aq,Ar,Au,Av,Aw,Ec,Cq,Eb,Kd.fr,Eh,D.isMut,Ep,Ah,Fh,Bi,Ef,Bm,Bn,D.len,D.list,D.tupl,Ak,Al,Am,An,Ai,Ao,Ae,Bo,Bp,Bq,Br,Bs,D.isN,D.isNot,Ei,ix_l,ix_t,ix_s,Ad,Af,LIM,Ej,Out.upE,Ag,Cr,Et,Ce,Es,Co,Ew,Ex,Cu,Cs,fMe,fMk,Ev,fIk,Cl,D.addI,D.subI,Er,fSl,Cj,slD,Cm,gBk,gCt,fLc,Cb,Ey,fCv,Cg,Bh,Ax,Cv,Ch,isO,only,Eu,at_0,at_1,at_2,at_3,Bu,isO,Bv,Bw,Bx,Bz,isP,Cp,D.isB,D.isNotB,f8], .inl ?_, _, rfl, rfl⟩
      simp [Ci,Ca,Bb,Bd,Cw,Fd,Cy,Cf,Bf,Bk,Fe,Ee,Bl,Fg,Aj,El,Be,frz,Ez,Ac,Ba,fC,DL.M.bnd,Aa,Ay,Bc,Az,Fb,Cc,Em,Ff,Cz,Bg,Eo,Bj,Fi,Ck,Ea,Fc,Ed,Cd,up1,Eg,Ek,Bt,Ab,Ap,Aq,Ar,Au,Av,Aw,Ec,Cq,Eb,Kd.fr,Eh,D.isMut,Ep,Ah,Fh,Bi,Ef,Bm,Bn,D.len,D.list,D.tupl,Ak,Al,Am,An,Ai,Ao,Ae,Bo,Bp,Bq,Br,Bs,D.isN,D.isNot,Ei,ix_l,ix_t,ix_s,Ad,Af,LIM,Ej,Out.upE,Ag,Cr,Et,Ce,Es,Co,Ew,Ex,Cu,Cs,fMe,fMk,Ev,fIk,Cl,D.addI,D.subI,Er,fSl,Cj,slD,Cm,gBk,gCt,fLc,Cb,Ey,fCv,Cg,Bh,Ax,Cv,Ch,isO,only,Eu,at_0,at_1,at_2,at_3,Bu,isO,Bv,Bw,Bx,Bz,isP,Cp,D.isB,D.isNotB,b2_law,c1,limL_ok nS,ii])
  rw [ivl_len, show ((48 : Nat) : Int) = 48 from rfl, e48] at e
  exact ⟨q8, f8, e⟩
end DL
namespace DL
open PySem PySem.Spec L2
theorem set_out {R : List Cfg} (hR : Asc cfgLt R) (t : Int) : setN R t [] = R.filter fun c => decide (c.1 ≠ t) := by
  refine asc_unique sto_cfg (setN_asc hR t []) (hR.sublist List.filter_sublist) fun c => ?_
  rw [mem_setN, List.mem_filter, decide_eq_true_eq]
  constructor
  · rintro (h | ⟨_, h⟩)
    · exact h
    · cases h
  · exact .inl
theorem set_new {R : List Cfg} (hR : Asc cfgLt R) (t : Int) (A B : List Int) : setN R t [B, A] = sortR cfgLt ((R.filter fun c => decide (c.1 ≠ t)) ++ [(t, A), (t, B)]) := by
  refine asc_unique sto_cfg (setN_asc hR t _) (asc_sort sto_cfg _) fun c => ?_
  rw [mem_setN, mem_sort, List.mem_append, List.mem_filter, decide_eq_true_eq]
  obtain ⟨s, M⟩ := c
  simp only [List.mem_cons, List.not_mem_nil, or_false, Prod.mk.injEq]
  constructor
  · rintro (h | ⟨h1, h2 | h2⟩)
    · exact .inl h
    · exact .inr (.inr ⟨h1, h2⟩)
    · exact .inr (.inl ⟨h1, h2⟩)
  · rintro (h | ⟨h1, h2⟩ | ⟨h1, h2⟩)
    · exact .inl h
    · exact .inr ⟨h1, .inr h2⟩
    · exact .inr ⟨h1, .inl h2⟩
theorem law_true : ∀ ns : List Int, ns.length ≤ 63 → ∃ fr, Fn_law [.scr ns] = some (.ret fr (.bl true) []) := by
  intro ns hl
  obtain ⟨c0, hc0⟩ := cell_ok ns 0 hl
  have hc0 : Fn__law_cell [.scr ns, .int 0] = some (.ret true (.int c0) []) := hc0
  obtain ⟨ds, h1, h2, hd⟩ := draws_ok c0 40 (by decide) (by decide)
  have h1 : ds.length = 40 := h1
  obtain ⟨g, hgd⟩ : ∃ g : Nat → Int, g = fun k => ds.getD k 0 := ⟨_, rfl⟩
  have hg : ∀ k : Nat, k < 40 → atI (ds.map D.int) (k : Int) = some (.int (g k)) := fun k hk => by
    have e := List.getElem?_eq_getElem (l := ds) (i := k) (by omega)
    have e2 : g k = ds[k]'(by omega) := by rw [hgd]; show ds.getD k 0 = _; rw [List.getD_eq_getElem?_getD, e]; rfl
    rw [atI_mapT D.int e, e2]
  have hg0 : ∀ k, k < 40 → 0 ≤ g k := fun k hk => by
    have e := List.getElem?_eq_getElem (l := ds) (i := k) (by omega)
    have e2 : g k = ds[k]'(by omega) := by rw [hgd]; show ds.getD k 0 = _; rw [List.getD_eq_getElem?_getD, e]; rfl
    rw [e2]
    exact (h2 _ (List.mem_of_getElem? e)).1
  obtain ⟨DS, hDS⟩ : ∃ DS, DS = ds.map D.int := ⟨_, rfl⟩
  rw [← hDS] at hd hg
  have d0 : atI DS 0 = some (.int (g 0)) := hg 0 (by decide)
  have d1 : atI DS 1 = some (.int (g 1)) := hg 1 (by decide)
  have d2 : atI DS 2 = some (.int (g 2)) := hg 2 (by decide)
  obtain ⟨w, hwI⟩ : ∃ w : Nat, (w : Int) = (g 0 + 3) % 5 := ⟨((g 0 + 3) % 5).toNat, by omega⟩
  have hw : w ≤ 4 := by omega
  obtain ⟨b, hb, at3⟩ : ∃ b : Int, (0 < b ∧ b < 1000) ∧ atI [D.int 3, .int 996] (g 1 % 2) = some (.int b) := by
    have h3 : g 1 % 2 = 0 ∨ g 1 % 2 = 1 := by omega
    rcases h3 with h | h <;> rw [h]
    · exact ⟨3, by decide, rfl⟩
    · exact ⟨996, by decide, rfl⟩
  obtain ⟨m, hm⟩ : ∃ m : Nat, (m : Int) = g 2 % 7 := ⟨(g 2 % 7).toNat, by omega⟩
  have rm := rng_1 m (by omega)
  obtain ⟨Rs, q5, q6, lRs, okRs, f5, f6, eR⟩ := rows_loop g DS hg0 hg w hw b hb m (by omega) (.bo (.scr ns))
  obtain ⟨MX, hMX⟩ : ∃ MX, MX = (ivl m).map D.int := ⟨_, rfl⟩
  rw [← hMX] at rm eR
  obtain ⟨R, hR⟩ : ∃ R, R = sortR cfgLt Rs := ⟨_, rfl⟩
  have aR : Asc cfgLt R := by rw [hR]; exact asc_sort sto_cfg Rs
  have okR : ∀ c ∈ R, Row12 w c := fun c hc => by rw [hR] at hc; exact okRs c (mem_sort.mp hc)
  have lR : R.length ≤ 6 := by
    rw [hR]
    have := sort_le (lt := cfgLt) Rs
    omega
  have rk := ranked_ok Rs (by omega)
  rw [← hR] at rk
  have ni := notes_init w hw
  obtain ⟨q8, f8, eN⟩ := notes_loop w hw R aR okR (by omega) DS b (.bo (.scr ns)) q5 q6 (R.map keyD) rfl
  have r48 := rng_1 48 (by decide)
  obtain ⟨SX, hSX⟩ : ∃ SX, SX = (ivl 48).map D.int := ⟨_, rfl⟩
  rw [← hSX] at r48 eN
  have r48 : rng1 [.int 48] = some SX := r48
  obtain ⟨R5, hR5⟩ : ∃ R5, R5 = R.filter fun c => decide (c.1 ≠ 5) := ⟨_, rfl⟩
  have aR5 : Asc cfgLt R5 := by rw [hR5]; exact aR.sublist List.filter_sublist
  have okR5 : ∀ c ∈ R5, Row12 w c := fun c hc => by rw [hR5] at hc; exact okR c (List.mem_filter.mp hc).1
  have lR5 : R5.length ≤ 6 := by rw [hR5]; exact Nat.le_trans (List.length_filter_le _ _) lR
  obtain ⟨A1, hA1⟩ : ∃ A1, A1 = List.replicate w (1 : Int) := ⟨_, rfl⟩
  obtain ⟨A2, hA2⟩ : ∃ A2, A2 = List.replicate w (2 : Int) := ⟨_, rfl⟩
  have ok1 : Row12 w (10, A1) := by rw [hA1]; exact row_rep w 1 (by decide) (by decide)
  have ok2 : Row12 w (10, A2) := by rw [hA2]; exact row_rep w 2 (by decide) (by decide)
  obtain ⟨RM, hRM⟩ : ∃ RM, RM = (R.filter fun c => decide (c.1 ≠ 10)) ++ [(10, A1), (10, A2)] := ⟨_, rfl⟩
  have okRM : ∀ c ∈ RM, Row12 w c := fun c hc => by
    rw [hRM] at hc
    rcases List.mem_append.mp hc with hc | hc
    · exact okR c (List.mem_filter.mp hc).1
    · rcases List.mem_cons.mp hc with rfl | hc
      · exact ok1
      · rw [List.mem_singleton.mp hc]
        exact ok2
  have lRM : RM.length ≤ 8 := by
    rw [hRM, List.length_append]
    have h1 : (R.filter fun c => decide (c.1 ≠ 10)).length ≤ 6 := Nat.le_trans (List.length_filter_le _ _) lR
    show (R.filter fun c => decide (c.1 ≠ 10)).length + 2 ≤ 8
    omega
  obtain ⟨DU, hDU⟩ : ∃ DU, DU = sortR cfgLt RM := ⟨_, rfl⟩
  have aDU : Asc cfgLt DU := by rw [hDU]; exact asc_sort sto_cfg RM
  have okDU : ∀ c ∈ DU, Row12 w c := fun c hc => by rw [hDU] at hc; exact okRM c (mem_sort.mp hc)
  have lDU : DU.length ≤ 8 := by
    rw [hDU]
    have := sort_le (lt := cfgLt) RM
    omega
  have rk2 := ranked_ok RM (by omega)
  rw [← hDU] at rk2
  have s5 := nt_set w (by omega) R 5 [] (.lst []) (Ad _) (fun M h => by cases h) (fun M h => by cases h) (fun M h => by cases h) aR (by simp; omega)
  rw [set_out aR 5, ← hR5] at s5
  have s10 := nt_set w (by omega) R 10 [A2, A1] (.lst ([A2, A1].map crD)) (Ad _) (fun M h => by
    rcases List.mem_cons.mp h with rfl | h
    · exact ok2.len
    · rw [List.mem_singleton.mp h]; exact ok1.len) (fun M h => by
    rcases List.mem_cons.mp h with rfl | h
    · exact ok2.asc
    · rw [List.mem_singleton.mp h]; exact ok1.asc) (fun M h => by
    rcases List.mem_cons.mp h with rfl | h
    · exact fun x hx => (ok2.mem x hx).1
    · rw [List.mem_singleton.mp h]; exact fun x hx => (ok1.mem x hx).1) aR (by show R.length + 2 ≤ 1000000; omega)
  rw [set_new aR 10 A1 A2, ← hRM, ← hDU] at s10
  have cp := copy_ok w hw R (aR.nodup sto_cfg) (by omega)
  have li := lines_ok w hw R okR (by omega)
  have ll := law_lines_ok w hw R okR (by omega)
  have li5 := lines_ok w hw R5 okR5 (by omega)
  have ll5 := law_lines_ok w hw R5 okR5 (by omega)
  have liD := lines_ok w hw DU okDU (by omega)
  have llD := law_lines_ok w hw DU okDU (by omega)
  have pr := pairs_ok w R (by omega)
  have pr5 := pairs_ok w R5 (by omega)
  have noC : ∀ c ∈ ([] : List Cfg), Row12 w c := fun c hc => by cases hc
  have ak0 : Fn__law_asked [ntD w R, .lst (R.map keyD), .lst []] = some (.ret true (.bl true) []) := asked_ok w hw R [] okR noC (by omega) (by simp)
  have ak5 := asked_ok w hw R5 R okR5 okR (by omega) (by omega)
  have akD := asked_ok w hw DU R okDU okR (by omega) (by omega)
  have akD0 : Fn__law_asked [ntD w DU, .lst (DU.map keyD), .lst []] = some (.ret true (.bl true) []) := asked_ok w hw DU [] okDU noC (by omega) (by simp)
  have ak5b := asked_ok w hw R5 (R ++ [(10, A1), (10, A2)]) okR5 (fun c hc => by
    rcases List.mem_append.mp hc with hc | hc
    · exact okR c hc
    · rcases List.mem_cons.mp hc with rfl | hc
      · exact ok1
      · rw [List.mem_singleton.mp hc]
        exact ok2) (by omega) (by rw [List.length_append]; show R.length + 2 ≤ 100; omega)
  have i3 := isi_n3 w R
  have fw := fld_n0 w R
  have isn := isN w R
  have isn5 := isN w R5
  have isnD := isN w DU
  have it1 := it_n w R
  have it5 := it_n w R5
  have itD := it_n w DU
  have en1 := entries_ok R (by omega)
  have en5 := entries_ok R5 (by omega)
  have enD := entries_ok DU (by omega)
  have nk1 := ne_keys R
  have nk5 := ne_keys R5
  have nkD := ne_keys DU
  have neL := (eqr_lines R).ne (by decide)
  have neL5 := (eqr_lines R5).ne (by decide)
  have neLD := (eqr_lines DU).ne (by decide)
  have cw : D.ne (.int (w : Nat)) (.int (w : Nat)) = some (.bl false) := by rw [Cp]; simp
  have m1 := mulT_one 1 w (by omega)
  have m2 := mulT_one 2 w (by omega)
  have u1 := mul_li 1 w (by omega)
  have u2 := mul_li 2 w (by omega)
  have k1 := mk_rep 1 (by decide) w (by omega)
  have k2 := mk_rep 2 (by decide) w (by omega)
  rw [← hA1] at m1 u1 k1
  rw [← hA2] at m2 u2 k2
  have e10 : [A2, A1].map crD = [crD A2, crD A1] := rfl
  rw [e10] at s10
  have ek1 : keyD (10, A1) = .tup [.int 10, .tup (A1.map D.int)] := rfl
  have ek2 : keyD (10, A2) = .tup [.int 10, .tup (A2.map D.int)] := rfl
  have eMo : [((10 : Int), A1), (10, A2)].map keyD = [keyD (10, A1), keyD (10, A2)] := rfl
  have ctR : ∀ (t : Int), (R.filter fun c => decide (c.1 ≠ t)).length ≤ 6 := fun t => Nat.le_trans (List.length_filter_le _ _) lR
  have l10 := ctR 10
  have eRM : RM.map keyD = (R.filter fun c => decide (c.1 ≠ 10)).map keyD ++ [keyD (10, A1), keyD (10, A2)] := by rw [hRM, List.map_append, eMo]
  have eRA : (R ++ [((10 : Int), A1), (10, A2)]).map keyD = R.map keyD ++ [keyD (10, A1), keyD (10, A2)] := by rw [List.map_append, eMo]
  rw [eRM] at rk2
  rw [eRA] at ak5b
  have nRA : (R.map keyD).length ≤ 6 := by rw [List.length_map]; exact lR
  have nF : ((R.filter fun c => decide (c.1 ≠ 10)).map keyD).length ≤ 6 := by rw [List.length_map]; exact l10
  have nMo : ([keyD (10, A1), keyD (10, A2)] : List D).length = 2 := rfl
  obtain ⟨RK, hRK⟩ : ∃ RK, RK = R.map keyD := ⟨_, rfl⟩
  obtain ⟨nt, hnt⟩ : ∃ nt, nt = ntD w R := ⟨_, rfl⟩
  obtain ⟨ntD2, hntD2⟩ : ∃ nt, nt = ntD w DU := ⟨_, rfl⟩
  obtain ⟨nt5, hnt5⟩ : ∃ nt, nt = ntD w R5 := ⟨_, rfl⟩
  obtain ⟨TL, hTL⟩ : ∃ TL, TL = R.map ltD := ⟨_, rfl⟩
  have c2 : ∀ (q13 q12 q11 q10 q9 : Sl) (nt : D), compG (Ep 15) c2_law e6_law [.bo (.scr ns), .sh (.lst DS), .sh (.int (w : Nat)), .sh (.int b), .ln (.lst RK), q5, q6, .ow (nt), q8, q9, q10, q11, q12, q13, .un, .un, .un] (R.map keyD) = some (R5.map keyD) := fun q13 q12 q11 q10 q9 nt => by
    rw [hR5, compG_map keyD (fun c => decide (c.1 ≠ 5)) keyD R fun c _ => ?_]
    have kk : keyD c = .tup [.int c.1, encR c.2] := rfl
    obtain ⟨er, her⟩ : ∃ er, er = encR c.2 := ⟨_, rfl⟩
    rw [← her] at kk
    rw [kk]
    refine ⟨[.bo (.scr ns), .sh (.lst DS), .sh (.int (w : Nat)), .sh (.int b), .ln (.lst RK), q5, q6, .ow (nt), q8, q9, q10, q11, q12, q13, .un, .sh (.tup [.int c.1, er]), .un], by simp [Ci,Ca,Bb,Bd,Cw,Fd,Cy,Cf,Bf,Bk,Fe,Ee,Bl,Fg,Aj,El,Be,frz,Ez,Ac,Ba,fC,DL.M.bnd,Aa,Ay,Bc,Az,Fb,Cc,Em,Ff,Cz,Bg,Eo,Bj,Fi,Ck,Ea,Fc,Ed,Cd,up1,Eg,Ek,Bt,Ab,Ap,Aq,Ar,Au,Av,Aw,Ec,Cq,Eb,Kd.fr,Eh,D.isMut,Ep,Ah,Fh,Bi,Ef,Bm,Bn,D.len,D.list,D.tupl,Ak,Al,Am,An,Ai,Ao,Ae,Bo,Bp,Bq,Br,Bs,D.isN,D.isNot,Ei,ix_l,ix_t,ix_s,Ad,Af,LIM,Ej,Out.upE,Ag,Cr,Et,Ce,Es,Co,Ew,Ex,Cu,Cs,fMe,fMk,Ev,fIk,Cl,D.addI,D.subI,Er,fSl,Cj,slD,Cm,gBk,gCt,fLc,Cb,Ey,fCv,Cg,Bh,Ax,Cv,Ch,isO,only,Eu,at_0,at_1,at_2,at_3,Bu,isO,Bv,Bw,Bx,Bz,isP,Cp,D.isB,D.isNotB], ?_, fun _ => by simp [Ci,Ca,Bb,Bd,Cw,Fd,Cy,Cf,Bf,Bk,Fe,Ee,Bl,Fg,Aj,El,Be,frz,Ez,Ac,Ba,fC,DL.M.bnd,Aa,Ay,Bc,Az,Fb,Cc,Em,Ff,Cz,Bg,Eo,Bj,Fi,Ck,Ea,Fc,Ed,Cd,up1,Eg,Ek,Bt,Ab,Ap,Aq,Ar,Au,Av,Aw,Ec,Cq,Eb,Kd.fr,Eh,D.isMut,Ep,Ah,Fh,Bi,Ef,Bm,Bn,D.len,D.list,D.tupl,Ak,Al,Am,An,Ai,Ao,Ae,Bo,Bp,Bq,Br,Bs,D.isN,D.isNot,Ei,ix_l,ix_t,ix_s,Ad,Af,LIM,Ej,Out.upE,Ag,Cr,Et,Ce,Es,Co,Ew,Ex,Cu,Cs,fMe,fMk,Ev,fIk,Cl,D.addI,D.subI,Er,fSl,Cj,slD,Cm,gBk,gCt,fLc,Cb,Ey,fCv,Cg,Bh,Ax,Cv,Ch,isO,only,Eu,at_0,at_1,at_2,at_3,Bu,isO,Bv,Bw,Bx,Bz,isP,Cp,D.isB,D.isNotB,e6_law]⟩
    by_cases h : c.1 = 5
    · rw [decide_eq_false (by simpa using h)]
      simp [Ci,Ca,Bb,Bd,Cw,Fd,Cy,Cf,Bf,Bk,Fe,Ee,Bl,Fg,Aj,El,Be,frz,Ez,Ac,Ba,fC,DL.M.bnd,Aa,Ay,Bc,Az,Fb,Cc,Em,Ff,Cz,Bg,Eo,Bj,Fi,Ck,Ea,Fc,Ed,Cd,up1,Eg,Ek,Bt,Ab,Ap,Aq,Ar,Au,Av,Aw,Ec,Cq,Eb,Kd.fr,Eh,D.isMut,Ep,Ah,Fh,Bi,Ef,Bm,Bn,D.len,D.list,D.tupl,Ak,Al,Am,An,Ai,Ao,Ae,Bo,Bp,Bq,Br,Bs,D.isN,D.isNot,Ei,ix_l,ix_t,ix_s,Ad,Af,LIM,Ej,Out.upE,Ag,Cr,Et,Ce,Es,Co,Ew,Ex,Cu,Cs,fMe,fMk,Ev,fIk,Cl,D.addI,D.subI,Er,fSl,Cj,slD,Cm,gBk,gCt,fLc,Cb,Ey,fCv,Cg,Bh,Ax,Cv,Ch,isO,only,Eu,at_0,at_1,at_2,at_3,Bu,isO,Bv,Bw,Bx,Bz,isP,Cp,D.isB,D.isNotB,c2_law,h]
    · rw [decide_eq_true h]
      simp [Ci,Ca,Bb,Bd,Cw,Fd,Cy,Cf,Bf,Bk,Fe,Ee,Bl,Fg,Aj,El,Be,frz,Ez,Ac,Ba,fC,DL.M.bnd,Aa,Ay,Bc,Az,Fb,Cc,Em,Ff,Cz,Bg,Eo,Bj,Fi,Ck,Ea,Fc,Ed,Cd,up1,Eg,Ek,Bt,Ab,Ap,Aq,Ar,Au,Av,Aw,Ec,Cq,Eb,Kd.fr,Eh,D.isMut,Ep,Ah,Fh,Bi,Ef,Bm,Bn,D.len,D.list,D.tupl,Ak,Al,Am,An,Ai,Ao,Ae,Bo,Bp,Bq,Br,Bs,D.isN,D.isNot,Ei,ix_l,ix_t,ix_s,Ad,Af,LIM,Ej,Out.upE,Ag,Cr,Et,Ce,Es,Co,Ew,Ex,Cu,Cs,fMe,fMk,Ev,fIk,Cl,D.addI,D.subI,Er,fSl,Cj,slD,Cm,gBk,gCt,fLc,Cb,Ey,fCv,Cg,Bh,Ax,Cv,Ch,isO,only,Eu,at_0,at_1,at_2,at_3,Bu,isO,Bv,Bw,Bx,Bz,isP,Cp,D.isB,D.isNotB,c2_law,h]
  have c3 : ∀ (q13 q12 q11 q10 q9 : Sl) (nt : D), compG (Ep 15) c3_law e9_law [.bo (.scr ns), .sh (.lst DS), .sh (.int (w : Nat)), .sh (.int b), .ln (.lst RK), q5, q6, .ow (nt), q8, q9, q10, q11, q12, q13, .un, .un, .un] (R.map keyD) = some ((R.filter fun c => decide (c.1 ≠ 10)).map keyD) := fun q13 q12 q11 q10 q9 nt => by
    rw [compG_map keyD (fun c => decide (c.1 ≠ 10)) keyD R fun c _ => ?_]
    have kk : keyD c = .tup [.int c.1, encR c.2] := rfl
    obtain ⟨er, her⟩ : ∃ er, er = encR c.2 := ⟨_, rfl⟩
    rw [← her] at kk
    rw [kk]
    refine ⟨[.bo (.scr ns), .sh (.lst DS), .sh (.int (w : Nat)), .sh (.int b), .ln (.lst RK), q5, q6, .ow (nt), q8, q9, q10, q11, q12, q13, .un, .sh (.tup [.int c.1, er]), .un], by simp [Ci,Ca,Bb,Bd,Cw,Fd,Cy,Cf,Bf,Bk,Fe,Ee,Bl,Fg,Aj,El,Be,frz,Ez,Ac,Ba,fC,DL.M.bnd,Aa,Ay,Bc,Az,Fb,Cc,Em,Ff,Cz,Bg,Eo,Bj,Fi,Ck,Ea,Fc,Ed,Cd,up1,Eg,Ek,Bt,Ab,Ap,Aq,Ar,Au,Av,Aw,Ec,Cq,Eb,Kd.fr,Eh,D.isMut,Ep,Ah,Fh,Bi,Ef,Bm,Bn,D.len,D.list,D.tupl,Ak,Al,Am,An,Ai,Ao,Ae,Bo,Bp,Bq,Br,Bs,D.isN,D.isNot,Ei,ix_l,ix_t,ix_s,Ad,Af,LIM,Ej,Out.upE,Ag,Cr,Et,Ce,Es,Co,Ew,Ex,Cu,Cs,fMe,fMk,Ev,fIk,Cl,D.addI,D.subI,Er,fSl,Cj,slD,Cm,gBk,gCt,fLc,Cb,Ey,fCv,Cg,Bh,Ax,Cv,Ch,isO,only,Eu,at_0,at_1,at_2,at_3,Bu,isO,Bv,Bw,Bx,Bz,isP,Cp,D.isB,D.isNotB], ?_, fun _ => by simp [Ci,Ca,Bb,Bd,Cw,Fd,Cy,Cf,Bf,Bk,Fe,Ee,Bl,Fg,Aj,El,Be,frz,Ez,Ac,Ba,fC,DL.M.bnd,Aa,Ay,Bc,Az,Fb,Cc,Em,Ff,Cz,Bg,Eo,Bj,Fi,Ck,Ea,Fc,Ed,Cd,up1,Eg,Ek,Bt,Ab,Ap,Aq,Ar,Au,Av,Aw,Ec,Cq,Eb,Kd.fr,Eh,D.isMut,Ep,Ah,Fh,Bi,Ef,Bm,Bn,D.len,D.list,D.tupl,Ak,Al,Am,An,Ai,Ao,Ae,Bo,Bp,Bq,Br,Bs,D.isN,D.isNot,Ei,ix_l,ix_t,ix_s,Ad,Af,LIM,Ej,Out.upE,Ag,Cr,Et,Ce,Es,Co,Ew,Ex,Cu,Cs,fMe,fMk,Ev,fIk,Cl,D.addI,D.subI,Er,fSl,Cj,slD,Cm,gBk,gCt,fLc,Cb,Ey,fCv,Cg,Bh,Ax,Cv,Ch,isO,only,Eu,at_0,at_1,at_2,at_3,Bu,isO,Bv,Bw,Bx,Bz,isP,Cp,D.isB,D.isNotB,e9_law]⟩
    by_cases h : c.1 = 10
    · rw [decide_eq_false (by simpa using h)]
      simp [Ci,Ca,Bb,Bd,Cw,Fd,Cy,Cf,Bf,Bk,Fe,Ee,Bl,Fg,Aj,El,Be,frz,Ez,Ac,Ba,fC,DL.M.bnd,Aa,Ay,Bc,Az,Fb,Cc,Em,Ff,Cz,Bg,Eo,Bj,Fi,Ck,Ea,Fc,Ed,Cd,up1,Eg,Ek,Bt,Ab,Ap,Aq,Ar,Au,Av,Aw,Ec,Cq,Eb,Kd.fr,Eh,D.isMut,Ep,Ah,Fh,Bi,Ef,Bm,Bn,D.len,D.list,D.tupl,Ak,Al,Am,An,Ai,Ao,Ae,Bo,Bp,Bq,Br,Bs,D.isN,D.isNot,Ei,ix_l,ix_t,ix_s,Ad,Af,LIM,Ej,Out.upE,Ag,Cr,Et,Ce,Es,Co,Ew,Ex,Cu,Cs,fMe,fMk,Ev,fIk,Cl,D.addI,D.subI,Er,fSl,Cj,slD,Cm,gBk,gCt,fLc,Cb,Ey,fCv,Cg,Bh,Ax,Cv,Ch,isO,only,Eu,at_0,at_1,at_2,at_3,Bu,isO,Bv,Bw,Bx,Bz,isP,Cp,D.isB,D.isNotB,c3_law,h]
    · rw [decide_eq_true h]
      simp [Ci,Ca,Bb,Bd,Cw,Fd,Cy,Cf,Bf,Bk,Fe,Ee,Bl,Fg,Aj,El,Be,frz,Ez,Ac,Ba,fC,DL.M.bnd,Aa,Ay,Bc,Az,Fb,Cc,Em,Ff,Cz,Bg,Eo,Bj,Fi,Ck,Ea,Fc,Ed,Cd,up1,Eg,Ek,Bt,Ab,Ap,Aq,Ar,Au,Av,Aw,Ec,Cq,Eb,Kd.fr,Eh,D.isMut,Ep,Ah,Fh,Bi,Ef,Bm,Bn,D.len,D.list,D.tupl,Ak,Al,Am,An,Ai,Ao,Ae,Bo,Bp,Bq,Br,Bs,D.isN,D.isNot,Ei,ix_l,ix_t,ix_s,Ad,Af,LIM,Ej,Out.upE,Ag,Cr,Et,Ce,Es,Co,Ew,Ex,Cu,Cs,fMe,fMk,Ev,fIk,Cl,D.addI,D.subI,Er,fSl,Cj,slD,Cm,gBk,gCt,fLc,Cb,Ey,fCv,Cg,Bh,Ax,Cv,Ch,isO,only,Eu,at_0,at_1,at_2,at_3,Bu,isO,Bv,Bw,Bx,Bz,isP,Cp,D.isB,D.isNotB,c3_law,h]
  have c4 : compG (Ep 16) Cd e4_law [.bo (.scr ns), .sh (.lst DS), .sh (.int (w : Nat)), .sh (.int b), .ow (.lst RK), q5, q6, .ow (nt), q8, .ln (.lst TL), .un, .un, .un, .un, .un, .un, .un] (R.map ltD) = some (R.map fun _ => D.bl true) :=
    compG_all (h := (Ep 16)) (fe := e4_law) (ρ := [.bo (.scr ns), .sh (.lst DS), .sh (.int (w : Nat)), .sh (.int b), .ow (.lst RK), q5, q6, .ow (nt), q8, .ln (.lst TL), .un, .un, .un, .un, .un, .un, .un]) ltD (fun _ => .bl true) R fun c _ => by
      have i := isi_s (ltS c)
      obtain ⟨lt, hlt⟩ : ∃ lt, lt = ltD c := ⟨_, rfl⟩
      have i : D.isi [lt, .typ "str"] = some (.bl true) := by rw [hlt]; exact i
      rw [← hlt]
      exact ⟨[.bo (.scr ns), .sh (.lst DS), .sh (.int (w : Nat)), .sh (.int b), .ow (.lst RK), q5, q6, .ow (nt), q8, .ln (.lst TL), .un, .un, .un, .un, .un, .un, .sh (lt)], by simp [Ci,Ca,Bb,Bd,Cw,Fd,Cy,Cf,Bf,Bk,Fe,Ee,Bl,Fg,Aj,El,Be,frz,Ez,Ac,Ba,fC,DL.M.bnd,Aa,Ay,Bc,Az,Fb,Cc,Em,Ff,Cz,Bg,Eo,Bj,Fi,Ck,Ea,Fc,Ed,Cd,up1,Eg,Ek,Bt,Ab,Ap,Aq,Ar,Au,Av,Aw,Ec,Cq,Eb,Kd.fr,Eh,D.isMut,Ep,Ah,Fh,Bi,Ef,Bm,Bn,D.len,D.list,D.tupl,Ak,Al,Am,An,Ai,Ao,Ae,Bo,Bp,Bq,Br,Bs,D.isN,D.isNot,Ei,ix_l,ix_t,ix_s,Ad,Af,LIM,Ej,Out.upE,Ag,Cr,Et,Ce,Es,Co,Ew,Ex,Cu,Cs,fMe,fMk,Ev,fIk,Cl,D.addI,D.subI,Er,fSl,Cj,slD,Cm,gBk,gCt,fLc,Cb,Ey,fCv,Cg,Bh,Ax,Cv,Ch,isO,only,Eu,at_0,at_1,at_2,at_3,Bu,isO,Bv,Bw,Bx,Bz,isP,Cp,D.isB,D.isNotB], by simp [Ci,Ca,Bb,Bd,Cw,Fd,Cy,Cf,Bf,Bk,Fe,Ee,Bl,Fg,Aj,El,Be,frz,Ez,Ac,Ba,fC,DL.M.bnd,Aa,Ay,Bc,Az,Fb,Cc,Em,Ff,Cz,Bg,Eo,Bj,Fi,Ck,Ea,Fc,Ed,Cd,up1,Eg,Ek,Bt,Ab,Ap,Aq,Ar,Au,Av,Aw,Ec,Cq,Eb,Kd.fr,Eh,D.isMut,Ep,Ah,Fh,Bi,Ef,Bm,Bn,D.len,D.list,D.tupl,Ak,Al,Am,An,Ai,Ao,Ae,Bo,Bp,Bq,Br,Bs,D.isN,D.isNot,Ei,ix_l,ix_t,ix_s,Ad,Af,LIM,Ej,Out.upE,Ag,Cr,Et,Ce,Es,Co,Ew,Ex,Cu,Cs,fMe,fMk,Ev,fIk,Cl,D.addI,D.subI,Er,fSl,Cj,slD,Cm,gBk,gCt,fLc,Cb,Ey,fCv,Cg,Bh,Ax,Cv,Ch,isO,only,Eu,at_0,at_1,at_2,at_3,Bu,isO,Bv,Bw,Bx,Bz,isP,Cp,D.isB,D.isNotB,e4_law,fIsi,i]⟩
  have nf := no_false R
  obtain ⟨BX, hBX⟩ : ∃ BX, BX = R.map fun _ => D.bl true := ⟨_, rfl⟩
  have nB : BX.length ≤ 16000000 := by rw [hBX, List.length_map]; omega
  have nTL : TL.length < 16000000 := by rw [hTL, List.length_map]; omega
  have ilT := isi_ll TL
  obtain ⟨n0, hn0⟩ : ∃ n0, n0 = ntD w [] := ⟨_, rfl⟩
  rw [← hn0] at ni eN
  obtain ⟨RS, hRS⟩ : ∃ RS, RS = Rs.map keyD := ⟨_, rfl⟩
  rw [← hRS] at eR rk
  obtain ⟨RK5, hRK5⟩ : ∃ RK5, RK5 = R5.map keyD := ⟨_, rfl⟩
  obtain ⟨DK, hDK⟩ : ∃ DK, DK = DU.map keyD := ⟨_, rfl⟩
  obtain ⟨NX, hNX⟩ : ∃ NX, NX = R.map encC := ⟨_, rfl⟩
  obtain ⟨NX5, hNX5⟩ : ∃ NX5, NX5 = R5.map encC := ⟨_, rfl⟩
  obtain ⟨NXD, hNXD⟩ : ∃ NXD, NXD = DU.map encC := ⟨_, rfl⟩
  have i1 : ∀ ρ : En, oFree ρ[15]? = true → compG (Ep 15) Cd (Ay 15) ρ NX = some NX := fun ρ h => by rw [hNX]; exact idC 15 encC R ρ h
  have i5 : ∀ ρ : En, oFree ρ[15]? = true → compG (Ep 15) Cd (Ay 15) ρ NX5 = some NX5 := fun ρ h => by rw [hNX5]; exact idC 15 encC R5 ρ h
  have iD : ∀ ρ : En, oFree ρ[15]? = true → compG (Ep 15) Cd (Ay 15) ρ NXD = some NXD := fun ρ h => by rw [hNXD]; exact idC 15 encC DU ρ h
  have z1 : NX.length ≤ 16000000 := by rw [hNX, List.length_map]; omega
  have z5 : NX5.length ≤ 16000000 := by rw [hNX5, List.length_map]; omega
  have zD : NXD.length ≤ 16000000 := by rw [hNXD, List.length_map]; omega
  obtain ⟨FK, hFK⟩ : ∃ FK, FK = (R.filter fun c => decide (c.1 ≠ 10)).map keyD := ⟨_, rfl⟩
  obtain ⟨ka, hka⟩ : ∃ ka, ka = keyD (10, A1) := ⟨_, rfl⟩
  obtain ⟨kb, hkb⟩ : ∃ kb, kb = keyD (10, A2) := ⟨_, rfl⟩
  obtain ⟨ca, hca⟩ : ∃ ca, ca = crD A1 := ⟨_, rfl⟩
  obtain ⟨cb, hcb⟩ : ∃ cb, cb = crD A2 := ⟨_, rfl⟩
  obtain ⟨T5, hT5⟩ : ∃ T5, T5 = R5.map ltD := ⟨_, rfl⟩
  obtain ⟨TD, hTD⟩ : ∃ TD, TD = DU.map ltD := ⟨_, rfl⟩
  rw [← hnt] at eN s5 s10 cp li pr ak0 i3 fw isn it1
  rw [← hnt5] at s5 li5 pr5 ak5 ak5b isn5 it5
  rw [← hntD2] at s10 liD akD akD0 isnD itD
  rw [← hRK] at rk eN ll pr ak0 ak5 akD en1 nk1 ak5b nRA c2 c3
  rw [← hRK5] at ll5 pr5 ak5 ak5b en5 nk5 c2
  rw [← hDK] at rk2 llD akD akD0 enD nkD
  rw [← hTL] at li ll neL c4
  rw [← hT5] at li5 ll5 neL5
  rw [← hTD] at liD llD neLD
  rw [← hBX] at c4 nf
  rw [← hNX] at it1 en1
  rw [← hNX5] at it5 en5
  rw [← hNXD] at itD enD
  rw [← hFK] at rk2 nF c3
  rw [← hka] at rk2 ak5b ek1 nMo
  rw [← hkb] at rk2 ak5b ek2 nMo
  rw [← hca] at s10 k1
  rw [← hcb] at s10 k2
  obtain ⟨X1, hX1⟩ : ∃ X1, X1 = A1.map D.int := ⟨_, rfl⟩
  obtain ⟨X2, hX2⟩ : ∃ X2, X2 = A2.map D.int := ⟨_, rfl⟩
  rw [← hX1] at m1 u1 k1 ek1
  rw [← hX2] at m2 u2 k2 ek2
  have ad1 : D.add (.lst FK) (.lst [ka, kb]) = some (.lst (FK ++ [ka, kb])) := add_ll (by rw [nMo]; omega)
  have ad2 : D.add (.lst RK) (.lst [ka, kb]) = some (.lst (RK ++ [ka, kb])) := add_ll (by rw [nMo]; omega)
  have nFK : FK.length ≤ 16000000 := by omega
  have nR5 : RK5.length ≤ 16000000 := by rw [hRK5, List.length_map]; omega
  refine ⟨true, ?_⟩
  show Cq _ (r1_law [.bo (.scr ns), .un, .un, .un, .un, .un, .un, .un, .un, .un, .un, .un, .un, .un, .un, .un, .un]) = _
  have e : r1_law [.bo (.scr ns), .un, .un, .un, .un, .un, .un, .un, .un, .un, .un, .un, .un, .un, .un, .un, .un] = r12_law [.bo (.scr ns), .sh (.lst DS), .sh (.int (w : Nat)), .sh (.int b), .ow (.lst RK), q5, q6, .ow (nt), q8, .ow (.lst (TL ++ [.str ""])), .un, .un, .un, .un, .un, .un, .un] := by
    refine ((gSeq_nx (ρ' := [.bo (.scr ns), .sh (.lst DS), .un, .un, .un, .un, .un, .un, .un, .un, .un, .un, .un, .un, .un, .un, .un]) ?_).trans ((gSeq_nx (ρ' := [.bo (.scr ns), .sh (.lst DS), .sh (.int (w : Nat)), .un, .un, .un, .un, .un, .un, .un, .un, .un, .un, .un, .un, .un, .un]) ?_).trans ((gSeq_nx (ρ' := [.bo (.scr ns), .sh (.lst DS), .sh (.int (w : Nat)), .sh (.int b), .un, .un, .un, .un, .un, .un, .un, .un, .un, .un, .un, .un, .un]) ?_).trans ((gSeq_nx (ρ' := [.bo (.scr ns), .sh (.lst DS), .sh (.int (w : Nat)), .sh (.int b), .ow (.lst []), .un, .un, .un, .un, .un, .un, .un, .un, .un, .un, .un, .un]) ?_).trans ((gSeq_nx (ρ' := [.bo (.scr ns), .sh (.lst DS), .sh (.int (w : Nat)), .sh (.int b), .ow (.lst RS), q5, q6, .un, .un, .un, .un, .un, .un, .un, .un, .un, .un]) ?_).trans ((gSeq_nx (ρ' := [.bo (.scr ns), .sh (.lst DS), .sh (.int (w : Nat)), .sh (.int b), .ow (.lst RK), q5, q6, .un, .un, .un, .un, .un, .un, .un, .un, .un, .un]) ?_).trans ((gSeq_nx (ρ' := [.bo (.scr ns), .sh (.lst DS), .sh (.int (w : Nat)), .sh (.int b), .ow (.lst RK), q5, q6, .ow (n0), .un, .un, .un, .un, .un, .un, .un, .un, .un]) ?_).trans ((gSeq_nx (ρ' := [.bo (.scr ns), .sh (.lst DS), .sh (.int (w : Nat)), .sh (.int b), .ow (.lst RK), q5, q6, .ow (nt), q8, .un, .un, .un, .un, .un, .un, .un, .un]) ?_).trans ((gSeq_nx (ρ' := [.bo (.scr ns), .sh (.lst DS), .sh (.int (w : Nat)), .sh (.int b), .ow (.lst RK), q5, q6, .ow (nt), q8, .ow (.lst TL), .un, .un, .un, .un, .un, .un, .un]) ?_).trans ((gSeq_nx (ρ' := [.bo (.scr ns), .sh (.lst DS), .sh (.int (w : Nat)), .sh (.int b), .ow (.lst RK), q5, q6, .ow (nt), q8, .ow (.lst TL), .un, .un, .un, .un, .un, .un, .un]) ?_).trans (gSeq_nx ?_)))))))))))
    · simp [Ci,Ca,Bb,Bd,Cw,Fd,Cy,Cf,Bf,Bk,Fe,Ee,Bl,Fg,Aj,El,Be,frz,Ez,Ac,Ba,fC,DL.M.bnd,Aa,Ay,Bc,Az,Fb,Cc,Em,Ff,Cz,Bg,Eo,Bj,Fi,Ck,Ea,Fc,Ed,Cd,up1,Eg,Ek,Bt,Ab,Ap,Aq,Ar,Au,Av,Aw,Ec,Cq,Eb,Kd.fr,Eh,D.isMut,Ep,Ah,Fh,Bi,Ef,Bm,Bn,D.len,D.list,D.tupl,Ak,Al,Am,An,Ai,Ao,Ae,Bo,Bp,Bq,Br,Bs,D.isN,D.isNot,Ei,ix_l,ix_t,ix_s,Ad,Af,LIM,Ej,Out.upE,Ag,Cr,Et,Ce,Es,Co,Ew,Ex,Cu,Cs,fMe,fMk,Ev,fIk,Cl,D.addI,D.subI,Er,fSl,Cj,slD,Cm,gBk,gCt,fLc,Cb,Ey,fCv,Cg,Bh,Ax,Cv,Ch,isO,only,Eu,at_0,at_1,at_2,at_3,Bu,isO,Bv,Bw,Bx,Bz,isP,Cp,D.isB,D.isNotB,s1_law,hc0,hd]
    · simp [Ci,Ca,Bb,Bd,Cw,Fd,Cy,Cf,Bf,Bk,Fe,Ee,Bl,Fg,Aj,El,Be,frz,Ez,Ac,Ba,fC,DL.M.bnd,Aa,Ay,Bc,Az,Fb,Cc,Em,Ff,Cz,Bg,Eo,Bj,Fi,Ck,Ea,Fc,Ed,Cd,up1,Eg,Ek,Bt,Ab,Ap,Aq,Ar,Au,Av,Aw,Ec,Cq,Eb,Kd.fr,Eh,D.isMut,Ep,Ah,Fh,Bi,Ef,Bm,Bn,D.len,D.list,D.tupl,Ak,Al,Am,An,Ai,Ao,Ae,Bo,Bp,Bq,Br,Bs,D.isN,D.isNot,Ei,ix_l,ix_t,ix_s,Ad,Af,LIM,Ej,Out.upE,Ag,Cr,Et,Ce,Es,Co,Ew,Ex,Cu,Cs,fMe,fMk,Ev,fIk,Cl,D.addI,D.subI,Er,fSl,Cj,slD,Cm,gBk,gCt,fLc,Cb,Ey,fCv,Cg,Bh,Ax,Cv,Ch,isO,only,Eu,at_0,at_1,at_2,at_3,Bu,isO,Bv,Bw,Bx,Bz,isP,Cp,D.isB,D.isNotB,s2_law,d0,← hwI]
    · simp [Ci,Ca,Bb,Bd,Cw,Fd,Cy,Cf,Bf,Bk,Fe,Ee,Bl,Fg,Aj,El,Be,frz,Ez,Ac,Ba,fC,DL.M.bnd,Aa,Ay,Bc,Az,Fb,Cc,Em,Ff,Cz,Bg,Eo,Bj,Fi,Ck,Ea,Fc,Ed,Cd,up1,Eg,Ek,Bt,Ab,Ap,Aq,Ar,Au,Av,Aw,Ec,Cq,Eb,Kd.fr,Eh,D.isMut,Ep,Ah,Fh,Bi,Ef,Bm,Bn,D.len,D.list,D.tupl,Ak,Al,Am,An,Ai,Ao,Ae,Bo,Bp,Bq,Br,Bs,D.isN,D.isNot,Ei,ix_l,ix_t,ix_s,Ad,Af,LIM,Ej,Out.upE,Ag,Cr,Et,Ce,Es,Co,Ew,Ex,Cu,Cs,fMe,fMk,Ev,fIk,Cl,D.addI,D.subI,Er,fSl,Cj,slD,Cm,gBk,gCt,fLc,Cb,Ey,fCv,Cg,Bh,Ax,Cv,Ch,isO,only,Eu,at_0,at_1,at_2,at_3,Bu,isO,Bv,Bw,Bx,Bz,isP,Cp,D.isB,D.isNotB,s3_law,d1,at3]
    · simp [Ci,Ca,Bb,Bd,Cw,Fd,Cy,Cf,Bf,Bk,Fe,Ee,Bl,Fg,Aj,El,Be,frz,Ez,Ac,Ba,fC,DL.M.bnd,Aa,Ay,Bc,Az,Fb,Cc,Em,Ff,Cz,Bg,Eo,Bj,Fi,Ck,Ea,Fc,Ed,Cd,up1,Eg,Ek,Bt,Ab,Ap,Aq,Ar,Au,Av,Aw,Ec,Cq,Eb,Kd.fr,Eh,D.isMut,Ep,Ah,Fh,Bi,Ef,Bm,Bn,D.len,D.list,D.tupl,Ak,Al,Am,An,Ai,Ao,Ae,Bo,Bp,Bq,Br,Bs,D.isN,D.isNot,Ei,ix_l,ix_t,ix_s,Ad,Af,LIM,Ej,Out.upE,Ag,Cr,Et,Ce,Es,Co,Ew,Ex,Cu,Cs,fMe,fMk,Ev,fIk,Cl,D.addI,D.subI,Er,fSl,Cj,slD,Cm,gBk,gCt,fLc,Cb,Ey,fCv,Cg,Bh,Ax,Cv,Ch,isO,only,Eu,at_0,at_1,at_2,at_3,Bu,isO,Bv,Bw,Bx,Bz,isP,Cp,D.isB,D.isNotB,s4_law]
    · simp [Ci,Ca,Bb,Bd,Cw,Fd,Cy,Cf,Bf,Bk,Fe,Ee,Bl,Fg,Aj,El,Be,frz,Ez,Ac,Ba,fC,DL.M.bnd,Aa,Ay,Bc,Az,Fb,Cc,Em,Ff,Cz,Bg,Eo,Bj,Fi,Ck,Ea,Fc,Ed,Cd,up1,Eg,Ek,Bt,Ab,Ap,Aq,Ar,Au,Av,Aw,Ec,Cq,Eb,Kd.fr,Eh,D.isMut,Ep,Ah,Fh,Bi,Ef,Bm,Bn,D.len,D.list,D.tupl,Ak,Al,Am,An,Ai,Ao,Ae,Bo,Bp,Bq,Br,Bs,D.isN,D.isNot,Ei,ix_l,ix_t,ix_s,Ad,Af,LIM,Ej,Out.upE,Ag,Cr,Et,Ce,Es,Co,Ew,Ex,Cu,Cs,fMe,fMk,Ev,fIk,Cl,D.addI,D.subI,Er,fSl,Cj,slD,Cm,gBk,gCt,fLc,Cb,Ey,fCv,Cg,Bh,Ax,Cv,Ch,isO,only,Eu,at_0,at_1,at_2,at_3,Bu,isO,Bv,Bw,Bx,Bz,isP,Cp,D.isB,D.isNotB,s5_law,d2,← hm,rm,eR]
    · simp [Ci,Ca,Bb,Bd,Cw,Fd,Cy,Cf,Bf,Bk,Fe,Ee,Bl,Fg,Aj,El,Be,frz,Ez,Ac,Ba,fC,DL.M.bnd,Aa,Ay,Bc,Az,Fb,Cc,Em,Ff,Cz,Bg,Eo,Bj,Fi,Ck,Ea,Fc,Ed,Cd,up1,Eg,Ek,Bt,Ab,Ap,Aq,Ar,Au,Av,Aw,Ec,Cq,Eb,Kd.fr,Eh,D.isMut,Ep,Ah,Fh,Bi,Ef,Bm,Bn,D.len,D.list,D.tupl,Ak,Al,Am,An,Ai,Ao,Ae,Bo,Bp,Bq,Br,Bs,D.isN,D.isNot,Ei,ix_l,ix_t,ix_s,Ad,Af,LIM,Ej,Out.upE,Ag,Cr,Et,Ce,Es,Co,Ew,Ex,Cu,Cs,fMe,fMk,Ev,fIk,Cl,D.addI,D.subI,Er,fSl,Cj,slD,Cm,gBk,gCt,fLc,Cb,Ey,fCv,Cg,Bh,Ax,Cv,Ch,isO,only,Eu,at_0,at_1,at_2,at_3,Bu,isO,Bv,Bw,Bx,Bz,isP,Cp,D.isB,D.isNotB,s6_law,rk]
    · simp [Ci,Ca,Bb,Bd,Cw,Fd,Cy,Cf,Bf,Bk,Fe,Ee,Bl,Fg,Aj,El,Be,frz,Ez,Ac,Ba,fC,DL.M.bnd,Aa,Ay,Bc,Az,Fb,Cc,Em,Ff,Cz,Bg,Eo,Bj,Fi,Ck,Ea,Fc,Ed,Cd,up1,Eg,Ek,Bt,Ab,Ap,Aq,Ar,Au,Av,Aw,Ec,Cq,Eb,Kd.fr,Eh,D.isMut,Ep,Ah,Fh,Bi,Ef,Bm,Bn,D.len,D.list,D.tupl,Ak,Al,Am,An,Ai,Ao,Ae,Bo,Bp,Bq,Br,Bs,D.isN,D.isNot,Ei,ix_l,ix_t,ix_s,Ad,Af,LIM,Ej,Out.upE,Ag,Cr,Et,Ce,Es,Co,Ew,Ex,Cu,Cs,fMe,fMk,Ev,fIk,Cl,D.addI,D.subI,Er,fSl,Cj,slD,Cm,gBk,gCt,fLc,Cb,Ey,fCv,Cg,Bh,Ax,Cv,Ch,isO,only,Eu,at_0,at_1,at_2,at_3,Bu,isO,Bv,Bw,Bx,Bz,isP,Cp,D.isB,D.isNotB,s7_law,ni]
      rw [hn0]
      rfl
    · simp [Ci,Ca,Bb,Bd,Cw,Fd,Cy,Cf,Bf,Bk,Fe,Ee,Bl,Fg,Aj,El,Be,frz,Ez,Ac,Ba,fC,DL.M.bnd,Aa,Ay,Bc,Az,Fb,Cc,Em,Ff,Cz,Bg,Eo,Bj,Fi,Ck,Ea,Fc,Ed,Cd,up1,Eg,Ek,Bt,Ab,Ap,Aq,Ar,Au,Av,Aw,Ec,Cq,Eb,Kd.fr,Eh,D.isMut,Ep,Ah,Fh,Bi,Ef,Bm,Bn,D.len,D.list,D.tupl,Ak,Al,Am,An,Ai,Ao,Ae,Bo,Bp,Bq,Br,Bs,D.isN,D.isNot,Ei,ix_l,ix_t,ix_s,Ad,Af,LIM,Ej,Out.upE,Ag,Cr,Et,Ce,Es,Co,Ew,Ex,Cu,Cs,fMe,fMk,Ev,fIk,Cl,D.addI,D.subI,Er,fSl,Cj,slD,Cm,gBk,gCt,fLc,Cb,Ey,fCv,Cg,Bh,Ax,Cv,Ch,isO,only,Eu,at_0,at_1,at_2,at_3,Bu,isO,Bv,Bw,Bx,Bz,isP,Cp,D.isB,D.isNotB,s8_law,r48,eN]
    · simp [Ci,Ca,Bb,Bd,Cw,Fd,Cy,Cf,Bf,Bk,Fe,Ee,Bl,Fg,Aj,El,Be,frz,Ez,Ac,Ba,fC,DL.M.bnd,Aa,Ay,Bc,Az,Fb,Cc,Em,Ff,Cz,Bg,Eo,Bj,Fi,Ck,Ea,Fc,Ed,Cd,up1,Eg,Ek,Bt,Ab,Ap,Aq,Ar,Au,Av,Aw,Ec,Cq,Eb,Kd.fr,Eh,D.isMut,Ep,Ah,Fh,Bi,Ef,Bm,Bn,D.len,D.list,D.tupl,Ak,Al,Am,An,Ai,Ao,Ae,Bo,Bp,Bq,Br,Bs,D.isN,D.isNot,Ei,ix_l,ix_t,ix_s,Ad,Af,LIM,Ej,Out.upE,Ag,Cr,Et,Ce,Es,Co,Ew,Ex,Cu,Cs,fMe,fMk,Ev,fIk,Cl,D.addI,D.subI,Er,fSl,Cj,slD,Cm,gBk,gCt,fLc,Cb,Ey,fCv,Cg,Bh,Ax,Cv,Ch,isO,only,Eu,at_0,at_1,at_2,at_3,Bu,isO,Bv,Bw,Bx,Bz,isP,Cp,D.isB,D.isNotB,s9_law,fMe,isn,li]
    · simp only [s10_law, if_or, if_not]
      simp [Ci,Ca,Bb,Bd,Cw,Fd,Cy,Cf,Bf,Bk,Fe,Ee,Bl,Fg,Aj,El,Be,frz,Ez,Ac,Ba,fC,DL.M.bnd,Aa,Ay,Bc,Az,Fb,Cc,Em,Ff,Cz,Bg,Eo,Bj,Fi,Ck,Ea,Fc,Ed,Cd,up1,Eg,Ek,Bt,Ab,Ap,Aq,Ar,Au,Av,Aw,Ec,Cq,Eb,Kd.fr,Eh,D.isMut,Ep,Ah,Fh,Bi,Ef,Bm,Bn,D.len,D.list,D.tupl,Ak,Al,Am,An,Ai,Ao,Ae,Bo,Bp,Bq,Br,Bs,D.isN,D.isNot,Ei,ix_l,ix_t,ix_s,Ad,Af,LIM,Ej,Out.upE,Ag,Cr,Et,Ce,Es,Co,Ew,Ex,Cu,Cs,fMe,fMk,Ev,fIk,Cl,D.addI,D.subI,Er,fSl,Cj,slD,Cm,gBk,gCt,fLc,Cb,Ey,fCv,Cg,Bh,Ax,Cv,Ch,isO,only,Eu,at_0,at_1,at_2,at_3,Bu,isO,Bv,Bw,Bx,Bz,isP,Cp,D.isB,D.isNotB,fIsi,ilT,ll,neL,c4,limL_ok nB,nf]
    · simp [Ci,Ca,Bb,Bd,Cw,Fd,Cy,Cf,Bf,Bk,Fe,Ee,Bl,Fg,Aj,El,Be,frz,Ez,Ac,Ba,fC,DL.M.bnd,Aa,Ay,Bc,Az,Fb,Cc,Em,Ff,Cz,Bg,Eo,Bj,Fi,Ck,Ea,Fc,Ed,Cd,up1,Eg,Ek,Bt,Ab,Ap,Aq,Ar,Au,Av,Aw,Ec,Cq,Eb,Kd.fr,Eh,D.isMut,Ep,Ah,Fh,Bi,Ef,Bm,Bn,D.len,D.list,D.tupl,Ak,Al,Am,An,Ai,Ao,Ae,Bo,Bp,Bq,Br,Bs,D.isN,D.isNot,Ei,ix_l,ix_t,ix_s,Ad,Af,LIM,Ej,Out.upE,Ag,Cr,Et,Ce,Es,Co,Ew,Ex,Cu,Cs,fMe,fMk,Ev,fIk,Cl,D.addI,D.subI,Er,fSl,Cj,slD,Cm,gBk,gCt,fLc,Cb,Ey,fCv,Cg,Bh,Ax,Cv,Ch,isO,only,Eu,at_0,at_1,at_2,at_3,Bu,isO,Bv,Bw,Bx,Bz,isP,Cp,D.isB,D.isNotB,s11_law,nTL]
  rw [e]
  have e2 : r12_law [.bo (.scr ns), .sh (.lst DS), .sh (.int (w : Nat)), .sh (.int b), .ow (.lst RK), q5, q6, .ow (nt), q8, .ow (.lst (TL ++ [.str ""])), .un, .un, .un, .un, .un, .un, .un] = r20_law [.bo (.scr ns), .sh (.lst DS), .sh (.int (w : Nat)), .sh (.int b), .ow (.lst RK), q5, q6, .ow (nt), q8, .ow (.lst (TL ++ [.str ""])), .ow (nt5), .ow (.lst RK5), .un, .un, .un, .un, .un] := by
    have c2 := c2 .un .un .un (.ow nt5) (.ow (.lst (TL ++ [.str ""]))) nt
    refine ((gSeq_nx (ρ' := [.bo (.scr ns), .sh (.lst DS), .sh (.int (w : Nat)), .sh (.int b), .ow (.lst RK), q5, q6, .ow (nt), q8, .ow (.lst (TL ++ [.str ""])), .un, .un, .un, .un, .un, .un, .un]) ?_).trans ((gSeq_nx (ρ' := [.bo (.scr ns), .sh (.lst DS), .sh (.int (w : Nat)), .sh (.int b), .ow (.lst RK), q5, q6, .ow (nt), q8, .ow (.lst (TL ++ [.str ""])), .ow (nt), .un, .un, .un, .un, .un, .un]) ?_).trans ((gSeq_nx (ρ' := [.bo (.scr ns), .sh (.lst DS), .sh (.int (w : Nat)), .sh (.int b), .ow (.lst RK), q5, q6, .ow (nt), q8, .ow (.lst (TL ++ [.str ""])), .ow (nt), .un, .un, .un, .un, .un, .un]) ?_).trans ((gSeq_nx (ρ' := [.bo (.scr ns), .sh (.lst DS), .sh (.int (w : Nat)), .sh (.int b), .ow (.lst RK), q5, q6, .ow (nt), q8, .ow (.lst (TL ++ [.str ""])), .ow (nt), .un, .un, .un, .un, .un, .un]) ?_).trans ((gSeq_nx (ρ' := [.bo (.scr ns), .sh (.lst DS), .sh (.int (w : Nat)), .sh (.int b), .ow (.lst RK), q5, q6, .ow (nt), q8, .ow (.lst (TL ++ [.str ""])), .ow (nt5), .un, .un, .un, .un, .un, .un]) ?_).trans ((gSeq_nx (ρ' := [.bo (.scr ns), .sh (.lst DS), .sh (.int (w : Nat)), .sh (.int b), .ow (.lst RK), q5, q6, .ow (nt), q8, .ow (.lst (TL ++ [.str ""])), .ow (nt5), .ow (.lst RK5), .un, .un, .un, .un, .un]) ?_).trans ((gSeq_nx (ρ' := [.bo (.scr ns), .sh (.lst DS), .sh (.int (w : Nat)), .sh (.int b), .ow (.lst RK), q5, q6, .ow (nt), q8, .ow (.lst (TL ++ [.str ""])), .ow (nt5), .ow (.lst RK5), .un, .un, .un, .un, .un]) ?_).trans (gSeq_nx ?_))))))))
    · simp only [s12_law, if_or, if_not]
      simp [Ci,Ca,Bb,Bd,Cw,Fd,Cy,Cf,Bf,Bk,Fe,Ee,Bl,Fg,Aj,El,Be,frz,Ez,Ac,Ba,fC,DL.M.bnd,Aa,Ay,Bc,Az,Fb,Cc,Em,Ff,Cz,Bg,Eo,Bj,Fi,Ck,Ea,Fc,Ed,Cd,up1,Eg,Ek,Bt,Ab,Ap,Aq,Ar,Au,Av,Aw,Ec,Cq,Eb,Kd.fr,Eh,D.isMut,Ep,Ah,Fh,Bi,Ef,Bm,Bn,D.len,D.list,D.tupl,Ak,Al,Am,An,Ai,Ao,Ae,Bo,Bp,Bq,Br,Bs,D.isN,D.isNot,Ei,ix_l,ix_t,ix_s,Ad,Af,LIM,Ej,Out.upE,Ag,Cr,Et,Ce,Es,Co,Ew,Ex,Cu,Cs,fMe,fMk,Ev,fIk,Cl,D.addI,D.subI,Er,fSl,Cj,slD,Cm,gBk,gCt,fLc,Cb,Ey,fCv,Cg,Bh,Ax,Cv,Ch,isO,only,Eu,at_0,at_1,at_2,at_3,Bu,isO,Bv,Bw,Bx,Bz,isP,Cp,D.isB,D.isNotB,fMe,isn,li,ll,neL,pr]
    · simp [Ci,Ca,Bb,Bd,Cw,Fd,Cy,Cf,Bf,Bk,Fe,Ee,Bl,Fg,Aj,El,Be,frz,Ez,Ac,Ba,fC,DL.M.bnd,Aa,Ay,Bc,Az,Fb,Cc,Em,Ff,Cz,Bg,Eo,Bj,Fi,Ck,Ea,Fc,Ed,Cd,up1,Eg,Ek,Bt,Ab,Ap,Aq,Ar,Au,Av,Aw,Ec,Cq,Eb,Kd.fr,Eh,D.isMut,Ep,Ah,Fh,Bi,Ef,Bm,Bn,D.len,D.list,D.tupl,Ak,Al,Am,An,Ai,Ao,Ae,Bo,Bp,Bq,Br,Bs,D.isN,D.isNot,Ei,ix_l,ix_t,ix_s,Ad,Af,LIM,Ej,Out.upE,Ag,Cr,Et,Ce,Es,Co,Ew,Ex,Cu,Cs,fMe,fMk,Ev,fIk,Cl,D.addI,D.subI,Er,fSl,Cj,slD,Cm,gBk,gCt,fLc,Cb,Ey,fCv,Cg,Bh,Ax,Cv,Ch,isO,only,Eu,at_0,at_1,at_2,at_3,Bu,isO,Bv,Bw,Bx,Bz,isP,Cp,D.isB,D.isNotB,s13_law,fMe,isn,cp]
      rw [hnt]
      rfl
    · simp only [s14_law, if_or, if_not]
      simp [Ci,Ca,Bb,Bd,Cw,Fd,Cy,Cf,Bf,Bk,Fe,Ee,Bl,Fg,Aj,El,Be,frz,Ez,Ac,Ba,fC,DL.M.bnd,Aa,Ay,Bc,Az,Fb,Cc,Em,Ff,Cz,Bg,Eo,Bj,Fi,Ck,Ea,Fc,Ed,Cd,up1,Eg,Ek,Bt,Ab,Ap,Aq,Ar,Au,Av,Aw,Ec,Cq,Eb,Kd.fr,Eh,D.isMut,Ep,Ah,Fh,Bi,Ef,Bm,Bn,D.len,D.list,D.tupl,Ak,Al,Am,An,Ai,Ao,Ae,Bo,Bp,Bq,Br,Bs,D.isN,D.isNot,Ei,ix_l,ix_t,ix_s,Ad,Af,LIM,Ej,Out.upE,Ag,Cr,Et,Ce,Es,Co,Ew,Ex,Cu,Cs,fMe,fMk,Ev,fIk,Cl,D.addI,D.subI,Er,fSl,Cj,slD,Cm,gBk,gCt,fLc,Cb,Ey,fCv,Cg,Bh,Ax,Cv,Ch,isO,only,Eu,at_0,at_1,at_2,at_3,Bu,isO,Bv,Bw,Bx,Bz,isP,Cp,D.isB,D.isNotB,fIsi,i3,fw,cw,fItOL,it1,e5_law,i1,limL_ok z1,en1,nk1]
    · simp only [s15_law, if_or, if_not]
      simp [Ci,Ca,Bb,Bd,Cw,Fd,Cy,Cf,Bf,Bk,Fe,Ee,Bl,Fg,Aj,El,Be,frz,Ez,Ac,Ba,fC,DL.M.bnd,Aa,Ay,Bc,Az,Fb,Cc,Em,Ff,Cz,Bg,Eo,Bj,Fi,Ck,Ea,Fc,Ed,Cd,up1,Eg,Ek,Bt,Ab,Ap,Aq,Ar,Au,Av,Aw,Ec,Cq,Eb,Kd.fr,Eh,D.isMut,Ep,Ah,Fh,Bi,Ef,Bm,Bn,D.len,D.list,D.tupl,Ak,Al,Am,An,Ai,Ao,Ae,Bo,Bp,Bq,Br,Bs,D.isN,D.isNot,Ei,ix_l,ix_t,ix_s,Ad,Af,LIM,Ej,Out.upE,Ag,Cr,Et,Ce,Es,Co,Ew,Ex,Cu,Cs,fMe,fMk,Ev,fIk,Cl,D.addI,D.subI,Er,fSl,Cj,slD,Cm,gBk,gCt,fLc,Cb,Ey,fCv,Cg,Bh,Ax,Cv,Ch,isO,only,Eu,at_0,at_1,at_2,at_3,Bu,isO,Bv,Bw,Bx,Bz,isP,Cp,D.isB,D.isNotB,ak0]
    · simp [Ci,Ca,Bb,Bd,Cw,Fd,Cy,Cf,Bf,Bk,Fe,Ee,Bl,Fg,Aj,El,Be,frz,Ez,Ac,Ba,fC,DL.M.bnd,Aa,Ay,Bc,Az,Fb,Cc,Em,Ff,Cz,Bg,Eo,Bj,Fi,Ck,Ea,Fc,Ed,Cd,up1,Eg,Ek,Bt,Ab,Ap,Aq,Ar,Au,Av,Aw,Ec,Cq,Eb,Kd.fr,Eh,D.isMut,Ep,Ah,Fh,Bi,Ef,Bm,Bn,D.len,D.list,D.tupl,Ak,Al,Am,An,Ai,Ao,Ae,Bo,Bp,Bq,Br,Bs,D.isN,D.isNot,Ei,ix_l,ix_t,ix_s,Ad,Af,LIM,Ej,Out.upE,Ag,Cr,Et,Ce,Es,Co,Ew,Ex,Cu,Cs,fMe,fMk,Ev,fIk,Cl,D.addI,D.subI,Er,fSl,Cj,slD,Cm,gBk,gCt,fLc,Cb,Ey,fCv,Cg,Bh,Ax,Cv,Ch,isO,only,Eu,at_0,at_1,at_2,at_3,Bu,isO,Bv,Bw,Bx,Bz,isP,Cp,D.isB,D.isNotB,s16_law,gSetO,fMuV,isn,s5,outX,setO]
    · simp [Ci,Ca,Bb,Bd,Cw,Fd,Cy,Cf,Bf,Bk,Fe,Ee,Bl,Fg,Aj,El,Be,frz,Ez,Ac,Ba,fC,DL.M.bnd,Aa,Ay,Bc,Az,Fb,Cc,Em,Ff,Cz,Bg,Eo,Bj,Fi,Ck,Ea,Fc,Ed,Cd,up1,Eg,Ek,Bt,Ab,Ap,Aq,Ar,Au,Av,Aw,Ec,Cq,Eb,Kd.fr,Eh,D.isMut,Ep,Ah,Fh,Bi,Ef,Bm,Bn,D.len,D.list,D.tupl,Ak,Al,Am,An,Ai,Ao,Ae,Bo,Bp,Bq,Br,Bs,D.isN,D.isNot,Ei,ix_l,ix_t,ix_s,Ad,Af,LIM,Ej,Out.upE,Ag,Cr,Et,Ce,Es,Co,Ew,Ex,Cu,Cs,fMe,fMk,Ev,fIk,Cl,D.addI,D.subI,Er,fSl,Cj,slD,Cm,gBk,gCt,fLc,Cb,Ey,fCv,Cg,Bh,Ax,Cv,Ch,isO,only,Eu,at_0,at_1,at_2,at_3,Bu,isO,Bv,Bw,Bx,Bz,isP,Cp,D.isB,D.isNotB,s17_law,c2,limL_ok nR5]
    · simp only [s18_law, if_or, if_not]
      simp [Ci,Ca,Bb,Bd,Cw,Fd,Cy,Cf,Bf,Bk,Fe,Ee,Bl,Fg,Aj,El,Be,frz,Ez,Ac,Ba,fC,DL.M.bnd,Aa,Ay,Bc,Az,Fb,Cc,Em,Ff,Cz,Bg,Eo,Bj,Fi,Ck,Ea,Fc,Ed,Cd,up1,Eg,Ek,Bt,Ab,Ap,Aq,Ar,Au,Av,Aw,Ec,Cq,Eb,Kd.fr,Eh,D.isMut,Ep,Ah,Fh,Bi,Ef,Bm,Bn,D.len,D.list,D.tupl,Ak,Al,Am,An,Ai,Ao,Ae,Bo,Bp,Bq,Br,Bs,D.isN,D.isNot,Ei,ix_l,ix_t,ix_s,Ad,Af,LIM,Ej,Out.upE,Ag,Cr,Et,Ce,Es,Co,Ew,Ex,Cu,Cs,fMe,fMk,Ev,fIk,Cl,D.addI,D.subI,Er,fSl,Cj,slD,Cm,gBk,gCt,fLc,Cb,Ey,fCv,Cg,Bh,Ax,Cv,Ch,isO,only,Eu,at_0,at_1,at_2,at_3,Bu,isO,Bv,Bw,Bx,Bz,isP,Cp,D.isB,D.isNotB,fItOL,it1,e7_law,i1,limL_ok z1,en1,nk1,it5,e8_law,i5,limL_ok z5,en5,nk5]
    · simp only [s19_law, if_or, if_not]
      simp [Ci,Ca,Bb,Bd,Cw,Fd,Cy,Cf,Bf,Bk,Fe,Ee,Bl,Fg,Aj,El,Be,frz,Ez,Ac,Ba,fC,DL.M.bnd,Aa,Ay,Bc,Az,Fb,Cc,Em,Ff,Cz,Bg,Eo,Bj,Fi,Ck,Ea,Fc,Ed,Cd,up1,Eg,Ek,Bt,Ab,Ap,Aq,Ar,Au,Av,Aw,Ec,Cq,Eb,Kd.fr,Eh,D.isMut,Ep,Ah,Fh,Bi,Ef,Bm,Bn,D.len,D.list,D.tupl,Ak,Al,Am,An,Ai,Ao,Ae,Bo,Bp,Bq,Br,Bs,D.isN,D.isNot,Ei,ix_l,ix_t,ix_s,Ad,Af,LIM,Ej,Out.upE,Ag,Cr,Et,Ce,Es,Co,Ew,Ex,Cu,Cs,fMe,fMk,Ev,fIk,Cl,D.addI,D.subI,Er,fSl,Cj,slD,Cm,gBk,gCt,fLc,Cb,Ey,fCv,Cg,Bh,Ax,Cv,Ch,isO,only,Eu,at_0,at_1,at_2,at_3,Bu,isO,Bv,Bw,Bx,Bz,isP,Cp,D.isB,D.isNotB,ak5,ak0]
  rw [e2]
  have e3 : r20_law [.bo (.scr ns), .sh (.lst DS), .sh (.int (w : Nat)), .sh (.int b), .ow (.lst RK), q5, q6, .ow (nt), q8, .ow (.lst (TL ++ [.str ""])), .ow (nt5), .ow (.lst RK5), .un, .un, .un, .un, .un] = r25_law [.bo (.scr ns), .sh (.lst DS), .sh (.int (w : Nat)), .sh (.int b), .ow (.lst RK), q5, q6, .ow (ntD2), q8, .ow (.lst (TL ++ [.str ""])), .ow (nt5), .ow (.lst RK5), .sh (.lst [ka, kb]), .sh (.lst DK), .un, .un, .un] := by
    have c3 := c3 .un (.sh (.lst [ka, kb])) (.ow (.lst RK5)) (.ow nt5) (.ow (.lst (TL ++ [.str ""]))) ntD2
    refine ((gSeq_nx (ρ' := [.bo (.scr ns), .sh (.lst DS), .sh (.int (w : Nat)), .sh (.int b), .ow (.lst RK), q5, q6, .ow (ntD2), q8, .ow (.lst (TL ++ [.str ""])), .ow (nt5), .ow (.lst RK5), .un, .un, .un, .un, .un]) ?_).trans ((gSeq_nx (ρ' := [.bo (.scr ns), .sh (.lst DS), .sh (.int (w : Nat)), .sh (.int b), .ow (.lst RK), q5, q6, .ow (ntD2), q8, .ow (.lst (TL ++ [.str ""])), .ow (nt5), .ow (.lst RK5), .sh (.lst [ka, kb]), .un, .un, .un, .un]) ?_).trans ((gSeq_nx (ρ' := [.bo (.scr ns), .sh (.lst DS), .sh (.int (w : Nat)), .sh (.int b), .ow (.lst RK), q5, q6, .ow (ntD2), q8, .ow (.lst (TL ++ [.str ""])), .ow (nt5), .ow (.lst RK5), .sh (.lst [ka, kb]), .sh (.lst DK), .un, .un, .un]) ?_).trans ((gSeq_nx (ρ' := [.bo (.scr ns), .sh (.lst DS), .sh (.int (w : Nat)), .sh (.int b), .ow (.lst RK), q5, q6, .ow (ntD2), q8, .ow (.lst (TL ++ [.str ""])), .ow (nt5), .ow (.lst RK5), .sh (.lst [ka, kb]), .sh (.lst DK), .un, .un, .un]) ?_).trans (gSeq_nx ?_)))))
    · simp [Ci,Ca,Bb,Bd,Cw,Fd,Cy,Cf,Bf,Bk,Fe,Ee,Bl,Fg,Aj,El,Be,frz,Ez,Ac,Ba,fC,DL.M.bnd,Aa,Ay,Bc,Az,Fb,Cc,Em,Ff,Cz,Bg,Eo,Bj,Fi,Ck,Ea,Fc,Ed,Cd,up1,Eg,Ek,Bt,Ab,Ap,Aq,Ar,Au,Av,Aw,Ec,Cq,Eb,Kd.fr,Eh,D.isMut,Ep,Ah,Fh,Bi,Ef,Bm,Bn,D.len,D.list,D.tupl,Ak,Al,Am,An,Ai,Ao,Ae,Bo,Bp,Bq,Br,Bs,D.isN,D.isNot,Ei,ix_l,ix_t,ix_s,Ad,Af,LIM,Ej,Out.upE,Ag,Cr,Et,Ce,Es,Co,Ew,Ex,Cu,Cs,fMe,fMk,Ev,fIk,Cl,D.addI,D.subI,Er,fSl,Cj,slD,Cm,gBk,gCt,fLc,Cb,Ey,fCv,Cg,Bh,Ax,Cv,Ch,isO,only,Eu,at_0,at_1,at_2,at_3,Bu,isO,Bv,Bw,Bx,Bz,isP,Cp,D.isB,D.isNotB,s20_law,gSetO,u2,u1,k2,k1,fMuV,isn,s10,outX,setO]
    · simp [Ci,Ca,Bb,Bd,Cw,Fd,Cy,Cf,Bf,Bk,Fe,Ee,Bl,Fg,Aj,El,Be,frz,Ez,Ac,Ba,fC,DL.M.bnd,Aa,Ay,Bc,Az,Fb,Cc,Em,Ff,Cz,Bg,Eo,Bj,Fi,Ck,Ea,Fc,Ed,Cd,up1,Eg,Ek,Bt,Ab,Ap,Aq,Ar,Au,Av,Aw,Ec,Cq,Eb,Kd.fr,Eh,D.isMut,Ep,Ah,Fh,Bi,Ef,Bm,Bn,D.len,D.list,D.tupl,Ak,Al,Am,An,Ai,Ao,Ae,Bo,Bp,Bq,Br,Bs,D.isN,D.isNot,Ei,ix_l,ix_t,ix_s,Ad,Af,LIM,Ej,Out.upE,Ag,Cr,Et,Ce,Es,Co,Ew,Ex,Cu,Cs,fMe,fMk,Ev,fIk,Cl,D.addI,D.subI,Er,fSl,Cj,slD,Cm,gBk,gCt,fLc,Cb,Ey,fCv,Cg,Bh,Ax,Cv,Ch,isO,only,Eu,at_0,at_1,at_2,at_3,Bu,isO,Bv,Bw,Bx,Bz,isP,Cp,D.isB,D.isNotB,s21_law,m1,m2,ek1,ek2]
    · simp [Ci,Ca,Bb,Bd,Cw,Fd,Cy,Cf,Bf,Bk,Fe,Ee,Bl,Fg,Aj,El,Be,frz,Ez,Ac,Ba,fC,DL.M.bnd,Aa,Ay,Bc,Az,Fb,Cc,Em,Ff,Cz,Bg,Eo,Bj,Fi,Ck,Ea,Fc,Ed,Cd,up1,Eg,Ek,Bt,Ab,Ap,Aq,Ar,Au,Av,Aw,Ec,Cq,Eb,Kd.fr,Eh,D.isMut,Ep,Ah,Fh,Bi,Ef,Bm,Bn,D.len,D.list,D.tupl,Ak,Al,Am,An,Ai,Ao,Ae,Bo,Bp,Bq,Br,Bs,D.isN,D.isNot,Ei,ix_l,ix_t,ix_s,Ad,Af,LIM,Ej,Out.upE,Ag,Cr,Et,Ce,Es,Co,Ew,Ex,Cu,Cs,fMe,fMk,Ev,fIk,Cl,D.addI,D.subI,Er,fSl,Cj,slD,Cm,gBk,gCt,fLc,Cb,Ey,fCv,Cg,Bh,Ax,Cv,Ch,isO,only,Eu,at_0,at_1,at_2,at_3,Bu,isO,Bv,Bw,Bx,Bz,isP,Cp,D.isB,D.isNotB,s22_law,c3,limL_ok nFK,ad1,rk2]
    · simp only [s23_law, if_or, if_not]
      simp [Ci,Ca,Bb,Bd,Cw,Fd,Cy,Cf,Bf,Bk,Fe,Ee,Bl,Fg,Aj,El,Be,frz,Ez,Ac,Ba,fC,DL.M.bnd,Aa,Ay,Bc,Az,Fb,Cc,Em,Ff,Cz,Bg,Eo,Bj,Fi,Ck,Ea,Fc,Ed,Cd,up1,Eg,Ek,Bt,Ab,Ap,Aq,Ar,Au,Av,Aw,Ec,Cq,Eb,Kd.fr,Eh,D.isMut,Ep,Ah,Fh,Bi,Ef,Bm,Bn,D.len,D.list,D.tupl,Ak,Al,Am,An,Ai,Ao,Ae,Bo,Bp,Bq,Br,Bs,D.isN,D.isNot,Ei,ix_l,ix_t,ix_s,Ad,Af,LIM,Ej,Out.upE,Ag,Cr,Et,Ce,Es,Co,Ew,Ex,Cu,Cs,fMe,fMk,Ev,fIk,Cl,D.addI,D.subI,Er,fSl,Cj,slD,Cm,gBk,gCt,fLc,Cb,Ey,fCv,Cg,Bh,Ax,Cv,Ch,isO,only,Eu,at_0,at_1,at_2,at_3,Bu,isO,Bv,Bw,Bx,Bz,isP,Cp,D.isB,D.isNotB,fItOL,itD,e10_law,iD,limL_ok zD,enD,nkD,fMe,isnD,liD,llD,neLD]
    · simp only [s24_law, if_or, if_not]
      simp [Ci,Ca,Bb,Bd,Cw,Fd,Cy,Cf,Bf,Bk,Fe,Ee,Bl,Fg,Aj,El,Be,frz,Ez,Ac,Ba,fC,DL.M.bnd,Aa,Ay,Bc,Az,Fb,Cc,Em,Ff,Cz,Bg,Eo,Bj,Fi,Ck,Ea,Fc,Ed,Cd,up1,Eg,Ek,Bt,Ab,Ap,Aq,Ar,Au,Av,Aw,Ec,Cq,Eb,Kd.fr,Eh,D.isMut,Ep,Ah,Fh,Bi,Ef,Bm,Bn,D.len,D.list,D.tupl,Ak,Al,Am,An,Ai,Ao,Ae,Bo,Bp,Bq,Br,Bs,D.isN,D.isNot,Ei,ix_l,ix_t,ix_s,Ad,Af,LIM,Ej,Out.upE,Ag,Cr,Et,Ce,Es,Co,Ew,Ex,Cu,Cs,fMe,fMk,Ev,fIk,Cl,D.addI,D.subI,Er,fSl,Cj,slD,Cm,gBk,gCt,fLc,Cb,Ey,fCv,Cg,Bh,Ax,Cv,Ch,isO,only,Eu,at_0,at_1,at_2,at_3,Bu,isO,Bv,Bw,Bx,Bz,isP,Cp,D.isB,D.isNotB,fItOL,it5,e11_law,i5,limL_ok z5,en5,nk5,fMe,isn5,li5,ll5,neL5]
  rw [e3]
  simp [Ci,Ca,Bb,Bd,Cw,Fd,Cy,Cf,Bf,Bk,Fe,Ee,Bl,Fg,Aj,El,Be,frz,Ez,Ac,Ba,fC,DL.M.bnd,Aa,Ay,Bc,Az,Fb,Cc,Em,Ff,Cz,Bg,Eo,Bj,Fi,Ck,Ea,Fc,Ed,Cd,up1,Eg,Ek,Bt,Ab,Ap,Aq,Ar,Au,Av,Aw,Ec,Cq,Eb,Kd.fr,Eh,D.isMut,Ep,Ah,Fh,Bi,Ef,Bm,Bn,D.len,D.list,D.tupl,Ak,Al,Am,An,Ai,Ao,Ae,Bo,Bp,Bq,Br,Bs,D.isN,D.isNot,Ei,ix_l,ix_t,ix_s,Ad,Af,LIM,Ej,Out.upE,Ag,Cr,Et,Ce,Es,Co,Ew,Ex,Cu,Cs,fMe,fMk,Ev,fIk,Cl,D.addI,D.subI,Er,fSl,Cj,slD,Cm,gBk,gCt,fLc,Cb,Ey,fCv,Cg,Bh,Ax,Cv,Ch,isO,only,Eu,at_0,at_1,at_2,at_3,Bu,isO,Bv,Bw,Bx,Bz,isP,Cp,D.isB,D.isNotB,r25_law,s25_law,akD,ad2,ak5b,akD0,pr5]
end DL
namespace DL
open PySem PySem.Spec L2
theorem facts {P : Program} {w : World} {K : PySem.W.Frag} {h : Heap} {mg : Str → Option Value} {f : Addr} (X : K.In h) (GG : h.Ns mainGlobals mg) (hfa : mg ("law" : Str) = some (.ref f)) (c : SaysH fa ex fn K) :
    ∃ fd : FuncData, (∀ (s : Shared) (v : Value), BindsTo s fd ⟨[v], []⟩ [("_law_script", v)]) ∧ ∀ base : Heap, K.In base → base.Ns mainGlobals mg → FnOk P w K mg base (L2N.CX P w) 7 f fd ["_law_script"] (spLw K) := by
  obtain ⟨fd__law_draws, F__law_draws⟩ := c.def_ 0 (q := d__law_draws) rfl
  obtain ⟨fd__law_cell, F__law_cell⟩ := c.def_ 1 (q := d__law_cell) rfl
  obtain ⟨fd__law_ranked, F__law_ranked⟩ := c.def_ 2 (q := d__law_ranked) rfl
  obtain ⟨fd_Notes___init__, F_Notes___init__⟩ := c.def_ 3 (q := d_Notes___init__) rfl
  obtain ⟨fd_Crowd___len__, F_Crowd___len__⟩ := c.def_ 4 (q := d_Crowd___len__) rfl
  obtain ⟨fd_ordered, F_ordered⟩ := c.def_ 5 (q := d_ordered) rfl
  obtain ⟨fd_Crowd___init__, F_Crowd___init__⟩ := c.def_ 6 (q := d_Crowd___init__) rfl
  obtain ⟨fd_Notes___setitem__, F_Notes___setitem__⟩ := c.def_ 7 (q := d_Notes___setitem__) rfl
  obtain ⟨fd_Crowd___str__, F_Crowd___str__⟩ := c.def_ 8 (q := d_Crowd___str__) rfl
  obtain ⟨fd_Notes_lines, F_Notes_lines⟩ := c.def_ 9 (q := d_Notes_lines) rfl
  obtain ⟨fd__law_lines, F__law_lines⟩ := c.def_ 10 (q := d__law_lines) rfl
  obtain ⟨fd_Notes___iter__, F_Notes___iter__⟩ := c.def_ 11 (q := d_Notes___iter__) rfl
  obtain ⟨fd__law_is_integer, F__law_is_integer⟩ := c.def_ 12 (q := d__law_is_integer) rfl
  obtain ⟨fd__law_entry, F__law_entry⟩ := c.def_ 13 (q := d__law_entry) rfl
  obtain ⟨fd__law_pairs, F__law_pairs⟩ := c.def_ 14 (q := d__law_pairs) rfl
  obtain ⟨fd_Notes_copy, F_Notes_copy⟩ := c.def_ 15 (q := d_Notes_copy) rfl
  obtain ⟨fd__law_entries, F__law_entries⟩ := c.def_ 16 (q := d__law_entries) rfl
  obtain ⟨fd_Notes___contains__, F_Notes___contains__⟩ := c.def_ 17 (q := d_Notes___contains__) rfl
  obtain ⟨fd_Notes___getitem__, F_Notes___getitem__⟩ := c.def_ 18 (q := d_Notes___getitem__) rfl
  obtain ⟨fd_Crowd___le__, F_Crowd___le__⟩ := c.def_ 19 (q := d_Crowd___le__) rfl
  obtain ⟨fd_Crowd_lots, F_Crowd_lots⟩ := c.def_ 20 (q := d_Crowd_lots) rfl
  obtain ⟨fd_Notes_admits, F_Notes_admits⟩ := c.def_ 21 (q := d_Notes_admits) rfl
  obtain ⟨fd_Notes_lets, F_Notes_lets⟩ := c.def_ 22 (q := d_Notes_lets) rfl
  obtain ⟨fd_Ban___init__, F_Ban___init__⟩ := c.def_ 23 (q := d_Ban___init__) rfl
  obtain ⟨fd_Notes___len__, F_Notes___len__⟩ := c.def_ 24 (q := d_Notes___len__) rfl
  obtain ⟨fd__law_asked, F__law_asked⟩ := c.def_ 25 (q := d__law_asked) rfl
  obtain ⟨fd_law, F_law⟩ := c.def_ 26 (q := d_law) rfl
  have ef := hfa.symm.trans (He.glo_ok X GG (c.fact 31 (q := .glo "law") rfl))
  cases ef
  have b__law_draws : Binds K fd__law_draws (["_law_cell_here", "_law_many"] : List Str) [] := FunD.bindsN F__law_draws fun _ _ _ _ _ _ us hl => match us, hl with | [_, _], _ => rfl
  have b__law_cell : Binds K fd__law_cell (["_law_script", "_law_k"] : List Str) [] := FunD.bindsN F__law_cell fun _ _ _ _ _ _ us hl => match us, hl with | [_, _], _ => rfl
  have b__law_ranked : Binds K fd__law_ranked (["_law_rows"] : List Str) [] := FunD.bindsN F__law_ranked fun _ _ _ _ _ _ us hl => match us, hl with | [_], _ => rfl
  have b_Notes___init__ : Binds K fd_Notes___init__ (["self", "width"] : List Str) [] := FunD.bindsN F_Notes___init__ fun _ _ _ _ _ _ us hl => match us, hl with | [_, _], _ => rfl
  have b_Crowd___len__ : Binds K fd_Crowd___len__ (["self"] : List Str) [] := FunD.bindsN F_Crowd___len__ fun _ _ _ _ _ _ us hl => match us, hl with | [_], _ => rfl
  have b_ordered : Binds K fd_ordered (["rows"] : List Str) [] := FunD.bindsN F_ordered fun _ _ _ _ _ _ us hl => match us, hl with | [_], _ => rfl
  have b_Crowd___init__ : Binds K fd_Crowd___init__ (["self", "locations"] : List Str) [] := bindsAll F_Crowd___init__ (by intro z; cases z) (fun _ _ _ _ _ _ _ us its hu hi => match us, its, hu, hi with | [_, _], [_], _, _ => ⟨_, rfl, rfl⟩)
  have b_Notes___setitem__ : Binds K fd_Notes___setitem__ (["self", "state", "crowds"] : List Str) [] := FunD.bindsN F_Notes___setitem__ fun _ _ _ _ _ _ us hl => match us, hl with | [_, _, _], _ => rfl
  have b_Crowd___str__ : Binds K fd_Crowd___str__ (["self"] : List Str) [] := FunD.bindsN F_Crowd___str__ fun _ _ _ _ _ _ us hl => match us, hl with | [_], _ => rfl
  have b_Notes_lines : Binds K fd_Notes_lines (["self"] : List Str) [] := FunD.bindsN F_Notes_lines fun _ _ _ _ _ _ us hl => match us, hl with | [_], _ => rfl
  have b__law_lines : Binds K fd__law_lines (["_law_rows"] : List Str) [] := FunD.bindsN F__law_lines fun _ _ _ _ _ _ us hl => match us, hl with | [_], _ => rfl
  have b_Notes___iter__ : Binds K fd_Notes___iter__ (["self"] : List Str) [] := FunD.bindsN F_Notes___iter__ fun _ _ _ _ _ _ us hl => match us, hl with | [_], _ => rfl
  have b__law_is_integer : Binds K fd__law_is_integer (["_law_x"] : List Str) [] := FunD.bindsN F__law_is_integer fun _ _ _ _ _ _ us hl => match us, hl with | [_], _ => rfl
  have b__law_entry : Binds K fd__law_entry (["_law_row"] : List Str) [] := FunD.bindsN F__law_entry fun _ _ _ _ _ _ us hl => match us, hl with | [_], _ => rfl
  have b__law_pairs : Binds K fd__law_pairs (["_law_notes", "_law_rows"] : List Str) [] := FunD.bindsN F__law_pairs fun _ _ _ _ _ _ us hl => match us, hl with | [_, _], _ => rfl
  have b_Notes_copy : Binds K fd_Notes_copy (["self"] : List Str) [] := FunD.bindsN F_Notes_copy fun _ _ _ _ _ _ us hl => match us, hl with | [_], _ => rfl
  have b__law_entries : Binds K fd__law_entries (["_law_rows"] : List Str) [] := FunD.bindsN F__law_entries fun _ _ _ _ _ _ us hl => match us, hl with | [_], _ => rfl
  have b_Notes___contains__ : Binds K fd_Notes___contains__ (["self", "entry"] : List Str) [] := FunD.bindsN F_Notes___contains__ fun _ _ _ _ _ _ us hl => match us, hl with | [_, _], _ => rfl
  have b_Notes___getitem__ : Binds K fd_Notes___getitem__ (["self", "state"] : List Str) [] := FunD.bindsN F_Notes___getitem__ fun _ _ _ _ _ _ us hl => match us, hl with | [_, _], _ => rfl
  have b_Crowd___le__ : Binds K fd_Crowd___le__ (["self", "other"] : List Str) [] := FunD.bindsN F_Crowd___le__ fun _ _ _ _ _ _ us hl => match us, hl with | [_, _], _ => rfl
  have b_Crowd_lots : Binds K fd_Crowd_lots (["self", "size"] : List Str) [] := FunD.bindsN F_Crowd_lots fun _ _ _ _ _ _ us hl => match us, hl with | [_, _], _ => rfl
  have b_Notes_admits : Binds K fd_Notes_admits (["self", "state", "crowd"] : List Str) [] := FunD.bindsN F_Notes_admits fun _ _ _ _ _ _ us hl => match us, hl with | [_, _, _], _ => rfl
  have b_Notes_lets : Binds K fd_Notes_lets (["self", "ban"] : List Str) [] := FunD.bindsN F_Notes_lets fun _ _ _ _ _ _ us hl => match us, hl with | [_, _], _ => rfl
  have b_Notes___len__ : Binds K fd_Notes___len__ (["self"] : List Str) [] := FunD.bindsN F_Notes___len__ fun _ _ _ _ _ _ us hl => match us, hl with | [_], _ => rfl
  have b__law_asked : Binds K fd__law_asked (["_law_notes", "_law_rows", "_law_others"] : List Str) [] := FunD.bindsN F__law_asked fun _ _ _ _ _ _ us hl => match us, hl with | [_, _, _], _ => rfl
  have b_law : Binds K fd_law (["_law_script"] : List Str) [] := FunD.bindsN F_law fun _ _ _ _ _ _ us hl => match us, hl with | [_], _ => rfl
  obtain ⟨uv_Ban_MOST_MEMBERS, cv_Ban_MOST_MEMBERS⟩ := cvB_ok (c.test 4)
  obtain ⟨uv_Notes_MOST_WIDTH, cv_Notes_MOST_WIDTH⟩ := cvB_ok (c.test 5)
  obtain ⟨uv_Program_MOST_STATES, cv_Program_MOST_STATES⟩ := cvB_ok (c.test 6)
  have kb_Ban___init__ : KB1 K fd_Ban___init__ (["self", "crowd", "states"] : List Str) 2 "states" := kb_of F_Ban___init__ (by intro z; cases z) fun _ _ _ _ _ _ us ws hu hw => match us, ws, hu, hw with | [_, _], [_], _, _ => rfl
  have bl := FunD.bindsA (ps := ["_law_script"]) F_law fun _ _ _ _ _ _ us hl => match us, hl with | [_], _ => rfl
  refine ⟨fd_law, fun s v => bl s [v] rfl, fun base _ _ => ?_⟩
  exact (ok_law (G := ⟨P, w, K, mg, base, ctOf (cl K)⟩) { gok := gok_of (l := cl K) rfl (c.test 0), xok := xok_of (l := cl K) rfl (c.test 9), C_Crowd := He.ga K "Crowd", ct_Crowd := rfl, mg_Crowd := He.glo_ok X GG (c.fact 0 (q := .glo "Crowd") rfl), C_Program := He.ga K "Program", ct_Program := rfl, mg_Program := He.glo_ok X GG (c.fact 1 (q := .glo "Program") rfl), C_Ban := He.ga K "Ban", ct_Ban := rfl, mg_Ban := He.glo_ok X GG (c.fact 2 (q := .glo "Ban") rfl), C_Notes := He.ga K "Notes", ct_Notes := rfl, mg_Notes := He.glo_ok X GG (c.fact 3 (q := .glo "Notes") rfl), C_CrowdError := He.ga K "CrowdError", ct_CrowdError := rfl, mg_CrowdError := He.glo_ok X GG (c.fact 4 (q := .glo "CrowdError") rfl), C_BanError := He.ga K "BanError", ct_BanError := rfl, mg_BanError := He.glo_ok X GG (c.fact 5 (q := .glo "BanError") rfl), C_RangeError := He.ga K "RangeError", ct_RangeError := rfl, mg_RangeError := He.glo_ok X GG (c.fact 6 (q := .glo "RangeError") rfl), m_abs := He.free_ok X GG (c.fact 7 (q := .free "abs") rfl), m_all := He.free_ok X GG (c.fact 8 (q := .free "all") rfl), m_any := He.free_ok X GG (c.fact 9 (q := .free "any") rfl), m_bool := He.free_ok X GG (c.fact 10 (q := .free "bool") rfl), m_enumerate := He.free_ok X GG (c.fact 11 (q := .free "enumerate") rfl), m_int := He.free_ok X GG (c.fact 12 (q := .free "int") rfl), m_isinstance := He.free_ok X GG (c.fact 13 (q := .free "isinstance") rfl), m_iter := He.free_ok X GG (c.fact 14 (q := .free "iter") rfl), m_len := He.free_ok X GG (c.fact 15 (q := .free "len") rfl), m_list := He.free_ok X GG (c.fact 16 (q := .free "list") rfl), m_range := He.free_ok X GG (c.fact 17 (q := .free "range") rfl), m_sorted := He.free_ok X GG (c.fact 18 (q := .free "sorted") rfl), m_str := He.free_ok X GG (c.fact 19 (q := .free "str") rfl), m_tuple := He.free_ok X GG (c.fact 20 (q := .free "tuple") rfl), f__law_draws := _, fd__law_draws := fd__law_draws, F__law_draws := F__law_draws, b__law_draws := b__law_draws, g__law_draws := He.glo_ok X GG (c.fact 21 (q := .glo "_law_draws") rfl), f__law_cell := _, fd__law_cell := fd__law_cell, F__law_cell := F__law_cell, b__law_cell := b__law_cell, g__law_cell := He.glo_ok X GG (c.fact 22 (q := .glo "_law_cell") rfl), f__law_ranked := _, fd__law_ranked := fd__law_ranked, F__law_ranked := F__law_ranked, b__law_ranked := b__law_ranked, g__law_ranked := He.glo_ok X GG (c.fact 23 (q := .glo "_law_ranked") rfl), f_Notes___init__ := _, fd_Notes___init__ := fd_Notes___init__, F_Notes___init__ := F_Notes___init__, b_Notes___init__ := b_Notes___init__, f_Crowd___len__ := _, fd_Crowd___len__ := fd_Crowd___len__, F_Crowd___len__ := F_Crowd___len__, b_Crowd___len__ := b_Crowd___len__, f_ordered := _, fd_ordered := fd_ordered, F_ordered := F_ordered, b_ordered := b_ordered, g_ordered := He.glo_ok X GG (c.fact 24 (q := .glo "ordered") rfl), f_Crowd___init__ := _, fd_Crowd___init__ := fd_Crowd___init__, t_Crowd___init___0 := dA_Crowd___init___0 K, F_Crowd___init__ := F_Crowd___init__, b_Crowd___init__ := b_Crowd___init__, f_Notes___setitem__ := _, fd_Notes___setitem__ := fd_Notes___setitem__, F_Notes___setitem__ := F_Notes___setitem__, b_Notes___setitem__ := b_Notes___setitem__, f_Crowd___str__ := _, fd_Crowd___str__ := fd_Crowd___str__, F_Crowd___str__ := F_Crowd___str__, b_Crowd___str__ := b_Crowd___str__, f_Notes_lines := _, fd_Notes_lines := fd_Notes_lines, F_Notes_lines := F_Notes_lines, b_Notes_lines := b_Notes_lines, f__law_lines := _, fd__law_lines := fd__law_lines, F__law_lines := F__law_lines, b__law_lines := b__law_lines, g__law_lines := He.glo_ok X GG (c.fact 25 (q := .glo "_law_lines") rfl), f_Notes___iter__ := _, fd_Notes___iter__ := fd_Notes___iter__, F_Notes___iter__ := F_Notes___iter__, b_Notes___iter__ := b_Notes___iter__, f__law_is_integer := _, fd__law_is_integer := fd__law_is_integer, F__law_is_integer := F__law_is_integer, b__law_is_integer := b__law_is_integer, g__law_is_integer := He.glo_ok X GG (c.fact 26 (q := .glo "_law_is_integer") rfl), f__law_entry := _, fd__law_entry := fd__law_entry, F__law_entry := F__law_entry, b__law_entry := b__law_entry, g__law_entry := He.glo_ok X GG (c.fact 27 (q := .glo "_law_entry") rfl), f__law_pairs := _, fd__law_pairs := fd__law_pairs, F__law_pairs := F__law_pairs, b__law_pairs := b__law_pairs, g__law_pairs := He.glo_ok X GG (c.fact 28 (q := .glo "_law_pairs") rfl), f_Notes_copy := _, fd_Notes_copy := fd_Notes_copy, F_Notes_copy := F_Notes_copy, b_Notes_copy := b_Notes_copy, f__law_entries := _, fd__law_entries := fd__law_entries, F__law_entries := F__law_entries, b__law_entries := b__law_entries, g__law_entries := He.glo_ok X GG (c.fact 29 (q := .glo "_law_entries") rfl), f_Notes___contains__ := _, fd_Notes___contains__ := fd_Notes___contains__, F_Notes___contains__ := F_Notes___contains__, b_Notes___contains__ := b_Notes___contains__, f_Notes___getitem__ := _, fd_Notes___getitem__ := fd_Notes___getitem__, F_Notes___getitem__ := F_Notes___getitem__, b_Notes___getitem__ := b_Notes___getitem__, f_Crowd___le__ := _, fd_Crowd___le__ := fd_Crowd___le__, F_Crowd___le__ := F_Crowd___le__, b_Crowd___le__ := b_Crowd___le__, f_Crowd_lots := _, fd_Crowd_lots := fd_Crowd_lots, F_Crowd_lots := F_Crowd_lots, b_Crowd_lots := b_Crowd_lots, f_Notes_admits := _, fd_Notes_admits := fd_Notes_admits, F_Notes_admits := F_Notes_admits, b_Notes_admits := b_Notes_admits, f_Notes_lets := _, fd_Notes_lets := fd_Notes_lets, F_Notes_lets := F_Notes_lets, b_Notes_lets := b_Notes_lets, f_Ban___init__ := _, fd_Ban___init__ := fd_Ban___init__, F_Ban___init__ := F_Ban___init__, f_Notes___len__ := _, fd_Notes___len__ := fd_Notes___len__, F_Notes___len__ := F_Notes___len__, b_Notes___len__ := b_Notes___len__, f__law_asked := _, fd__law_asked := fd__law_asked, F__law_asked := F__law_asked, b__law_asked := b__law_asked, g__law_asked := He.glo_ok X GG (c.fact 30 (q := .glo "_law_asked") rfl), f_law := _, fd_law := fd_law, F_law := F_law, b_law := b_law, g_law := He.glo_ok X GG (c.fact 31 (q := .glo "law") rfl), cl_Crowd := He.cls_ok (c.fact 32 (q := .cls "Crowd") rfl), cl_Notes := He.cls_ok (c.fact 33 (q := .cls "Notes") rfl), cr_Ban := crB_ok (c.test 1), cr_Notes := crB_ok (c.test 2), cr_Program := crB_ok (c.test 3), uv_Ban_MOST_MEMBERS := uv_Ban_MOST_MEMBERS, cv_Ban_MOST_MEMBERS := cv_Ban_MOST_MEMBERS, uv_Notes_MOST_WIDTH := uv_Notes_MOST_WIDTH, cv_Notes_MOST_WIDTH := cv_Notes_MOST_WIDTH, uv_Program_MOST_STATES := uv_Program_MOST_STATES, cv_Program_MOST_STATES := cv_Program_MOST_STATES, fni_Notes___getitem__ := c.test 7, kb_Ban___init__ := kb_Ban___init__, me_Crowd___le__ := He.meth_ok (c.fact 34 (q := .meth "Crowd" "__le__") rfl), me_Crowd___len__ := He.meth_ok (c.fact 35 (q := .meth "Crowd" "__len__") rfl), me_Crowd___str__ := He.meth_ok (c.fact 36 (q := .meth "Crowd" "__str__") rfl), me_Crowd_lots := He.meth_ok (c.fact 37 (q := .meth "Crowd" "lots") rfl), me_Notes___contains__ := He.meth_ok (c.fact 38 (q := .meth "Notes" "__contains__") rfl), me_Notes___getitem__ := He.meth_ok (c.fact 39 (q := .meth "Notes" "__getitem__") rfl), me_Notes___iter__ := He.meth_ok (c.fact 40 (q := .meth "Notes" "__iter__") rfl), me_Notes___len__ := He.meth_ok (c.fact 41 (q := .meth "Notes" "__len__") rfl), me_Notes___setitem__ := He.meth_ok (c.fact 42 (q := .meth "Notes" "__setitem__") rfl), me_Notes_admits := He.meth_ok (c.fact 43 (q := .meth "Notes" "admits") rfl), me_Notes_copy := He.meth_ok (c.fact 44 (q := .meth "Notes" "copy") rfl), me_Notes_lets := He.meth_ok (c.fact 45 (q := .meth "Notes" "lets") rfl), me_Notes_lines := He.meth_ok (c.fact 46 (q := .meth "Notes" "lines") rfl), mk_Ban := He.mkr_ok (c.fact 47 (q := .mkr "Ban") rfl), mk_Crowd := He.mkr_ok (c.fact 48 (q := .mkr "Crowd") rfl), mk_Notes := He.mkr_ok (c.fact 49 (q := .mkr "Notes") rfl), nsq_Notes := c.test 8, xc_BanError := He.exc_ok (c.fact 50 (q := .exc "BanError") rfl), xc_CrowdError := He.exc_ok (c.fact 51 (q := .exc "CrowdError") rfl), xc_RangeError := He.exc_ok (c.fact 52 (q := .exc "RangeError") rfl) }).imp (law_imp (G := ⟨P, w, K, mg, base, ctOf (cl K)⟩) law_true)
end DL
open PySem PySem.W PySem.Calls PyProof.Rows
set_option maxRecDepth 100000 in
set_option maxHeartbeats 0 in
theorem PySem.Challenge.cw_notedepth_k12_notes_lines_holds : PySem.Challenge.rw_notedepth_k12_notes_lines.Holds := by
  w_on; o_law
  refine HandSHeadRun.head_any (r := OpenLaw.row PySem.Challenge.rw_notedepth_k12_notes_lines) (q := view (OpenLaw.row PySem.Challenge.rw_notedepth_k12_notes_lines).prog [25]) (H := DL.hk) (ob := DL.ob) (M := 9000) (loose := DL.loose) (d := HandSHeadRun.topDef (OpenLaw.row PySem.Challenge.rw_notedepth_k12_notes_lines).prog 25) (kwd := []) DL.ob_eq
    (by kernel_rfl) (fun s => by kernel_rfl) DL.run (by kernel_rfl) (by kernel_rfl) (by kernel_rfl) (by rfl) (by first | assumption | decide +kernel) (by decide +kernel) ⟨rfl, rfl, rfl, rfl, rfl, by decide +kernel⟩ ?hw ?hc
  case hw => w_witness2
  case hc =>
    refine DL.walkD (l := PySem.Challenge.rw_notedepth_k12_notes_lines) (n := 63) (k := 7) (x := "_law_script") rfl (by decide) (by kernel_rfl) ⟨rfl, by decide, by decide⟩ ?F
    intro w mg fa h Y GG hmg0
    obtain ⟨K, KX, c⟩ := Y
    have hmg : mg ("law" : PySem.Str) = some (.ref fa) := by
      have e : (HandSHeadRun.topDef (OpenLaw.row PySem.Challenge.rw_notedepth_k12_notes_lines).prog 25).name = ("law" : PySem.Str) := by kernel_rfl
      rw [← e]
      exact hmg0
    obtain ⟨fd, hb, hF⟩ := DL.facts (P := (PySem.Challenge.rw_notedepth_k12_notes_lines).prog) (w := w) KX GG hmg c
    exact ⟨K, fd, DL.spLw K, KX, hb, fun H a ns hl _ hS => ⟨a, ns, rfl, hS, hl, fun _ => rfl⟩, hF⟩
