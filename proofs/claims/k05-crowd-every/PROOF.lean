import PyProof.Rows.All
import Wide.All
import OpenK.AllK
import Wide.FinOn
import HandS.ForMost
import HandS.ForExc
import HandS.ExcCtx
import HandS.CallSlots
import HandS.TupAny
import HandS.TupMul
import HandS.SortInts
import HandS.Wide
import HandS.Flow
import HandS.TupLe
import HandS.Walk
import HandS.Deep
import HandS.IsInst
import HandS.Style
import KE.KSortedM
import HandS.StrMore
import HandS.Conv
import HandS.ExcOwn
import HandS.More
import HandS.SetFor
import KE.DataFind
import KE.KIndexOf
import HandS.ClsMeth
import Lean
import HandS.Defaults
import HandS.Head0
import HandS.Head1
import HandS.Head2
import HandS.HeadEnd
import HandS.HeadHook1
import HandS.HeadHook2
import HandS.HeadNt
import HandS.HeadWalk
import PySem.Challenge.RW_notedepth_k05_crowd_every
set_option Elab.async false
set_option linter.all false
set_option maxRecDepth 100000
set_option maxHeartbeats 4000000
namespace DL
open PySem PySem.Spec L2

/-- deep data -/
inductive D where
  | non | bl (b : Bool) | int (i : Int) | str (s : Str)
  | tup (l : List D) | lst (l : List D) | dct (l : List (D × D)) | obj (c : Nat) (fs : List D) | scr (l : List Int) | typ (n : String) | cls (c : Nat)
  deriving Inhabited

/-! ### tuples whose object is known (so their methods can be called) -/
def GT (K : PySem.W.Frag) (H : Hp) (a : Addr) (vs : List V) : Prop := (∃ o, H a = some (.frz o (.tup vs)) ∧ o.dict = none) ∨
  ∃ (o : Obj) (its : Array Value) (n : Nat), K.lookup a = some o ∧ o.cls = .type "tuple" ∧ o.dict = none ∧ o.data = .seq its n ∧ its.size ≤ sizeLine ∧ Vals vs its.toList
theorem GT.sq {K : PySem.W.Frag} {H : Hp} {a : Addr} {vs : List V} (h : GT K H a vs) : SqT K H a vs := by
  rcases h with ⟨o, h, _⟩ | ⟨o, its, n, h1, h2, _, h4, h5, h6⟩
  · exact .inl (.inr ⟨o, h⟩)
  · exact .inr ⟨o, its, n, h1, h2, h4, h5, h6⟩
theorem GT.mono {K : PySem.W.Frag} {H H' : Hp} {a : Addr} {vs : List V} (e : Same H H') (h : GT K H a vs) : GT K H' a vs := by
  rcases h with ⟨o, h, d⟩ | h
  · exact .inl ⟨o, e _ _ h, d⟩
  · exact .inr h
theorem GT.of {K : PySem.W.Frag} {H : Hp} {a : Addr} {vs : List V} {o : Obj} (h : H a = some (.frz o (.tup vs))) (d : o.dict = none) : GT K H a vs := .inl ⟨o, h, d⟩
section
variable {X : Cx}
abbrev tupO (us : List Value) : Obj := { cls := .type "tuple", data := .seq us.toArray }
theorem laidT {pp : List (Addr × Obj)} {σ : L2.St} {H : Hp} {s : Shared} {us : List Value} {xs : List V} {t' : Nat} (J : Inv X pp σ H s) (r : Vals xs us) (z : xs.length ≤ sizeLine) :
    Inv X pp σ (upd H s.heap.objs.size (.frz (tupO us) (.tup xs))) { s with heap := s.heap.push (tupO us), toks := t' } :=
  J.laid (t' := t') (fun b u e => Heap.get?_push_of_some _ e) (Nat.le_refl _) ⟨Heap.get?_push_size _ rfl, z, us, r, ⟨_, Heap.get?_push_size _ rfl, rfl, _, rfl⟩⟩
/-- a new tuple -/
def NewT (H : Hp) (xs : List V) (Q : VK) : Prop := ∀ p o, H p = none → o.dict = none → Q (.ref p) (upd H p (.frz o (.tup xs)))
def tTupF (t : TA) : TE := fun σ H Q => t σ H fun xs H1 => xs.length ≤ sizeLine ∧ NewT H1 xs Q
theorem pe_tupF {es : List Expr} {pos : Pos} {x1 : Nat} {t : TA} (h : PA X es t) : PE X (.Tuple es x1 pos) (tTupF t) :=
  ⟨fun pp s σ H Q J hq => wpAny_Tuple_spliced (thn (h.run pos pp s σ H _ J hq) fun us s1 ⟨xs, H1, J1, r, z, q⟩ =>
    ⟨by rw [← r.length]; exact z, ⟨.ref s1.heap.objs.size, _, laidT (t' := s1.toks) J1 r z, rfl, q _ _ (J1.hok.fresh (Nat.le_refl _)) rfl⟩⟩)⟩
def rCatF (K : PySem.W.Frag) : R2 := fun x y H Q => ∃ a b xs ys, x = .ref a ∧ y = .ref b ∧ SqT K H a xs ∧ SqT K H b ys ∧ xs.length + ys.length ≤ sizeLine ∧
  (xs = [] → Q (.ref b) H) ∧ (xs ≠ [] → ys = [] → Q (.ref a) H) ∧ (xs ≠ [] → ys ≠ [] → NewT H (xs ++ ys) Q)
theorem op_catF : OpR X (binaryOp .Add) (rCatF X.K) := by
  intro pp s σ H x y v u Q J rx ry h
  obtain ⟨a, b, xs, ys, rfl, rfl, ha, hb, hz, q0, q1, q2⟩ := h
  cases rx
  cases ry
  obtain ⟨us, r1, p1, _⟩ := J.tuple ha
  obtain ⟨ws, r2, p2, _⟩ := J.tuple hb
  by_cases hx : xs = []
  · subst hx
    cases r1
    exact L2.cat_tup0 p1 p2 ⟨.ref b, H, J, rfl, q0 rfl⟩
  · refine HT.cat_tup p1 p2 (fun z => hx (r1.nil_iff.mp z)) (fun z => ⟨.ref a, H, J, rfl, q1 hx (r2.nil_iff.mp z)⟩) (fun z => ?_) (by rw [← r1.length, ← r2.length]; exact hz)
    exact ⟨.ref s.heap.objs.size, _, laidT (t' := s.toks) J (r1.append r2) (by rw [List.length_append]; exact hz), rfl, q2 hx (fun w => z (r2.nil_iff.mpr w)) _ _ (J.hok.fresh (Nat.le_refl _)) rfl⟩
def rSlF (K : PySem.W.Frag) : V → Option Int → Option Int → Hp → VK → Prop := fun x lo hi H Q => ∃ a xs, x = .ref a ∧ SqT K H a xs ∧
  (HT.sIx xs.length 0 lo = 0 ∧ HT.sIx xs.length xs.length hi = xs.length → Q (.ref a) H) ∧ (¬ (HT.sIx xs.length 0 lo = 0 ∧ HT.sIx xs.length xs.length hi = xs.length) → NewT H (cutV xs lo hi) Q)
theorem sl_tupF : SlR X (rSlF X.K) := by
  intro pp s σ H x v vl vu lo hi sl Q J rx hs pl pu h
  obtain ⟨a, xs, rfl, hx, q1, q2⟩ := h
  cases rx
  obtain ⟨us, r, ht, hz⟩ := J.tuple hx
  have hn : us.toArray.size = xs.length := by rw [List.size_toArray]; exact r.length.symm
  refine ⟨"tuple", _, PyProof.Rows.slot_tuple_getitem.lookup, ht.typeIs, ?_⟩
  by_cases hw : HT.sIx xs.length 0 lo = 0 ∧ HT.sIx xs.length xs.length hi = xs.length
  · exact L2.getItem_tuple_whole ht hs pl pu (by rw [hn]; exact hw) ⟨.ref a, H, J, rfl, q1 hw⟩
  · refine HT.getItem_tuple_cut ht hs pl pu (by rw [hn]; exact hw) ?_ (by rw [hn]; exact hz)
    rw [hn]
    exact ⟨.ref s.heap.objs.size, _, laidT (t' := s.toks) J ((r.drop (HT.sIx xs.length 0 lo)).take (HT.sIx xs.length xs.length hi - HT.sIx xs.length 0 lo)) (Nat.le_trans (cutV_length xs lo hi) hz), rfl, q2 hw _ _ (J.hok.fresh (Nat.le_refl _)) rfl⟩
def rTupF (K : PySem.W.Frag) : List V → Hp → VK → Prop := fun xs H Q => ∃ p ys, xs = [.ref p] ∧ ((SqL K H p ys ∧ NewT H ys Q) ∨ (SqT K H p ys ∧ Q (.ref p) H))
theorem call_tupF : CallR X (.type "tuple") (rTupF X.K) := by
  intro pp s σ H xs us Q J r h
  obtain ⟨p, ys, rfl, h⟩ := h
  obtain ⟨u, rfl, rx⟩ := vals1 r
  cases rx
  rcases h with ⟨hq, q⟩ | ⟨hq, q⟩
  · obtain ⟨its, r2, pl, hz⟩ := J.list hq
    have hn := r2.length
    refine call_tuple_list pl.isList (fun h' kp => ?_) (by simp only [List.size_toArray] <;> omega)
    have J1 : Inv X pp σ H { s with heap := h' } := J.kept (t' := s.toks) kp
    exact ⟨.ref h'.objs.size, _, laidT (t' := s.toks) J1 r2 hz, rfl, q _ _ (J1.hok.fresh (Nat.le_refl _)) rfl⟩
  · obtain ⟨its, r2, pl, hz⟩ := J.tuple hq
    exact call_tuple_same pl ⟨.ref p, H, J, rfl, q⟩
end

/-- a class: its address, the names of its fields in order -/
abbrev CT := Nat → Option (Addr × List Str)
def zipF : List Str → List V → List (Str × V)
  | n :: ns, v :: vs => (n, v) :: zipF ns vs
  | _, _ => []

/-- what is global to a law -/
structure Gm where
  P : Program
  w : World
  K : PySem.W.Frag
  mg : Str → Option Value
  base : Heap
  ct : CT

mutual
def Rep (G : Gm) (H : Hp) : D → V → Prop
  | .non, v => v = .non
  | .bl b, v => v = .bl b
  | .int i, v => v = .int i
  | .str s, v => v = .str s
  | .typ n, v => v = .ty n
  | .cls c, v => ∃ C ns, G.ct c = some (C, ns) ∧ v = .ref C
  | .tup l, v => ∃ a vs, v = .ref a ∧ GT G.K H a vs ∧ RepL G H l vs
  | .lst l, v => ∃ a vs, v = .ref a ∧ H a = some (.lst vs) ∧ RepL G H l vs
  | .dct _, _ => False
  | .obj c fs, v => ∃ a C ns dx vs, v = .ref a ∧ G.ct c = some (C, ns) ∧ H a = some (.ins C dx (zipF ns vs)) ∧ RepL G H fs vs
  | .scr l, v => ∃ a, v = .ref a ∧ SqL G.K H a (l.map V.int)
def RepL (G : Gm) (H : Hp) : List D → List V → Prop
  | [], vs => vs = []
  | d :: ds, vs => ∃ v vs', vs = v :: vs' ∧ Rep G H d v ∧ RepL G H ds vs'
end
/-- may the object be changed -/
def D.isMut : D → Bool
  | .lst _ => true
  | .dct _ => true
  | .obj _ _ => true
  | _ => false
/-- the object at p is d, what lies below it in F -/
def OwnO (G : Gm) (F H : Hp) (p : Addr) : D → Prop
  | .lst l => ∃ vs, H p = some (.lst vs) ∧ RepL G F l vs
  | .obj c fs => ∃ C ns dx vs, G.ct c = some (C, ns) ∧ H p = some (.ins C dx (zipF ns vs)) ∧ RepL G F fs vs
  | _ => False
/-- the value is d: its own object in H, what lies below it in F -/
def Top (G : Gm) (F H : Hp) (d : D) (v : V) : Prop :=
  if d.isMut = true then ∃ p, v = .ref p ∧ OwnO G F H p d else Rep G F d v

section
variable {G : Gm} {F F' H H' : Hp}
mutual
theorem Rep.mono (e : Same H H') : ∀ (d : D) (v : V), Rep G H d v → Rep G H' d v
  | .non, _, h => h
  | .bl _, _, h => h
  | .int _, _, h => h
  | .str _, _, h => h
  | .typ _, _, h => h
  | .cls _, _, h => h
  | .dct _, _, h => h
  | .tup l, v, h => by
    obtain ⟨a, vs, rfl, h1, h2⟩ := h
    exact ⟨a, vs, rfl, h1.mono e, RepL.mono e l vs h2⟩
  | .lst l, v, h => by
    obtain ⟨a, vs, rfl, h1, h2⟩ := h
    exact ⟨a, vs, rfl, e _ _ h1, RepL.mono e l vs h2⟩
  | .obj c fs, v, h => by
    obtain ⟨a, C, ns, dx, vs, rfl, h1, h2, h3⟩ := h
    exact ⟨a, C, ns, dx, vs, rfl, h1, e _ _ h2, RepL.mono e fs vs h3⟩
  | .scr l, v, h => by
    obtain ⟨a, rfl, h1⟩ := h
    exact ⟨a, rfl, e.seq h1⟩
theorem RepL.mono (e : Same H H') : ∀ (ds : List D) (vs : List V), RepL G H ds vs → RepL G H' ds vs
  | [], _, h => h
  | d :: ds, vs, h => by
    obtain ⟨v, vs', rfl, h1, h2⟩ := h
    exact ⟨v, vs', rfl, Rep.mono e d v h1, RepL.mono e ds vs' h2⟩
end
theorem RepL.length : ∀ {ds : List D} {vs : List V}, RepL G H ds vs → vs.length = ds.length
  | [], vs, h => by
    rw [show vs = [] from h]
    rfl
  | d :: ds, vs, h => by
    obtain ⟨v, vs', rfl, h1, h2⟩ := h
    rw [List.length_cons, List.length_cons, RepL.length h2]
theorem RepL.get : ∀ {ds : List D} {vs : List V} {i : Nat} {d : D}, RepL G H ds vs → ds[i]? = some d → ∃ v, vs[i]? = some v ∧ Rep G H d v
  | d :: ds, vs, 0, d', h, e => by
    obtain ⟨v, vs', rfl, h1, h2⟩ := h
    have e' : d = d' := Option.some.inj e
    subst e'
    exact ⟨v, rfl, h1⟩
  | d :: ds, vs, i + 1, d', h, e => by
    obtain ⟨v, vs', rfl, h1, h2⟩ := h
    exact RepL.get (i := i) h2 e
theorem RepL.getV : ∀ {ds : List D} {vs : List V} {i : Nat} {v : V}, RepL G H ds vs → vs[i]? = some v → ∃ d, ds[i]? = some d ∧ Rep G H d v
  | [], vs, i, v, h, e => by
    rw [show vs = [] from h] at e
    cases e
  | d :: ds, vs, 0, v, h, e => by
    obtain ⟨v', vs', rfl, h1, h2⟩ := h
    have e' : v' = v := Option.some.inj e
    subst e'
    exact ⟨d, rfl, h1⟩
  | d :: ds, vs, i + 1, v, h, e => by
    obtain ⟨v', vs', rfl, h1, h2⟩ := h
    exact RepL.getV (i := i) h2 e
theorem RepL.app : ∀ {ds es : List D} {vs ws : List V}, RepL G H ds vs → RepL G H es ws → RepL G H (ds ++ es) (vs ++ ws)
  | [], _, vs, _, h, h' => by
    rw [show vs = [] from h]
    exact h'
  | d :: ds, es, vs, ws, h, h' => by
    obtain ⟨v, vs', rfl, h1, h2⟩ := h
    exact ⟨v, vs' ++ ws, rfl, h1, RepL.app h2 h'⟩
theorem RepL.one {d : D} {v : V} (h : Rep G H d v) : RepL G H [d] [v] := ⟨v, [], rfl, h, rfl⟩
theorem RepL.drop : ∀ {ds : List D} {vs : List V} (n : Nat), RepL G H ds vs → RepL G H (ds.drop n) (vs.drop n)
  | _, _, 0, h => h
  | [], vs, n + 1, h => by
    rw [show vs = [] from h]
    rfl
  | d :: ds, vs, n + 1, h => by
    obtain ⟨v, vs', rfl, h1, h2⟩ := h
    exact RepL.drop n h2
theorem RepL.take : ∀ {ds : List D} {vs : List V} (n : Nat), RepL G H ds vs → RepL G H (ds.take n) (vs.take n)
  | _, _, 0, h => rfl
  | [], vs, n + 1, h => by
    rw [show vs = [] from h]
    rfl
  | d :: ds, vs, n + 1, h => by
    obtain ⟨v, vs', rfl, h1, h2⟩ := h
    exact ⟨v, vs'.take n, rfl, h1, RepL.take n h2⟩
theorem RepL.set : ∀ {ds : List D} {vs : List V} {d : D} {v : V} (n : Nat), RepL G H ds vs → Rep G H d v → RepL G H (ds.set n d) (vs.set n v)
  | [], vs, _, _, n, h, _ => by
    rw [show vs = [] from h]
    rfl
  | d :: ds, vs, d', v', 0, h, h' => by
    obtain ⟨v, vs', rfl, h1, h2⟩ := h
    exact ⟨v', vs', rfl, h', h2⟩
  | d :: ds, vs, d', v', n + 1, h, h' => by
    obtain ⟨v, vs', rfl, h1, h2⟩ := h
    exact ⟨v, vs'.set n v', rfl, h1, RepL.set n h2 h'⟩
theorem RepL.erase : ∀ {ds : List D} {vs : List V} (n : Nat), RepL G H ds vs → RepL G H (ds.eraseIdx n) (vs.eraseIdx n)
  | [], vs, n, h => by
    rw [show vs = [] from h]
    rfl
  | d :: ds, vs, 0, h => by
    obtain ⟨v, vs', rfl, h1, h2⟩ := h
    exact h2
  | d :: ds, vs, n + 1, h => by
    obtain ⟨v, vs', rfl, h1, h2⟩ := h
    exact ⟨v, vs'.eraseIdx n, rfl, h1, RepL.erase n h2⟩
theorem RepL.rev : ∀ {ds : List D} {vs : List V}, RepL G H ds vs → RepL G H ds.reverse vs.reverse
  | [], vs, h => by
    rw [show vs = [] from h]
    rfl
  | d :: ds, vs, h => by
    obtain ⟨v, vs', rfl, h1, h2⟩ := h
    rw [List.reverse_cons, List.reverse_cons]
    exact RepL.app (RepL.rev h2) (RepL.one h1)
theorem RepL.ints : ∀ {ns : List Int} {vs : List V}, RepL G H (ns.map D.int) vs → vs = ns.map V.int
  | [], vs, h => h
  | n :: ns, vs, h => by
    obtain ⟨v, vs', rfl, h1, h2⟩ := h
    rw [show v = V.int n from h1, RepL.ints h2]
    rfl
theorem RepL.ofInts : ∀ {ns : List Int}, RepL G H (ns.map D.int) (ns.map V.int)
  | [] => rfl
  | n :: ns => ⟨_, _, rfl, rfl, RepL.ofInts⟩
theorem OwnO.mono (e : Same F F') {p : Addr} (e' : ∀ o, H p = some o → H' p = some o) : ∀ (d : D), OwnO G F H p d → OwnO G F' H' p d
  | .lst l, h => by
    obtain ⟨vs, h1, h2⟩ := h
    exact ⟨vs, e' _ h1, RepL.mono e l vs h2⟩
  | .obj c fs, h => by
    obtain ⟨C, ns, dx, vs, h1, h2, h3⟩ := h
    exact ⟨C, ns, dx, vs, h1, e' _ h2, RepL.mono e fs vs h3⟩
  | .non, h => h.elim
  | .bl _, h => h.elim
  | .int _, h => h.elim
  | .str _, h => h.elim
  | .typ _, h => h.elim
  | .cls _, h => h.elim
  | .tup _, h => h.elim
  | .dct _, h => h.elim
  | .scr _, h => h.elim
theorem OwnO.there {p : Addr} : ∀ {d : D}, OwnO G F H p d → ∃ o, H p = some o
  | .lst l, h => by
    obtain ⟨vs, h1, h2⟩ := h
    exact ⟨_, h1⟩
  | .obj c fs, h => by
    obtain ⟨C, ns, dx, vs, h1, h2, h3⟩ := h
    exact ⟨_, h2⟩
  | .non, h => h.elim
  | .bl _, h => h.elim
  | .int _, h => h.elim
  | .str _, h => h.elim
  | .typ _, h => h.elim
  | .cls _, h => h.elim
  | .tup _, h => h.elim
  | .dct _, h => h.elim
  | .scr _, h => h.elim
theorem OwnO.rep {p : Addr} : ∀ {d : D}, OwnO G F F p d → Rep G F d (.ref p)
  | .lst l, h => by
    obtain ⟨vs, h1, h2⟩ := h
    exact ⟨p, vs, rfl, h1, h2⟩
  | .obj c fs, h => by
    obtain ⟨C, ns, dx, vs, h1, h2, h3⟩ := h
    exact ⟨p, C, ns, dx, vs, rfl, h1, h2, h3⟩
  | .non, h => h.elim
  | .bl _, h => h.elim
  | .int _, h => h.elim
  | .str _, h => h.elim
  | .typ _, h => h.elim
  | .cls _, h => h.elim
  | .tup _, h => h.elim
  | .dct _, h => h.elim
  | .scr _, h => h.elim
theorem Top.mono (e : Same F F') (e' : Same H H') {d : D} {v : V} (h : Top G F H d v) : Top G F' H' d v := by
  unfold Top at h ⊢
  split at h
  · rename_i hm
    rw [if_pos hm]
    obtain ⟨p, rfl, h⟩ := h
    exact ⟨p, rfl, h.mono e (e' p)⟩
  · rename_i hm
    rw [if_neg hm]
    exact h.mono e
theorem Top.of_rep (e : Same F H) : ∀ {d : D} {v : V}, Rep G F d v → Top G F H d v
  | .lst l, v, h => by
    obtain ⟨a, vs, rfl, h1, h2⟩ := h
    exact ⟨a, rfl, vs, e _ _ h1, h2⟩
  | .obj c fs, v, h => by
    obtain ⟨a, C, ns, dx, vs, rfl, h1, h2, h3⟩ := h
    exact ⟨a, rfl, C, ns, dx, vs, h1, e _ _ h2, h3⟩
  | .non, v, h => h
  | .bl _, v, h => h
  | .int _, v, h => h
  | .str _, v, h => h
  | .typ _, v, h => h
  | .cls _, v, h => h
  | .tup _, v, h => h
  | .dct _, v, h => h.elim
  | .scr _, v, h => h
theorem Top.rep_of {d : D} {v : V} (hm : d.isMut = false) (h : Top G F H d v) : Rep G F d v := by
  unfold Top at h
  rw [if_neg (by rw [hm]; decide)] at h
  exact h
end
end DL

namespace DL
open PySem PySem.Spec L2

/-- what a name of a def holds -/
inductive Sl where
  | un | sh (d : D) | bo (d : D) | ow (d : D) | mu (d : D) | ln (d : D)
  deriving Inhabited
abbrev En := List Sl
/-- an exception: its class, its fields -/
structure Xc where
  c : Nat
  fs : List D
abbrev M (α : Type) := Option (Except Xc α)
def M.bnd {α β : Type} (m : M α) (k : α → M β) : M β := match m with
  | some (.ok a) => k a
  | some (.error x) => some (.error x)
  | none => none
abbrev M.ret {α : Type} (a : α) : M α := some (.ok a)
theorem bnd_ok {α β : Type} (a : α) (k : α → M β) : M.bnd (some (.ok a)) k = k a := rfl
theorem bnd_er {α β : Type} (x : Xc) (k : α → M β) : M.bnd (some (.error x)) k = some (.error x) := rfl
theorem bnd_no {α β : Type} (k : α → M β) : M.bnd none k = none := rfl
theorem bnd_some {α β : Type} {m : M α} {k : α → M β} {r : Except Xc β} (h : M.bnd m k = some r) :
    (∃ a, m = some (.ok a) ∧ k a = some r) ∨ (∃ x, m = some (.error x) ∧ r = .error x) := by
  cases m with
  | none => cases h
  | some q =>
    cases q with
    | ok a => exact .inl ⟨a, rfl, h⟩
    | error x => exact .inr ⟨x, rfl, (Option.some.inj h).symm⟩

/-- the ground has grown: F what is shared, B what may be read, H all -/
structure Up (F B H F' B' H' : Hp) : Prop where
  f : Same F F'
  b : Same B B'
  h : Same H H'
  fb : Same F' B'
  bh : Same B' H'
  old : ∀ a, H a ≠ none → F' a = F a ∧ B' a = B a
theorem Up.refl {F B H : Hp} (fb : Same F B) (bh : Same B H) : Up F B H F B H := ⟨Same.refl _, Same.refl _, Same.refl _, fb, bh, fun _ _ => ⟨rfl, rfl⟩⟩
theorem Same.ne {H H' : Hp} (e : Same H H') {a : Addr} (h : H a ≠ none) : H' a ≠ none := by
  cases q : H a with
  | none => exact absurd q h
  | some o => rw [e a o q]; intro z; cases z
theorem Up.trans {F B H F1 B1 H1 F2 B2 H2 : Hp} (x : Up F B H F1 B1 H1) (y : Up F1 B1 H1 F2 B2 H2) : Up F B H F2 B2 H2 :=
  ⟨x.f.trans y.f, x.b.trans y.b, x.h.trans y.h, y.fb, y.bh, fun a ha => by
    have h1 := x.old a ha
    have h2 := y.old a (Same.ne x.h ha)
    exact ⟨h2.1.trans h1.1, h2.2.trans h1.2⟩⟩
/-- a new object -/
theorem Up.new {F B H : Hp} {p : Addr} {o : HO} (fb : Same F B) (bh : Same B H) (hp : H p = none) : Up F B H F B (upd H p o) :=
  ⟨Same.refl _, Same.refl _, fun a u e => by rw [upd_ne (ne_of_none e hp)]; exact e, fb, fun a u e => by
    rw [upd_ne (ne_of_none (bh a u e) hp)]
    exact bh a u e, fun _ _ => ⟨rfl, rfl⟩⟩
/-- a new object of ours is shared from now on -/
theorem Up.share {F B H F' B' H' : Hp} {p : Addr} {o : HO} (u : Up F B H F' B' H') (hp : H p = none) (hb : B' p = none) (ho : H' p = some o) : Up F B H (upd F' p o) (upd B' p o) H' := by
  have hf : F' p = none := by
    cases q : F' p with
    | none => rfl
    | some o' => rw [u.fb p o' q] at hb; cases hb
  refine ⟨fun a q e => ?_, fun a q e => ?_, u.h, fun a q e => ?_, fun a q e => ?_, fun a ha => ?_⟩
  · rw [upd_ne (ne_of_none (u.f a q e) hf)]
    exact u.f a q e
  · rw [upd_ne (ne_of_none (u.b a q e) hb)]
    exact u.b a q e
  · by_cases h : a = p
    · subst h; rw [upd_same] at e ⊢; exact e
    · rw [upd_ne h] at e ⊢; exact u.fb a q e
  · by_cases h : a = p
    · subst h; rw [upd_same] at e; cases e; exact ho
    · rw [upd_ne h] at e; exact u.bh a q e
  · have hne : a ≠ p := by rintro rfl; exact ha hp
    rw [upd_ne hne, upd_ne hne]
    exact u.old a ha

/-- the state at a def's entry; M: the objects that it may change, by parameter; L, LA: what is lent, by name, all of it -/
structure Zn where
  F : Hp
  B : Hp
  H : Hp
  M : Nat → Option Addr
  L : Nat → Option Addr := fun _ => none
  LA : List Addr := []

/-- slot i holds s -/
def SlR (G : Gm) (Z : Zn) (F B H : Hp) (i : Nat) (ov : Option V) : Sl → Prop
  | .un => True
  | .sh d => ∃ v, ov = some v ∧ Rep G F d v
  | .bo d => ∃ v, ov = some v ∧ Top G F Z.B d v
  | .ow d => ∃ p, ov = some (.ref p) ∧ Z.H p = none ∧ B p = none ∧ OwnO G F H p d
  | .mu d => ∃ p, ov = some (.ref p) ∧ Z.M i = some p ∧ B p = none ∧ OwnO G F H p d
  | .ln d => ∃ p, ov = some (.ref p) ∧ Z.L i = some p ∧ OwnO G F B p d
def OwnAt (σ : St) (ρ : En) (i : Nat) (p : Addr) : Prop := (∃ d, ρ[i]? = some (.ow d)) ∧ σ[i]? = some (some (.ref p))

structure SR (G : Gm) (Z : Zn) (F B H : Hp) (σ : St) (ρ : En) : Prop where
  fb : Same F B
  bh : Same B H
  zf : Same Z.F F
  zb : Same Z.B B
  zo : ∀ a, Z.H a ≠ none → F a = Z.F a ∧ (a ∉ Z.LA → B a = Z.B a)
  zh : ∀ a o, Z.H a = some o → (∀ i, Z.M i ≠ some a) → H a = some o
  zk : ∀ a, Z.H a ≠ none → H a ≠ none
  mm : ∀ i p, Z.M i = some p → Z.H p ≠ none ∧ Z.B p = none
  md : ∀ i j p, Z.M i = some p → Z.M j = some p → i = j
  len : σ.length = ρ.length
  sl : ∀ (i : Nat) (s : Sl), ρ[i]? = some s → SlR G Z F B H i (σ[i]?.join) s
  nd : ∀ i j p, OwnAt σ ρ i p → OwnAt σ ρ j p → i = j
  lt : ∀ q ∈ Z.LA, F q = none ∧ ∃ o, B q = some o
  la : ∀ i q, Z.L i = some q → q ∈ Z.LA

section
variable {G : Gm} {Z : Zn} {F B H F' B' H' : Hp} {σ : St} {ρ : En}
theorem SR.up (s : SR G Z F B H σ ρ) (u : Up F B H F' B' H') : SR G Z F' B' H' σ ρ where
  fb := u.fb
  bh := u.bh
  zf := s.zf.trans u.f
  zb := s.zb.trans u.b
  zo := fun a ha => by
    have h1 := s.zo a ha
    have h2 := u.old a (s.zk a ha)
    exact ⟨h2.1.trans h1.1, fun q => h2.2.trans (h1.2 q)⟩
  zh := fun a o e hm => u.h a o (s.zh a o e hm)
  zk := fun a ha => Same.ne u.h (s.zk a ha)
  mm := s.mm
  md := s.md
  len := s.len
  sl := fun i q e => by
    have h := s.sl i q e
    cases q with
    | un => trivial
    | sh d =>
      obtain ⟨v, e1, e2⟩ := h
      exact ⟨v, e1, e2.mono u.f⟩
    | bo d =>
      obtain ⟨v, e1, e2⟩ := h
      exact ⟨v, e1, e2.mono u.f (Same.refl _)⟩
    | ow d =>
      obtain ⟨p, e1, e2, e3, e4⟩ := h
      obtain ⟨o, ho⟩ := e4.there
      exact ⟨p, e1, e2, by rw [(u.old p (by rw [ho]; intro z; cases z)).2]; exact e3, e4.mono u.f (u.h p)⟩
    | mu d =>
      obtain ⟨p, e1, e2, e3, e4⟩ := h
      obtain ⟨o, ho⟩ := e4.there
      exact ⟨p, e1, e2, by rw [(u.old p (by rw [ho]; intro z; cases z)).2]; exact e3, e4.mono u.f (u.h p)⟩
    | ln d =>
      obtain ⟨p, e1, e2, e4⟩ := h
      exact ⟨p, e1, e2, e4.mono u.f (u.b p)⟩
  nd := s.nd
  lt := fun q hq => by
    obtain ⟨h1, o, h2⟩ := s.lt q hq
    have h3 := u.old q (by rw [s.bh q o h2]; intro z; cases z)
    exact ⟨h3.1.trans h1, o, h3.2.trans h2⟩
  la := s.la
/-- a slot is stored -/
theorem SR.set (s : SR G Z F B H σ ρ) {i : Nat} {v : V} {q : Sl} (hi : i < ρ.length) (hq : SlR G Z F B H i (some v) q) (hn : ∀ d p j, q = .ow d → v = .ref p → j ≠ i → ¬ OwnAt σ ρ j p) :
    SR G Z F B H (σ.set i (some v)) (ρ.set i q) where
  fb := s.fb
  bh := s.bh
  zf := s.zf
  zb := s.zb
  zo := s.zo
  zh := s.zh
  zk := s.zk
  mm := s.mm
  md := s.md
  len := by rw [List.length_set, List.length_set]; exact s.len
  sl := fun j t e => by
    by_cases hj : j = i
    · subst hj
      rw [List.getElem?_set_self hi] at e
      cases e
      rw [List.getElem?_set_self (by rw [s.len]; exact hi)]
      exact hq
    · rw [List.getElem?_set_ne (Ne.symm hj)] at e
      rw [List.getElem?_set_ne (Ne.symm hj)]
      exact s.sl j t e
  nd := fun j k p hj hk => by
    obtain ⟨⟨d1, a1⟩, b1⟩ := hj
    obtain ⟨⟨d2, a2⟩, b2⟩ := hk
    by_cases h1 : j = i
    · by_cases h2 : k = i
      · rw [h1, h2]
      · subst h1
        rw [List.getElem?_set_self hi] at a1
        rw [List.getElem?_set_self (by rw [s.len]; exact hi)] at b1
        rw [List.getElem?_set_ne (Ne.symm h2)] at a2 b2
        exact absurd ⟨⟨d2, a2⟩, b2⟩ (hn d1 p k (Option.some.inj a1) (Option.some.inj (Option.some.inj b1)) h2)
    · by_cases h2 : k = i
      · subst h2
        rw [List.getElem?_set_self hi] at a2
        rw [List.getElem?_set_self (by rw [s.len]; exact hi)] at b2
        rw [List.getElem?_set_ne (Ne.symm h1)] at a1 b1
        exact absurd ⟨⟨d1, a1⟩, b1⟩ (hn d2 p j (Option.some.inj a2) (Option.some.inj (Option.some.inj b2)) h1)
      · rw [List.getElem?_set_ne (Ne.symm h1)] at a1 b1
        rw [List.getElem?_set_ne (Ne.symm h2)] at a2 b2
        exact s.nd j k p ⟨⟨d1, a1⟩, b1⟩ ⟨⟨d2, a2⟩, b2⟩
  lt := s.lt
  la := s.la
/-- no own object is at a new address -/
theorem SR.own_there (s : SR G Z F B H σ ρ) {j : Nat} {p : Addr} (h : OwnAt σ ρ j p) : (∃ o, H p = some o) ∧ B p = none := by
  obtain ⟨⟨d, a1⟩, b1⟩ := h
  obtain ⟨q, e1, e2, e3, e4⟩ := s.sl j _ a1
  rw [b1] at e1
  have e : p = q := by
    injection e1 with e1
    injection e1
  subst e
  exact ⟨e4.there, e3⟩
end

/-! ### classes -/
inductive Ty where
  | b (n : String) | o (c : Nat)
def Ty.val (G : Gm) : Ty → Value → Prop
  | .b n, v => v = .type n
  | .o c, v => ∃ C ns, G.ct c = some (C, ns) ∧ v = .ref C
/-- what the classes of a law are; the errors have numbers from 100 on; 5 and 6 are subclasses of 4 -/
def subC (c d : Nat) : Bool := c == d || (d == 4 && (c == 5 || c == 6))
def isiT : Ty → Ty → Option Bool
  | .b a, .b c => if ["NoneType", "bool", "int", "str", "list", "tuple", "dict"].contains a && ["bool", "int", "str", "list", "tuple", "dict"].contains c then some (a == c || (a == "bool" && c == "int")) else none
  | .b a, .o _ => if ["NoneType", "bool", "int", "str", "list", "tuple", "dict"].contains a then some false else none
  | .o _, .b c => if ["bool", "int", "str", "list", "tuple", "dict"].contains c then some false else none
  | .o c, .o d => if c < 100 then some (subC c d) else none
/-- what the text's classes keep -/
structure GOk (G : Gm) : Prop where
  cl : ∀ c C ns, G.ct c = some (C, ns) → c < 100 → Cls G.K C ∧ (∀ f ∈ ns, NoAttr G.K C f) ∧ ns.Nodup ∧ ns.length < 1000
  dunder : ∀ c C ns, G.ct c = some (C, ns) → c < 100 → PySem.W.findIn G.K (.ref C) "__class__" = some (some (.builtin "object.__class__")) ∧ PySem.W.mroIn G.K C (.type "object") = some true
  gs : PySem.W.specialIn G.K (.builtin "object.__class__") "__get__" = some (some (.builtin "getset_descriptor.__get__"))
  tk : PySem.W.takesIn G.K (.builtin "object.__class__") = some true
  isi : ∀ t c b tv cv, isiT t c = some b → t.val G tv → c.val G cv → PySem.W.kitOne G.K tv cv = some b

/-! ### kinds of an expression's result -/
inductive Kd where
  | shared | peek | fresh | borrow
def KR (G : Gm) (k : Kd) (H F' B' H' : Hp) (d : D) (v : V) : Prop := match k with
  | .shared => Rep G F' d v
  | .peek => Top G F' H' d v
  | .borrow => Top G F' B' d v
  | .fresh => if d.isMut = true then ∃ p, v = .ref p ∧ H p = none ∧ B' p = none ∧ OwnO G F' H' p d else Rep G F' d v

/-- the exception x, of the class at cls, its fields in the dict at dx -/
def XR (G : Gm) (F' H' : Hp) (x : Xc) (cls : Value) (dx : Option Addr) : Prop :=
  ∃ C ns, G.ct x.c = some (C, ns) ∧ cls = .ref C ∧
    ((x.fs = [] ∧ dx = none) ∨ ∃ d vs, dx = some d ∧ H' d = some (.xd (zipF ns vs)) ∧ RepL G F' x.fs vs)

def PostE (G : Gm) (W : WX) (k : Kd) (F B H : Hp) (σ : St) (Q : VK) : Except Xc D → Prop
  | .ok d => ∀ F' B' H' v, Up F B H F' B' H' → KR G k H F' B' H' d v → Q v H'
  | .error x => ∀ F' B' H' cls dx, Up F B H F' B' H' → XR G F' H' x cls dx → W cls dx σ H'
def SpecE (G : Gm) (W : WX) (k : Kd) (te : TE) (f : En → M D) : Prop :=
  ∀ Z F B H σ ρ, SR G Z F B H σ ρ → ∀ r, f ρ = some r → ∀ Q, PostE G W k F B H σ Q r → te σ H Q

/-- what a def's body knows of its context (a comprehension's block, too); k: the room -/
structure CnE (G : Gm) (k : Nat) (W : WX) (N : List Str) (sc : Scope) (X : Cx) : Prop where
  hP : X.prog = G.P
  hw : X.w = G.w
  hK : X.K = G.K
  hmg : X.mg = G.mg
  hb : X.base = G.base
  hN : X.N = N
  hsc : X.env.scope = sc
  calm : X.calm = true
  nd : N.Nodup
  room : Room k X.A
  tk : L2N.Takes X W

def JE (G : Gm) (k : Nat) (W : WX) (N : List Str) (sc : Scope) (kd : Kd) (e : Expr) (f : En → M D) : Prop :=
  ∃ te, (∀ X, CnE G k W N sc X → PE X e te) ∧ SpecE G W kd te f

section
variable {G : Gm} {k : Nat} {W : WX} {N : List Str} {sc : Scope} {kd : Kd} {e : Expr} {f : En → M D}
/-- what is never asked -/
theorem je_dead : JE G k W N sc kd e (fun _ => none) := ⟨fun _ _ _ => False, fun _ _ => ⟨fun _ _ _ _ _ _ h => h.elim⟩, fun _ _ _ _ _ _ _ _ h => nomatch h⟩
theorem JE.sh_of_fresh (h : JE G k W N sc .fresh e f) : JE G k W N sc .shared e f := by
  obtain ⟨te, h1, h2⟩ := h
  refine ⟨te, h1, fun Z F B H σ ρ s r hr Q q => h2 Z F B H σ ρ s r hr Q ?_⟩
  cases r with
  | error x => exact q
  | ok d =>
    intro F' B' H' v u hk
    by_cases hm : d.isMut = true
    · have hk : (if d.isMut = true then ∃ p, v = .ref p ∧ H p = none ∧ B' p = none ∧ OwnO G F' H' p d else Rep G F' d v) := hk
      rw [if_pos hm] at hk
      obtain ⟨p, rfl, hp, hb, ho⟩ := hk
      obtain ⟨o, h3⟩ := ho.there
      have u2 := u.share hp hb h3
      refine q _ _ H' _ u2 ?_
      have hf : F' p = none := by
        cases q : F' p with
        | none => rfl
        | some o' => rw [u.fb p o' q] at hb; cases hb
      exact OwnO.rep (ho.mono (F' := upd F' p o) (H' := upd F' p o) (fun a q e => by rw [upd_ne (ne_of_none e hf)]; exact e) fun o' e => by
        rw [h3] at e
        rw [upd_same]
        exact e)
    · have hk : (if d.isMut = true then ∃ p, v = .ref p ∧ H p = none ∧ B' p = none ∧ OwnO G F' H' p d else Rep G F' d v) := hk
      rw [if_neg hm] at hk
      exact q F' B' H' v u hk
theorem JE.pk_of_sh (h : JE G k W N sc .shared e f) : JE G k W N sc .peek e f := by
  obtain ⟨te, h1, h2⟩ := h
  refine ⟨te, h1, fun Z F B H σ ρ s r hr Q q => h2 Z F B H σ ρ s r hr Q ?_⟩
  cases r with
  | error x => exact q
  | ok d => exact fun F' B' H' v u hk => q F' B' H' v u (Top.of_rep (u.fb.trans u.bh) hk)
theorem JE.bo_of_sh (h : JE G k W N sc .shared e f) : JE G k W N sc .borrow e f := by
  obtain ⟨te, h1, h2⟩ := h
  refine ⟨te, h1, fun Z F B H σ ρ s r hr Q q => h2 Z F B H σ ρ s r hr Q ?_⟩
  cases r with
  | error x => exact q
  | ok d => exact fun F' B' H' v u hk => q F' B' H' v u (Top.of_rep u.fb hk)
theorem JE.bo_of_fresh (h : JE G k W N sc .fresh e f) : JE G k W N sc .borrow e f := h.sh_of_fresh.bo_of_sh
theorem JE.pk_of_fresh (h : JE G k W N sc .fresh e f) : JE G k W N sc .peek e f := h.sh_of_fresh.pk_of_sh
/-- a result without parts that change is shared and fresh -/
theorem KR.scal {k : Kd} {H F' B' H' : Hp} {d : D} {v : V} (hm : d.isMut = false) (h : Rep G F' d v) : KR G k H F' B' H' d v := by
  cases k with
  | shared => exact h
  | peek => show Top G F' H' d v; unfold Top; rw [if_neg (by rw [hm]; decide)]; exact h
  | fresh => show (if d.isMut = true then _ else _); rw [if_neg (by rw [hm]; decide)]; exact h
  | borrow => show Top G F' B' d v; unfold Top; rw [if_neg (by rw [hm]; decide)]; exact h
end
end DL

namespace DL
open PySem PySem.Spec L2

abbrev LIM : Nat := 16000000
theorem lim_line {n : Nat} (h : n ≤ LIM) : n ≤ sizeLine := by rw [sizeLine_eq]; exact Nat.le_trans h (by decide)
theorem lim_lt {n : Nat} (h : n ≤ LIM) : n < sizeLine := by rw [sizeLine_eq]; exact Nat.lt_of_le_of_lt h (by decide)

def up1 {α : Type} (o : Option α) : M α := o.map Except.ok
theorem up1_some {α : Type} (a : α) : up1 (some a) = some (.ok a) := rfl
theorem up1_none {α : Type} : up1 (none : Option α) = none := rfl
theorem up1_ok {α : Type} {o : Option α} {r : Except Xc α} (h : up1 o = some r) : ∃ a, o = some a ∧ r = .ok a := by
  cases o with
  | none => cases h
  | some a => exact ⟨a, rfl, (Option.some.inj h).symm⟩

/-! ### tests, arguments -/
def PostT (G : Gm) (W : WX) (F B H : Hp) (σ : L2.St) (Q : Bool → Hp → Prop) : Except Xc Bool → Prop
  | .ok b => ∀ F' B' H', Up F B H F' B' H' → Q b H'
  | .error x => ∀ F' B' H' cls dx, Up F B H F' B' H' → XR G F' H' x cls dx → W cls dx σ H'
def SpecT (G : Gm) (W : WX) (tt : TT) (f : En → M Bool) : Prop :=
  ∀ Z F B H σ ρ, SR G Z F B H σ ρ → ∀ r, f ρ = some r → ∀ Q, PostT G W F B H σ Q r → tt σ H Q
def JT (G : Gm) (k : Nat) (W : WX) (N : List Str) (sc : Scope) (e : Expr) (f : En → M Bool) : Prop :=
  ∃ tt, (∀ X, CnE G k W N sc X → PT X e tt) ∧ SpecT G W tt f
/-- .. whatever the whole is -/
def JW (G : Gm) (k : Nat) (W : WX) (N : List Str) (sc : Scope) (e : Expr) (f : En → M Bool) : Prop :=
  ∃ tt, (∀ X, CnE G k W N sc X → PW X e tt) ∧ SpecT G W tt f
inductive Arg where
  | shared | peek
def ArR (G : Gm) (F H : Hp) : List Arg → List D → List V → Prop
  | [], [], vs => vs = []
  | .shared :: ks, d :: ds, vs => ∃ v vs', vs = v :: vs' ∧ Rep G F d v ∧ ArR G F H ks ds vs'
  | .peek :: ks, d :: ds, vs => ∃ v vs', vs = v :: vs' ∧ Top G F H d v ∧ ArR G F H ks ds vs'
  | _, _, _ => False
def PostA (G : Gm) (W : WX) (ks : List Arg) (F B H : Hp) (σ : L2.St) (Q : List V → Hp → Prop) : Except Xc (List D) → Prop
  | .ok ds => ∀ F' B' H' vs, Up F B H F' B' H' → ArR G F' H' ks ds vs → Q vs H'
  | .error x => ∀ F' B' H' cls dx, Up F B H F' B' H' → XR G F' H' x cls dx → W cls dx σ H'
def SpecA (G : Gm) (W : WX) (ks : List Arg) (ta : TA) (f : En → M (List D)) : Prop :=
  ∀ Z F B H σ ρ, SR G Z F B H σ ρ → ∀ r, f ρ = some r → ∀ Q, PostA G W ks F B H σ Q r → ta σ H Q
def JA (G : Gm) (k : Nat) (W : WX) (N : List Str) (sc : Scope) (ks : List Arg) (es : List Expr) (f : En → M (List D)) : Prop :=
  ∃ ta, (∀ X, CnE G k W N sc X → PA X es ta) ∧ SpecA G W ks ta f

section
variable {G : Gm} {k : Nat} {W : WX} {N : List Str} {sc : Scope} {kd : Kd} {e a b : Expr} {f fa fb : En → M D} {pos : Pos}
theorem ArR.mono {F H F' H' : Hp} (e : Same F F') (e' : Same H H') : ∀ {ks : List Arg} {ds : List D} {vs : List V}, ArR G F H ks ds vs → ArR G F' H' ks ds vs
  | [], [], vs, h => h
  | .shared :: ks, d :: ds, vs, h => by
    obtain ⟨v, vs', rfl, h1, h2⟩ := h
    exact ⟨v, vs', rfl, h1.mono e, ArR.mono e e' h2⟩
  | .peek :: ks, d :: ds, vs, h => by
    obtain ⟨v, vs', rfl, h1, h2⟩ := h
    exact ⟨v, vs', rfl, h1.mono e e', ArR.mono e e' h2⟩
  | [], _ :: _, _, h => h.elim
  | .shared :: _, [], _, h => h.elim
  | .peek :: _, [], _, h => h.elim

/-! ### names -/
def visB (sc : Scope) (x : Str) : Bool := match sc.names.lookup x with
  | some .local => true
  | some .cell => true
  | some .free => true
  | _ => false
theorem vis_of {sc : Scope} {x : Str} (h : visB sc x = true) : Vis sc x := by
  unfold visB at h
  unfold Vis
  split at h
  · rename_i e; exact .inl e
  · rename_i e; exact .inr (.inl e)
  · rename_i e; exact .inr (.inr e)
  · cases h
def glB (sc : Scope) (x : Str) : Bool := match sc.names.lookup x with
  | some .globalImplicit => true
  | _ => false
theorem gl_of {X : Cx} {sc : Scope} {x : Str} (hs : X.env.scope = sc) (h : glB sc x = true) : Gl X x := by
  unfold glB at h
  unfold Gl Env.kindOf
  rw [hs]
  split at h
  · assumption
  · cases h
/-- a name, read as it stands -/
def fVarP (i : Nat) : En → M D := fun ρ => match ρ[i]? with
  | some (.sh d) => some (.ok d)
  | some (.bo d) => some (.ok d)
  | some (.ow d) => some (.ok d)
  | some (.mu d) => some (.ok d)
  | some (.ln d) => some (.ok d)
  | _ => none
/-- a name, handed on -/
def fVarS (i : Nat) : En → M D := fun ρ => match ρ[i]? with
  | some (.sh d) => some (.ok d)
  | some (.bo d) => if d.isMut = true then none else some (.ok d)
  | _ => none
theorem SR.at {Z : Zn} {F B H : Hp} {σ : L2.St} {ρ : En} (s : SR G Z F B H σ ρ) {i : Nat} {q : Sl} (e : ρ[i]? = some q) {v : V} (h : (σ[i]?).join = some v) : σ[i]? = some (some v) := by
  cases q : σ[i]? with
  | none => rw [q] at h; cases h
  | some o => rw [q] at h; exact congrArg some h
theorem je_varP {i : Nat} {x : Str} (hi : N[i]? = some x) (hv : visB sc x = true) (hd : (x == ("__debug__" : Str)) = false) (hcd : (x == ("__classdict__" : Str)) = false) : JE G k W N sc .peek (.Name x pos) (fVarP i) := by
  refine ⟨tVar i, fun X c => pe_var (by rw [c.hN]; exact hi) (by rw [c.hsc]; exact vis_of hv) hd hcd, fun Z F B H σ ρ s r hr Q q => ?_⟩
  unfold fVarP at hr
  have key : ∀ (d : D) (v : V), (σ[i]?).join = some v → some (Except.ok d : Except Xc D) = some r → Top G F H d v → (∃ t, ρ[i]? = some t) → tVar i σ H Q := fun d v h1 h2 h3 h4 => by
    obtain ⟨t, ht⟩ := h4
    have e := Option.some.inj h2
    subst e
    exact ⟨v, s.at ht h1, q F B H v (Up.refl s.fb s.bh) h3⟩
  cases e : ρ[i]? with
  | none => rw [e] at hr; cases hr
  | some t =>
    rw [e] at hr
    have h := s.sl i t e
    cases t with
    | un => cases hr
    | sh d =>
      obtain ⟨v, e1, e2⟩ := h
      exact key d v e1 hr (Top.of_rep (s.fb.trans s.bh) e2) ⟨_, e⟩
    | bo d =>
      obtain ⟨v, e1, e2⟩ := h
      exact key d v e1 hr (e2.mono (Same.refl _) (s.zb.trans s.bh)) ⟨_, e⟩
    | ow d =>
      obtain ⟨p, e1, e2, e3, e4⟩ := h
      refine key d _ e1 hr ?_ ⟨_, e⟩
      unfold Top
      split
      · exact ⟨p, rfl, e4⟩
      · rename_i hm
        cases d <;> first | exact e4.elim | exact absurd rfl hm
    | mu d =>
      obtain ⟨p, e1, e2, e3, e4⟩ := h
      refine key d _ e1 hr ?_ ⟨_, e⟩
      unfold Top
      split
      · exact ⟨p, rfl, e4⟩
      · rename_i hm
        cases d <;> first | exact e4.elim | exact absurd rfl hm
    | ln d =>
      obtain ⟨p, e1, e2, e4⟩ := h
      refine key d _ e1 hr ?_ ⟨_, e⟩
      unfold Top
      split
      · exact ⟨p, rfl, e4.mono (Same.refl _) (s.bh p)⟩
      · rename_i hm
        cases d <;> first | exact e4.elim | exact absurd rfl hm
theorem je_varS {i : Nat} {x : Str} (hi : N[i]? = some x) (hv : visB sc x = true) (hd : (x == ("__debug__" : Str)) = false) (hcd : (x == ("__classdict__" : Str)) = false) : JE G k W N sc .shared (.Name x pos) (fVarS i) := by
  refine ⟨tVar i, fun X c => pe_var (by rw [c.hN]; exact hi) (by rw [c.hsc]; exact vis_of hv) hd hcd, fun Z F B H σ ρ s r hr Q q => ?_⟩
  unfold fVarS at hr
  cases e : ρ[i]? with
  | none => rw [e] at hr; cases hr
  | some t =>
    rw [e] at hr
    have h := s.sl i t e
    cases t with
    | un => cases hr
    | sh d =>
      obtain ⟨v, e1, e2⟩ := h
      have e' : Except.ok d = r := Option.some.inj hr
      subst e'
      exact ⟨v, s.at e e1, q F B H v (Up.refl s.fb s.bh) e2⟩
    | bo d =>
      obtain ⟨v, e1, e2⟩ := h
      have hr : (if d.isMut = true then none else some (Except.ok d)) = some r := hr
      by_cases hm : d.isMut = true
      · rw [if_pos hm] at hr; cases hr
      · rw [if_neg hm] at hr
        have e' : Except.ok d = r := Option.some.inj hr
        subst e'
        exact ⟨v, s.at e e1, q F B H v (Up.refl s.fb s.bh) (Top.rep_of (by simpa using hm) e2)⟩
    | ow d => cases hr
    | mu d => cases hr
    | ln d => cases hr

/-- a name whose object nobody changes meanwhile -/
def fVarB (i : Nat) : En → M D := fun ρ => match ρ[i]? with
  | some (.sh d) => some (.ok d)
  | some (.bo d) => some (.ok d)
  | some (.ln d) => some (.ok d)
  | _ => none
theorem je_varB {i : Nat} {x : Str} (hi : N[i]? = some x) (hv : visB sc x = true) (hd : (x == ("__debug__" : Str)) = false) (hcd : (x == ("__classdict__" : Str)) = false) : JE G k W N sc .borrow (.Name x pos) (fVarB i) := by
  refine ⟨tVar i, fun X c => pe_var (by rw [c.hN]; exact hi) (by rw [c.hsc]; exact vis_of hv) hd hcd, fun Z F B H σ ρ s r hr Q q => ?_⟩
  unfold fVarB at hr
  cases e : ρ[i]? with
  | none => rw [e] at hr; cases hr
  | some t =>
    rw [e] at hr
    have h := s.sl i t e
    cases t with
    | un => cases hr
    | sh d =>
      obtain ⟨v, e1, e2⟩ := h
      have e' : Except.ok d = r := Option.some.inj hr
      subst e'
      exact ⟨v, s.at e e1, q F B H v (Up.refl s.fb s.bh) (Top.of_rep s.fb e2)⟩
    | bo d =>
      obtain ⟨v, e1, e2⟩ := h
      have e' : Except.ok d = r := Option.some.inj hr
      subst e'
      exact ⟨v, s.at e e1, q F B H v (Up.refl s.fb s.bh) (e2.mono (Same.refl _) s.zb)⟩
    | ow d => cases hr
    | mu d => cases hr
    | ln d =>
      obtain ⟨p, e1, e2, e4⟩ := h
      have e' : Except.ok d = r := Option.some.inj hr
      subst e'
      refine ⟨_, s.at e e1, q F B H _ (Up.refl s.fb s.bh) ?_⟩
      show Top G F B d (.ref p)
      unfold Top
      split
      · exact ⟨p, rfl, e4⟩
      · rename_i hm
        cases d <;> first | exact e4.elim | exact absurd rfl hm

/-! ### constants -/
def fC (d : D) : En → M D := fun _ => some (.ok d)
theorem spec_c {d : D} {v : V} (hm : d.isMut = false) (h : ∀ H, Rep G H d v) : SpecE G W kd (tC v) (fC d) := fun Z F B H σ ρ s r hr Q q => by
  have e : Except.ok d = r := Option.some.inj hr
  subst e
  exact q F B H v (Up.refl s.fb s.bh) (KR.scal hm (h F))
theorem je_int {i : Int} {j : Nat} : JE G k W N sc kd (.Constant (.int i) j pos) (fC (.int i)) := ⟨_, fun _ _ => pe_int, spec_c rfl fun _ => rfl⟩
theorem je_bl {i : Bool} {j : Nat} : JE G k W N sc kd (.Constant (.bool i) j pos) (fC (.bl i)) := ⟨_, fun _ _ => pe_bl, spec_c rfl fun _ => rfl⟩
theorem je_str {i : Str} {j : Nat} : JE G k W N sc kd (.Constant (.str i) j pos) (fC (.str i)) := ⟨_, fun _ _ => pe_str, spec_c rfl fun _ => rfl⟩
theorem je_non {j : Nat} : JE G k W N sc kd (.Constant .none j pos) (fC .non) := ⟨_, fun _ _ => pe_non, spec_c rfl fun _ => rfl⟩

/-! ### operators -/
def PostV (G : Gm) (kd : Kd) (F B H : Hp) (Q : VK) (d : D) : Prop := ∀ F' B' H' v, Up F B H F' B' H' → KR G kd H F' B' H' d v → Q v H'
def OpS (G : Gm) (kd : Kd) (r : R2) (op : D → D → Option D) : Prop := ∀ F B H, Same F B → Same B H → ∀ x y v w, Top G F H x v → Top G F H y w → ∀ d, op x y = some d → ∀ Q, PostV G kd F B H Q d → r v w H Q
def UnS (G : Gm) (kd : Kd) (r : V → Hp → VK → Prop) (op : D → Option D) : Prop := ∀ F B H, Same F B → Same B H → ∀ x v, Top G F H x v → ∀ d, op x = some d → ∀ Q, PostV G kd F B H Q d → r v H Q
def CaS (G : Gm) (kd : Kd) (r : List V → Hp → VK → Prop) (ks : List Arg) (op : List D → Option D) : Prop := ∀ F B H, Same F B → Same B H → ∀ xs vs, ArR G F H ks xs vs → ∀ d, op xs = some d → ∀ Q, PostV G kd F B H Q d → r vs H Q
def fBin (op : D → D → Option D) (fa fb : En → M D) : En → M D := fun ρ => (fa ρ).bnd fun x => (fb ρ).bnd fun y => up1 (op x y)
def fUn (op : D → Option D) (fa : En → M D) : En → M D := fun ρ => (fa ρ).bnd fun x => up1 (op x)
theorem KR.weak {kd : Kd} {H H1 F' B' H' : Hp} {d : D} {v : V} (e : Same H H1) (h : KR G kd H1 F' B' H' d v) : KR G kd H F' B' H' d v := by
  cases kd with
  | shared => exact h
  | peek => exact h
  | borrow => exact h
  | fresh =>
    have h : (if d.isMut = true then ∃ p, v = .ref p ∧ H1 p = none ∧ B' p = none ∧ OwnO G F' H' p d else Rep G F' d v) := h
    show (if d.isMut = true then ∃ p, v = .ref p ∧ H p = none ∧ B' p = none ∧ OwnO G F' H' p d else Rep G F' d v)
    by_cases hm : d.isMut = true
    · rw [if_pos hm] at h ⊢
      obtain ⟨p, e1, e2, e3⟩ := h
      exact ⟨p, e1, e.free e2, e3⟩
    · rw [if_neg hm] at h ⊢
      exact h
theorem PostE.weak {F B H F1 B1 H1 : Hp} {σ : L2.St} {Q : VK} {r : Except Xc D} (u : Up F B H F1 B1 H1) (q : PostE G W kd F B H σ Q r) : PostE G W kd F1 B1 H1 σ Q r := by
  cases r with
  | ok d => exact fun F' B' H' v u' hk => q F' B' H' v (u.trans u') (hk.weak u.h)
  | error x => exact fun F' B' H' cls dx u' hx => q F' B' H' cls dx (u.trans u') hx
theorem PostT.weak {F B H F1 B1 H1 : Hp} {σ : L2.St} {Q : Bool → Hp → Prop} {r : Except Xc Bool} (u : Up F B H F1 B1 H1) (q : PostT G W F B H σ Q r) : PostT G W F1 B1 H1 σ Q r := by
  cases r with
  | ok d => exact fun F' B' H' u' => q F' B' H' (u.trans u')
  | error x => exact fun F' B' H' cls dx u' hx => q F' B' H' cls dx (u.trans u') hx
theorem PostA.weak {ks : List Arg} {F B H F1 B1 H1 : Hp} {σ : L2.St} {Q : List V → Hp → Prop} {r : Except Xc (List D)} (u : Up F B H F1 B1 H1) (q : PostA G W ks F B H σ Q r) : PostA G W ks F1 B1 H1 σ Q r := by
  cases r with
  | ok d => exact fun F' B' H' vs u' hk => q F' B' H' vs (u.trans u') hk
  | error x => exact fun F' B' H' cls dx u' hx => q F' B' H' cls dx (u.trans u') hx
theorem PostE.v {F B H : Hp} {σ : L2.St} {Q : VK} {d : D} (q : PostE G W kd F B H σ Q (.ok d)) : PostV G kd F B H Q d := q

theorem spec_bin {ta tb : TE} {r : R2} {op : D → D → Option D} (ha : SpecE G W .peek ta fa) (hb : SpecE G W .peek tb fb) (ho : OpS G kd r op) : SpecE G W kd (tOp r ta tb) (fBin op fa fb) := by
  intro Z F B H σ ρ s r' hr Q q
  rcases bnd_some hr with ⟨x, ex, hr⟩ | ⟨x, ex, rfl⟩
  · refine ha Z F B H σ ρ s _ ex _ fun F1 B1 H1 v1 u1 k1 => ?_
    rcases bnd_some hr with ⟨y, ey, hr⟩ | ⟨y, ey, rfl⟩
    · refine hb Z F1 B1 H1 σ ρ (s.up u1) _ ey _ fun F2 B2 H2 v2 u2 k2 => ?_
      obtain ⟨d, ed, rfl⟩ := up1_ok hr
      exact ho F2 B2 H2 u2.fb u2.bh x y v1 v2 (Top.mono u2.f u2.h k1) k2 d ed Q (q.weak (u1.trans u2))
    · exact hb Z F1 B1 H1 σ ρ (s.up u1) _ ey _ (fun F' B' H' cls dx u hx => q F' B' H' cls dx (u1.trans u) hx)
  · exact ha Z F B H σ ρ s _ ex _ q
theorem je_bin {o : Operator} {r : R2} {op : D → D → Option D} (hr : ∀ X, CnE G k W N sc X → OpR X (binaryOp o) r) (ho : OpS G kd r op) (ha : JE G k W N sc .peek a fa) (hb : JE G k W N sc .peek b fb) : JE G k W N sc kd (.BinOp a o b pos) (fBin op fa fb) := by
  obtain ⟨ta, a1, a2⟩ := ha
  obtain ⟨tb, b1, b2⟩ := hb
  exact ⟨_, fun X c => pe_op (hr X c) (a1 X c) (b1 X c), spec_bin a2 b2 ho⟩
theorem je_cmp {o : CmpOp} {r : R2} {op : D → D → Option D} (hr : ∀ X, CnE G k W N sc X → OpR X (compareOp o) r) (ho : OpS G kd r op) (ha : JE G k W N sc .peek a fa) (hb : JE G k W N sc .peek b fb) (hm : behindInMarks o b = false) : JE G k W N sc kd (.Compare a [o] [b] pos) (fBin op fa fb) := by
  obtain ⟨ta, a1, a2⟩ := ha
  obtain ⟨tb, b1, b2⟩ := hb
  exact ⟨_, fun X c => pe_cmpR (hr X c) (a1 X c) (b1 X c) hm, spec_bin a2 b2 ho⟩
def isBl : D → Option Bool
  | .bl b => some b
  | _ => none
/-- an expression whose value is a bool, as a test -/
def fTst (f : En → M D) : En → M Bool := fun ρ => (f ρ).bnd fun x => up1 (isBl x)
theorem isBl_some {d : D} {b : Bool} (h : isBl d = some b) : d = .bl b := by
  cases d <;> first | (cases h; rfl) | cases h
theorem spec_tst {te : TE} (h : SpecE G W .peek te f) : SpecT G W (tTest te) (fTst f) := by
  intro Z F B H σ ρ s r hr Q q
  rcases bnd_some hr with ⟨x, ex, hr⟩ | ⟨x, ex, rfl⟩
  · refine h Z F B H σ ρ s _ ex _ fun F1 B1 H1 v1 u1 k1 => ?_
    obtain ⟨b, eb, rfl⟩ := up1_ok hr
    rw [isBl_some eb] at k1
    exact ⟨b, k1, q F1 B1 H1 u1⟩
  · exact h Z F B H σ ρ s _ ex _ q
theorem jt_cmp {o : CmpOp} {r : R2} {op : D → D → Option D} (hr : ∀ X, CnE G k W N sc X → OpR X (compareOp o) r) (ho : OpS G .peek r op) (ha : JE G k W N sc .peek a fa) (hb : JE G k W N sc .peek b fb) (hm : behindInMarks o b = false) : JT G k W N sc (.Compare a [o] [b] pos) (fTst (fBin op fa fb)) := by
  obtain ⟨ta, a1, a2⟩ := ha
  obtain ⟨tb, b1, b2⟩ := hb
  exact ⟨_, fun X c => pt_cmpR (hr X c) (a1 X c) (b1 X c) hm, spec_tst (spec_bin a2 b2 ho)⟩
/-- a test by any expression that gives a bool -/
theorem jt_val (h : JE G k W N sc .peek e f) (he : ∀ (X : Cx) whole, isTrue e X.env whole = (do let v ← whole; standAt e.pos; holding [v] (truthy v))) : JT G k W N sc e (fTst f) := by
  obtain ⟨te, h1, h2⟩ := h
  exact ⟨_, fun X c => pt_val (h1 X c) (he X), spec_tst h2⟩
end
end DL

namespace DL
open PySem PySem.Spec L2

section
variable {G : Gm} {kd : Kd} {F B H : Hp} {Q : VK}
theorem none_of_same {H H' : Hp} (e : Same H H') {p : Addr} (h : H' p = none) : H p = none := e.free h
theorem PostV.here {d : D} {v : V} (q : PostV G kd F B H Q d) (fb : Same F B) (bh : Same B H) (hm : d.isMut = false) (h : Rep G F d v) : Q v H := q F B H v (Up.refl fb bh) (KR.scal hm h)
theorem PostV.newL {ds : List D} {vs : List V} {p : Addr} (q : PostV G .fresh F B H Q (.lst ds)) (fb : Same F B) (bh : Same B H) (h : RepL G F ds vs) (hp : H p = none) : Q (.ref p) (upd H p (.lst vs)) :=
  q F B _ _ (Up.new fb bh hp) ⟨p, rfl, hp, bh.free hp, vs, upd_same, h⟩
theorem PostV.newT {ds : List D} {vs : List V} (q : PostV G kd F B H Q (.tup ds)) (fb : Same F B) (bh : Same B H) (h : RepL G F ds vs) : NewT H vs Q := fun p o hp hd => by
  have u := (Up.new (o := .frz o (.tup vs)) fb bh hp).share hp (bh.free hp) upd_same
  exact q _ _ _ _ u (KR.scal rfl ⟨p, vs, rfl, GT.of upd_same hd, h.mono u.f⟩)
theorem topL {ds : List D} {v : V} (h : Top G F H (.lst ds) v) : ∃ p vs, v = .ref p ∧ H p = some (.lst vs) ∧ RepL G F ds vs := by
  obtain ⟨p, e, vs, h1, h2⟩ := h
  exact ⟨p, vs, e, h1, h2⟩
theorem topT {ds : List D} {v : V} (fh : Same F H) (h : Top G F H (.tup ds) v) : ∃ p vs, v = .ref p ∧ SqT G.K H p vs ∧ RepL G F ds vs := by
  obtain ⟨p, vs, e, h1, h2⟩ := h
  exact ⟨p, vs, e, (h1.mono fh).sq, h2⟩
theorem topG {ds : List D} {v : V} (fh : Same F H) (h : Top G F H (.tup ds) v) : ∃ p vs, v = .ref p ∧ GT G.K H p vs ∧ RepL G F ds vs := by
  obtain ⟨p, vs, e, h1, h2⟩ := h
  exact ⟨p, vs, e, h1.mono fh, h2⟩
theorem topS {l : List Int} {v : V} (fh : Same F H) (h : Top G F H (.scr l) v) : ∃ p, v = .ref p ∧ SqL G.K H p (l.map V.int) := by
  obtain ⟨p, e, h1⟩ := h
  exact ⟨p, e, fh.seq h1⟩
end

/-! ### alternatives -/
def orO (o1 o2 : D → D → Option D) : D → D → Option D := fun x y => (o1 x y).or (o2 x y)
theorem OpS.or {G : Gm} {kd : Kd} {r1 r2 : R2} {o1 o2 : D → D → Option D} (h1 : OpS G kd r1 o1) (h2 : OpS G kd r2 o2) : OpS G kd (fun x y H Q => r1 x y H Q ∨ r2 x y H Q) (orO o1 o2) := by
  intro F B H fb bh x y v w hx hy d hd Q q
  unfold orO at hd
  cases e : o1 x y with
  | some d' =>
    rw [e] at hd
    have e' : d' = d := Option.some.inj hd
    subst e'
    exact .inl (h1 F B H fb bh x y v w hx hy _ e Q q)
  | none =>
    rw [e] at hd
    exact .inr (h2 F B H fb bh x y v w hx hy d hd Q q)
def orC (o1 o2 : List D → Option D) : List D → Option D := fun x => (o1 x).or (o2 x)
theorem CaS.or {G : Gm} {kd : Kd} {r1 r2 : List V → Hp → VK → Prop} {ks : List Arg} {o1 o2 : List D → Option D} (h1 : CaS G kd r1 ks o1) (h2 : CaS G kd r2 ks o2) : CaS G kd (fun x H Q => r1 x H Q ∨ r2 x H Q) ks (orC o1 o2) := by
  intro F B H fb bh x v hx d hd Q q
  unfold orC at hd
  cases e : o1 x with
  | some d' =>
    rw [e] at hd
    have e' : d' = d := Option.some.inj hd
    subst e'
    exact .inl (h1 F B H fb bh x v hx _ e Q q)
  | none =>
    rw [e] at hd
    exact .inr (h2 F B H fb bh x v hx d hd Q q)

section
variable {G : Gm} {kd : Kd}
/-- two ints -/
def o2I (C : Int → Int → Bool) (g : Int → Int → D) : D → D → Option D
  | .int i, .int j => if C i j = true then some (g i j) else none
  | _, _ => none
theorem s2I {C : Int → Int → Prop} {c : Int → Int → Bool} {g : Int → Int → D} {gv : Int → Int → V} (hc : ∀ i j, c i j = true → C i j) (hm : ∀ i j, (g i j).isMut = false) (hg : ∀ i j F, Rep G F (g i j) (gv i j)) : OpS G kd (rI C gv) (o2I c g) := by
  intro F B H fb bh x y v w hx hy d hd Q q
  unfold o2I at hd
  split at hd
  · rename_i i j
    split at hd
    · rename_i h
      have e := Option.some.inj hd
      subst e
      exact ⟨i, j, hx, hy, hc i j h, q.here fb bh (hm i j) (hg i j F)⟩
    · cases hd
  · cases hd
def o2I0 (g : Int → Int → D) : D → D → Option D
  | .int i, .int j => some (g i j)
  | _, _ => none
theorem s2I0 {g : Int → Int → D} {gv : Int → Int → V} (hm : ∀ i j, (g i j).isMut = false) (hg : ∀ i j F, Rep G F (g i j) (gv i j)) : OpS G kd (rI0 gv) (o2I0 g) := by
  intro F B H fb bh x y v w hx hy d hd Q q
  unfold o2I0 at hd
  split at hd
  · rename_i i j
    have e := Option.some.inj hd
    subst e
    exact ⟨i, j, hx, hy, q.here fb bh (hm i j) (hg i j F)⟩
  · cases hd
/-! +, list, tuple, text -/
def addT : D → D → Option D
  | .tup xs, .tup ys => if xs.length + ys.length ≤ LIM then some (.tup (xs ++ ys)) else none
  | _, _ => none
theorem s_addT : OpS G kd (rCatF G.K) addT := by
  intro F B H fb bh x y v w hx hy d hd Q q
  unfold addT at hd
  split at hd
  · rename_i xs ys
    split at hd
    · rename_i h
      have e := Option.some.inj hd
      subst e
      obtain ⟨p, vs, rfl, h1, h2⟩ := topT (fb.trans bh) hx
      obtain ⟨p', vs', rfl, h1', h2'⟩ := topT (fb.trans bh) hy
      refine ⟨p, p', vs, vs', rfl, rfl, h1, h1', lim_line (by rw [h2.length, h2'.length]; exact h), fun e => ?_, fun e e' => ?_, fun e e' => q.newT fb bh (h2.app h2')⟩
      · have e0 : xs = [] := List.eq_nil_of_length_eq_zero (by rw [← h2.length, e]; rfl)
        subst e0
        exact q.here fb bh rfl hy
      · have e0 : ys = [] := List.eq_nil_of_length_eq_zero (by rw [← h2'.length, e']; rfl)
        subst e0
        refine q.here fb bh rfl ?_
        rw [List.append_nil]
        exact hx
    · cases hd
  · cases hd
def addL : D → D → Option D
  | .lst xs, .lst ys => if xs.length + ys.length ≤ LIM then some (.lst (xs ++ ys)) else none
  | _, _ => none
theorem s_addL : OpS G .fresh rCat addL := by
  intro F B H fb bh x y v w hx hy d hd Q q
  unfold addL at hd
  split at hd
  · rename_i xs ys
    split at hd
    · rename_i h
      have e := Option.some.inj hd
      subst e
      obtain ⟨p, vs, rfl, h1, h2⟩ := topL hx
      obtain ⟨p', vs', rfl, h1', h2'⟩ := topL hy
      exact ⟨p, p', vs, vs', rfl, rfl, h1, h1', lim_line (by rw [h2.length, h2'.length]; exact h), fun a ha => q.newL fb bh (h2.app h2') ha⟩
    · cases hd
  · cases hd
def addS : D → D → Option D
  | .str x, .str y => if x.length + y.length ≤ LIM then some (.str (x ++ y)) else none
  | _, _ => none
def rAddStr : R2 := fun x y H Q => ∃ i j, x = .str i ∧ y = .str j ∧ i.length + j.length ≤ sizeLine ∧ Q (.str (i ++ j)) H
theorem s_addS : OpS G kd rAddStr addS := by
  intro F B H fb bh x y v w hx hy d hd Q q
  unfold addS at hd
  split at hd
  · rename_i x y
    split at hd
    · rename_i h
      have e := Option.some.inj hd
      subst e
      exact ⟨x, y, hx, hy, lim_line h, q.here fb bh rfl rfl⟩
    · cases hd
  · cases hd
def D.add : D → D → Option D := orO (o2I0 fun i j => .int (i + j)) (orO addT (orO addL addS))
def rAddD (K : PySem.W.Frag) : R2 := fun x y H Q => (rI0 fun i j => .int (i + j)) x y H Q ∨ (fun x y H Q => rCatF K x y H Q ∨ (fun x y H Q => rCat x y H Q ∨ rAddStr x y H Q) x y H Q) x y H Q
theorem s_add : OpS G .fresh (rAddD G.K) D.add := (s2I0 (g := fun i j => .int (i + j)) (gv := fun i j => .int (i + j)) (fun _ _ => rfl) fun _ _ _ => rfl).or (s_addT.or (s_addL.or s_addS))
theorem op_addD {X : Cx} : OpR X (binaryOp .Add) (rAddD X.K) := op_add.or (op_catF.or (op_cat.or op_add_str))
def D.sub : D → D → Option D := o2I0 fun i j => .int (i - j)
def cMod (i j : Int) : Bool := decide (0 < j)
def D.mod : D → D → Option D := o2I cMod fun i j => .int (i % j)
def cDiv (i j : Int) : Bool := decide (0 < j) && decide (j < 1073741824)
def D.div : D → D → Option D := o2I cDiv fun i j => .int (i / j)
def cPow (i j : Int) : Bool := decide (0 ≤ j) && decide (j ≤ 1000000) && decide (i.natAbs < 2 ^ 64)
def D.pow : D → D → Option D := o2I cPow fun i j => .int (i ^ j.toNat)
def cMul (i j : Int) : Bool := (decide (-(2 ^ 64) < i) && decide (i < 2 ^ 64)) || (decide (-(2 ^ 64) < j) && decide (j < 2 ^ 64))
def mulI : D → D → Option D := o2I cMul fun i j => .int (i * j)
def mulL : D → D → Option D
  | .lst xs, .int n => if -1000000 ≤ n ∧ n ≤ 1000000 ∧ xs.length * n.toNat ≤ LIM then some (.lst (List.replicate n.toNat xs).flatten) else none
  | _, _ => none
theorem RepL.rep {F : Hp} {ds : List D} {vs : List V} (h : RepL G F ds vs) : ∀ n : Nat, RepL G F (List.replicate n ds).flatten (List.replicate n vs).flatten
  | 0 => rfl
  | n + 1 => by
    rw [List.replicate_succ, List.replicate_succ, List.flatten_cons, List.flatten_cons]
    exact h.app (RepL.rep h n)
theorem s_mulL : OpS G .fresh rRep mulL := by
  intro F B H fb bh x y v w hx hy d hd Q q
  unfold mulL at hd
  split at hd
  · rename_i xs n
    split at hd
    · rename_i h
      obtain ⟨ha, hb, hc⟩ := h
      have e := Option.some.inj hd
      subst e
      obtain ⟨p, vs, rfl, h1, h2⟩ := topL hx
      exact ⟨p, n, vs, rfl, hy, h1, by omega, by omega, lim_line (by rw [h2.length]; exact hc), fun a ha => q.newL fb bh (h2.rep n.toNat) ha⟩
    · cases hd
  · cases hd
def D.mul : D → D → Option D := orO mulI mulL
def rMulD : R2 := fun x y H Q => (rI CMul fun i j => .int (i * j)) x y H Q ∨ rRep x y H Q
theorem s_mulI : OpS G kd (rI CMul fun i j => .int (i * j)) mulI := s2I (fun i j h => by
  unfold cMul at h
  simp only [Bool.or_eq_true, Bool.and_eq_true, decide_eq_true_eq] at h
  exact h) (fun _ _ => rfl) fun _ _ _ => rfl
theorem s_mul : OpS G .fresh rMulD D.mul := s_mulI.or s_mulL
theorem op_mulD {X : Cx} : OpR X (binaryOp .Mult) rMulD := op_mul.or op_rep
variable {k : Nat} {W : WX} {N : List Str} {sc : Scope} {e a b : Expr} {f fa fb : En → M D} {pos : Pos}
theorem je_add (ha : JE G k W N sc .peek a fa) (hb : JE G k W N sc .peek b fb) : JE G k W N sc .fresh (.BinOp a .Add b pos) (fBin D.add fa fb) := je_bin (fun X c => by rw [← c.hK]; exact op_addD) s_add ha hb
theorem je_sub (ha : JE G k W N sc .peek a fa) (hb : JE G k W N sc .peek b fb) : JE G k W N sc kd (.BinOp a .Sub b pos) (fBin D.sub fa fb) := je_bin (fun X c => op_sub) (s2I0 (fun _ _ => rfl) fun _ _ _ => rfl) ha hb
theorem je_mod (ha : JE G k W N sc .peek a fa) (hb : JE G k W N sc .peek b fb) : JE G k W N sc kd (.BinOp a .Mod b pos) (fBin D.mod fa fb) := je_bin (fun X c => op_mod) (s2I (fun i j h => of_decide_eq_true h) (fun _ _ => rfl) fun _ _ _ => rfl) ha hb
theorem je_div (ha : JE G k W N sc .peek a fa) (hb : JE G k W N sc .peek b fb) : JE G k W N sc kd (.BinOp a .FloorDiv b pos) (fBin D.div fa fb) := je_bin (fun X c => op_fdiv) (s2I (fun i j h => by
  unfold cDiv at h
  simp only [Bool.and_eq_true, decide_eq_true_eq] at h
  exact h) (fun _ _ => rfl) fun _ _ _ => rfl) ha hb
theorem je_pow (ha : JE G k W N sc .peek a fa) (hb : JE G k W N sc .peek b fb) : JE G k W N sc kd (.BinOp a .Pow b pos) (fBin D.pow fa fb) := je_bin (fun X c => op_pow) (s2I (fun i j h => by
  unfold cPow at h
  simp only [Bool.and_eq_true, decide_eq_true_eq] at h
  exact ⟨h.1.1, h.1.2, h.2⟩) (fun _ _ => rfl) fun _ _ _ => rfl) ha hb
theorem je_mul (ha : JE G k W N sc .peek a fa) (hb : JE G k W N sc .peek b fb) : JE G k W N sc .fresh (.BinOp a .Mult b pos) (fBin D.mul fa fb) := je_bin (fun X c => op_mulD) s_mul ha hb
/-! comparisons -/
def rLexLeT (K : PySem.W.Frag) := rLeT K
def ints? : List D → Option (List Int)
  | [] => some []
  | .int i :: ds => (ints? ds).map (i :: ·)
  | _ :: _ => none
theorem ints?_eq : ∀ {ds : List D} {ns : List Int}, ints? ds = some ns → ds = ns.map D.int
  | [], ns, h => by
    have e := Option.some.inj h
    subst e
    rfl
  | .int i :: ds, ns, h => by
    have h : (ints? ds).map (i :: ·) = some ns := h
    cases e : ints? ds with
    | none => rw [e] at h; cases h
    | some ms =>
      rw [e] at h
      have e2 := Option.some.inj h
      subst e2
      rw [ints?_eq e]
      rfl
  | .non :: _, _, h => nomatch h
  | .bl _ :: _, _, h => nomatch h
  | .str _ :: _, _, h => nomatch h
  | .tup _ :: _, _, h => nomatch h
  | .lst _ :: _, _, h => nomatch h
  | .dct _ :: _, _, h => nomatch h
  | .obj _ _ :: _, _, h => nomatch h
  | .scr _ :: _, _, h => nomatch h
  | .typ _ :: _, _, h => nomatch h
  | .cls _ :: _, _, h => nomatch h
theorem ints?_map : ∀ ns : List Int, ints? (ns.map D.int) = some ns
  | [] => rfl
  | n :: ns => by
    show (ints? (ns.map D.int)).map (n :: ·) = some (n :: ns)
    rw [ints?_map ns]
    rfl
def ltT : D → D → Option D
  | .tup xs, .tup ys => match ints? xs, ints? ys with
    | some ns, some ms => some (.bl (HT.lexLt ns ms))
    | _, _ => none
  | _, _ => none
theorem s_ltT : OpS G kd (rLtT G.K) ltT := by
  intro F B H fb bh x y v w hx hy d hd Q q
  unfold ltT at hd
  split at hd
  · rename_i xs ys
    split at hd
    · rename_i ns ms e1 e2
      have e := Option.some.inj hd
      subst e
      obtain ⟨p, vs, rfl, h1, h2⟩ := topT (fb.trans bh) hx
      obtain ⟨p', vs', rfl, h1', h2'⟩ := topT (fb.trans bh) hy
      rw [ints?_eq e1] at h2
      rw [ints?_eq e2] at h2'
      rw [h2.ints] at h1
      rw [h2'.ints] at h1'
      exact ⟨p, p', ns, ms, rfl, rfl, h1, h1', q.here fb bh rfl rfl⟩
    · cases hd
  · cases hd
def D.lt : D → D → Option D := orO (o2I0 fun i j => .bl (decide (i < j))) ltT
def D.le : D → D → Option D := o2I0 fun i j => .bl (decide (i ≤ j))
def D.gt : D → D → Option D := o2I0 fun i j => .bl (decide (j < i))
def D.ge : D → D → Option D := o2I0 fun i j => .bl (decide (j ≤ i))
theorem s_lt : OpS G kd (fun x y H Q => rI0 (fun i j => .bl (decide (i < j))) x y H Q ∨ rLtT G.K x y H Q) D.lt := (s2I0 (g := fun i j => .bl (decide (i < j))) (gv := fun i j => .bl (decide (i < j))) (fun _ _ => rfl) fun _ _ _ => rfl).or s_ltT
theorem hu0 {X : Cx} (c : CnE G k W N sc X) : X.A.units < cLine := by have := c.room.units; omega
theorem hu64 {X : Cx} (c : CnE G k W N sc X) : X.A.units + 64 < cLine := c.room.units
theorem op_ltD {X : Cx} (c : CnE G k W N sc X) : OpR X (compareOp .Lt) (fun x y H Q => rI0 (fun i j => .bl (decide (i < j))) x y H Q ∨ rLtT G.K x y H Q) := op_lt.or (by rw [← c.hK]; exact op_ltT (hu0 c))
theorem je_lt (ha : JE G k W N sc .peek a fa) (hb : JE G k W N sc .peek b fb) : JE G k W N sc kd (.Compare a [.Lt] [b] pos) (fBin D.lt fa fb) := je_cmp (fun X c => op_ltD c) s_lt ha hb (nomark _)
theorem je_le (ha : JE G k W N sc .peek a fa) (hb : JE G k W N sc .peek b fb) : JE G k W N sc kd (.Compare a [.LtE] [b] pos) (fBin D.le fa fb) := je_cmp (fun X c => op_le) (s2I0 (fun _ _ => rfl) fun _ _ _ => rfl) ha hb (nomark _)
theorem je_gt (ha : JE G k W N sc .peek a fa) (hb : JE G k W N sc .peek b fb) : JE G k W N sc kd (.Compare a [.Gt] [b] pos) (fBin D.gt fa fb) := je_cmp (fun X c => op_gt) (s2I0 (fun _ _ => rfl) fun _ _ _ => rfl) ha hb (nomark _)
theorem je_ge (ha : JE G k W N sc .peek a fa) (hb : JE G k W N sc .peek b fb) : JE G k W N sc kd (.Compare a [.GtE] [b] pos) (fBin D.ge fa fb) := je_cmp (fun X c => op_ge) (s2I0 (fun _ _ => rfl) fun _ _ _ => rfl) ha hb (nomark _)
theorem jt_lt (ha : JE G k W N sc .peek a fa) (hb : JE G k W N sc .peek b fb) : JT G k W N sc (.Compare a [.Lt] [b] pos) (fTst (fBin D.lt fa fb)) := jt_cmp (fun X c => op_ltD c) s_lt ha hb (nomark _)
theorem jt_le (ha : JE G k W N sc .peek a fa) (hb : JE G k W N sc .peek b fb) : JT G k W N sc (.Compare a [.LtE] [b] pos) (fTst (fBin D.le fa fb)) := jt_cmp (fun X c => op_le) (s2I0 (fun _ _ => rfl) fun _ _ _ => rfl) ha hb (nomark _)
theorem jt_gt (ha : JE G k W N sc .peek a fa) (hb : JE G k W N sc .peek b fb) : JT G k W N sc (.Compare a [.Gt] [b] pos) (fTst (fBin D.gt fa fb)) := jt_cmp (fun X c => op_gt) (s2I0 (fun _ _ => rfl) fun _ _ _ => rfl) ha hb (nomark _)
theorem jt_ge (ha : JE G k W N sc .peek a fa) (hb : JE G k W N sc .peek b fb) : JT G k W N sc (.Compare a [.GtE] [b] pos) (fTst (fBin D.ge fa fb)) := jt_cmp (fun X c => op_ge) (s2I0 (fun _ _ => rfl) fun _ _ _ => rfl) ha hb (nomark _)
/-! == over data -/
mutual
def toP : D → Option PyData
  | .non => some .none
  | .bl b => some (.bool b)
  | .int i => some (.int i)
  | .str s => some (.str s)
  | .tup l => (toPs l).map .tuple
  | .lst l => (toPs l).map .list
  | _ => none
def toPs : List D → Option (List PyData)
  | [] => some []
  | d :: ds => match toP d, toPs ds with
    | some x, some xs => some (x :: xs)
    | _, _ => none
end
mutual
theorem toP_dp {F H : Hp} (fh : Same F H) : ∀ (d : D) (v : V) (x : PyData), toP d = some x → Rep G F d v → Dp G.K H v x
  | .non, v, x, h, r => by
    have e := Option.some.inj h
    subst e
    rw [show v = .non from r]
    exact .non
  | .bl b, v, x, h, r => by
    have e := Option.some.inj h
    subst e
    rw [show v = .bl b from r]
    exact .bl b
  | .int b, v, x, h, r => by
    have e := Option.some.inj h
    subst e
    rw [show v = .int b from r]
    exact .int b
  | .str b, v, x, h, r => by
    have e := Option.some.inj h
    subst e
    rw [show v = .str b from r]
    exact .str b
  | .tup l, v, x, h, r => by
    have h : (toPs l).map PyData.tuple = some x := h
    cases e : toPs l with
    | none => rw [e] at h; cases h
    | some xs =>
      rw [e] at h
      have e2 := Option.some.inj h
      subst e2
      obtain ⟨p, vs, rfl, h1, h2⟩ := topT fh r
      exact .tup h1 (toPs_dp fh l vs xs e h2)
  | .lst l, v, x, h, r => by
    have h : (toPs l).map PyData.list = some x := h
    cases e : toPs l with
    | none => rw [e] at h; cases h
    | some xs =>
      rw [e] at h
      have e2 := Option.some.inj h
      subst e2
      obtain ⟨p, vs, rfl, h1, h2⟩ := r
      exact .lst (SqL.of (fh _ _ h1)) (toPs_dp fh l vs xs e h2)
  | .dct _, v, x, h, r => r.elim
  | .obj _ _, v, x, h, r => nomatch h
  | .scr _, v, x, h, r => nomatch h
  | .typ _, v, x, h, r => nomatch h
  | .cls _, v, x, h, r => nomatch h
theorem toPs_dp {F H : Hp} (fh : Same F H) : ∀ (ds : List D) (vs : List V) (xs : List PyData), toPs ds = some xs → RepL G F ds vs → DpAll G.K H vs xs
  | [], vs, xs, h, r => by
    have e := Option.some.inj h
    subst e
    rw [show vs = [] from r]
    exact .nil
  | d :: ds, vs, xs, h, r => by
    obtain ⟨v, vs', rfl, h1, h2⟩ := r
    have h : (match toP d, toPs ds with
      | some x, some xs => some (x :: xs)
      | _, _ => none) = some xs := h
    split at h
    · rename_i x ys e1 e2
      have e := Option.some.inj h
      subst e
      exact .cons (toP_dp fh d v x e1 h1) (toPs_dp fh ds vs' ys e2 h2)
    · cases h
end
theorem toP_top {F H : Hp} (fh : Same F H) : ∀ (d : D) (v : V) (x : PyData), toP d = some x → Top G F H d v → Dp G.K H v x
  | .lst l, v, x, h, r => by
    have h : (toPs l).map PyData.list = some x := h
    cases e : toPs l with
    | none => rw [e] at h; cases h
    | some xs =>
      rw [e] at h
      have e2 := Option.some.inj h
      subst e2
      obtain ⟨p, vs, rfl, h1, h2⟩ := topL r
      exact .lst (SqL.of h1) (toPs_dp fh l vs xs e h2)
  | .non, v, x, h, r => toP_dp fh _ v x h r
  | .bl _, v, x, h, r => toP_dp fh _ v x h r
  | .int _, v, x, h, r => toP_dp fh _ v x h r
  | .str _, v, x, h, r => toP_dp fh _ v x h r
  | .tup _, v, x, h, r => toP_dp fh _ v x h r
  | .dct _, v, x, h, r => nomatch h
  | .obj _ _, v, x, h, r => nomatch h
  | .scr _, v, x, h, r => nomatch h
  | .typ _, v, x, h, r => nomatch h
  | .cls _, v, x, h, r => nomatch h
def D.eqd : D → D → Option Bool := fun x y => match toP x, toP y with
  | some a, some b => if SeqAt.shaped a = true ∧ SeqAt.shaped b = true then some (PyData.eqv a b) else none
  | _, _ => none
def D.eq : D → D → Option D := fun x y => (D.eqd x y).map .bl
def D.ne : D → D → Option D := fun x y => (D.eqd x y).map fun b => .bl (!b)
theorem eqd_some {x y : D} {b : Bool} (h : D.eqd x y = some b) : ∃ a c, toP x = some a ∧ toP y = some c ∧ SeqAt.shaped a = true ∧ SeqAt.shaped c = true ∧ PyData.eqv a c = b := by
  unfold D.eqd at h
  split at h
  · rename_i a c e1 e2
    split at h
    · rename_i hs
      exact ⟨a, c, e1, e2, hs.1, hs.2, Option.some.inj h⟩
    · cases h
  · cases h
theorem s_eq : OpS G kd (rEqD G.K) D.eq := by
  intro F B H fb bh x y v w hx hy d hd Q q
  unfold D.eq at hd
  cases e : D.eqd x y with
  | none => rw [e] at hd; cases hd
  | some b =>
    rw [e] at hd
    have e2 := Option.some.inj hd
    subst e2
    obtain ⟨a, c, h1, h2, h3, h4, rfl⟩ := eqd_some e
    exact ⟨a, c, toP_top (fb.trans bh) x v a h1 hx, toP_top (fb.trans bh) y w c h2 hy, h3, h4, q.here fb bh rfl rfl⟩
theorem s_ne : OpS G kd (rNeD G.K) D.ne := by
  intro F B H fb bh x y v w hx hy d hd Q q
  unfold D.ne at hd
  cases e : D.eqd x y with
  | none => rw [e] at hd; cases hd
  | some b =>
    rw [e] at hd
    have e2 := Option.some.inj hd
    subst e2
    obtain ⟨a, c, h1, h2, h3, h4, rfl⟩ := eqd_some e
    exact ⟨a, c, toP_top (fb.trans bh) x v a h1 hx, toP_top (fb.trans bh) y w c h2 hy, h3, h4, q.here fb bh rfl rfl⟩
theorem je_eq (ha : JE G k W N sc .peek a fa) (hb : JE G k W N sc .peek b fb) : JE G k W N sc kd (.Compare a [.Eq] [b] pos) (fBin D.eq fa fb) := je_cmp (fun X c => by rw [← c.hK]; exact op_eqD (hu64 c)) s_eq ha hb (nomark _)
theorem je_ne (ha : JE G k W N sc .peek a fa) (hb : JE G k W N sc .peek b fb) : JE G k W N sc kd (.Compare a [.NotEq] [b] pos) (fBin D.ne fa fb) := je_cmp (fun X c => by rw [← c.hK]; exact op_neD (hu64 c)) s_ne ha hb (nomark _)
theorem jt_eq (ha : JE G k W N sc .peek a fa) (hb : JE G k W N sc .peek b fb) : JT G k W N sc (.Compare a [.Eq] [b] pos) (fTst (fBin D.eq fa fb)) := jt_cmp (fun X c => by rw [← c.hK]; exact op_eqD (hu64 c)) s_eq ha hb (nomark _)
theorem jt_ne (ha : JE G k W N sc .peek a fa) (hb : JE G k W N sc .peek b fb) : JT G k W N sc (.Compare a [.NotEq] [b] pos) (fTst (fBin D.ne fa fb)) := jt_cmp (fun X c => by rw [← c.hK]; exact op_neD (hu64 c)) s_ne ha hb (nomark _)
/-! is None -/
def isNn : D → Bool
  | .non => true
  | _ => false
def D.isN : D → D → Option D
  | x, .non => some (.bl (isNn x))
  | _, _ => none
def D.isNot : D → D → Option D
  | x, .non => some (.bl (!isNn x))
  | _, _ => none
theorem top_non {F H : Hp} : ∀ {x : D} {v : V}, Top G F H x v → decide (v = V.non) = isNn x
  | .non, v, h => by rw [show v = .non from h]; rfl
  | .bl _, v, h => by rw [show v = .bl _ from h]; rfl
  | .int _, v, h => by rw [show v = .int _ from h]; rfl
  | .str _, v, h => by rw [show v = .str _ from h]; rfl
  | .typ _, v, h => by rw [show v = .ty _ from h]; rfl
  | .cls _, v, h => by obtain ⟨C, ns, _, rfl⟩ := h; rfl
  | .tup _, v, h => by obtain ⟨p, vs, rfl, _⟩ := h; rfl
  | .lst _, v, h => by obtain ⟨p, rfl, _⟩ := h; rfl
  | .obj _ _, v, h => by obtain ⟨p, rfl, _⟩ := h; rfl
  | .scr _, v, h => by obtain ⟨p, rfl, _⟩ := h; rfl
  | .dct _, v, h => by obtain ⟨p, rfl, _⟩ := h; rfl
def rIsNn : R2 := fun x y H Q => y = .non ∧ Q (.bl (decide (x = .non))) H
def rNotNn : R2 := fun x y H Q => y = .non ∧ Q (.bl (!decide (x = .non))) H
theorem s_isN : OpS G kd rIsNn D.isN := by
  intro F B H fb bh x y v w hx hy d hd Q q
  cases y <;> first
    | (have e := Option.some.inj hd
       subst e
       exact ⟨hy, by rw [top_non hx]; exact q.here fb bh rfl rfl⟩)
    | cases hd
theorem s_isNot : OpS G kd rNotNn D.isNot := by
  intro F B H fb bh x y v w hx hy d hd Q q
  cases y <;> first
    | (have e := Option.some.inj hd
       subst e
       exact ⟨hy, by rw [top_non hx]; exact q.here fb bh rfl rfl⟩)
    | cases hd
theorem je_isN (ha : JE G k W N sc .peek a fa) (hb : JE G k W N sc .peek b fb) : JE G k W N sc kd (.Compare a [.Is] [b] pos) (fBin D.isN fa fb) := je_cmp (fun X c => op_isN) s_isN ha hb (nomark _)
theorem je_isNot (ha : JE G k W N sc .peek a fa) (hb : JE G k W N sc .peek b fb) : JE G k W N sc kd (.Compare a [.IsNot] [b] pos) (fBin D.isNot fa fb) := je_cmp (fun X c => op_notN) s_isNot ha hb (nomark _)
theorem jt_isN (ha : JE G k W N sc .peek a fa) (hb : JE G k W N sc .peek b fb) : JT G k W N sc (.Compare a [.Is] [b] pos) (fTst (fBin D.isN fa fb)) := jt_cmp (fun X c => op_isN) s_isN ha hb (nomark _)
theorem jt_isNot (ha : JE G k W N sc .peek a fa) (hb : JE G k W N sc .peek b fb) : JT G k W N sc (.Compare a [.IsNot] [b] pos) (fTst (fBin D.isNot fa fb)) := jt_cmp (fun X c => op_notN) s_isNot ha hb (nomark _)
/-! in -/
/-- x in a list of data -/
def inD (x : D) (l : List D) : Option Bool := match toP x, toPs l with
  | some a, some bs => if SeqAt.shaped a = true ∧ SeqAt.shaped (.list bs) = true then some (bs.any fun z => PyData.eqv z a) else none
  | _, _ => none
def inL : D → D → Option Bool
  | x, .lst l => inD x l
  | _, _ => none
theorem inL_some {x y : D} {b : Bool} {F B H : Hp} {v w : V} (fb : Same F B) (bh : Same B H) (hx : Top G F H x v) (hy : Top G F H y w) (h : inL x y = some b) : ∃ d ds, Dp G.K H v d ∧ Dp G.K H w (.list ds) ∧ SeqAt.shaped d = true ∧ SeqAt.shaped (.list ds) = true ∧ (ds.any fun z => PyData.eqv z d) = b := by
  unfold inL at h
  split at h
  · rename_i l
    unfold inD at h
    split at h
    · rename_i a bs e1 e2
      split at h
      · rename_i hs
        refine ⟨a, bs, toP_top (fb.trans bh) x v a e1 hx, toP_top (fb.trans bh) (.lst l) w (.list bs) ?_ hy, hs.1, hs.2, Option.some.inj h⟩
        show (toPs l).map PyData.list = _
        rw [e2]
        rfl
      · cases h
    · cases h
  · cases h
def flatD : D → Option V
  | .non => some .non
  | .bl b => some (.bl b)
  | .int i => some (.int i)
  | .str s => some (.str s)
  | _ => none
def flatDs : List D → Option (List V)
  | [] => some []
  | d :: ds => match flatD d, flatDs ds with
    | some x, some xs => some (x :: xs)
    | _, _ => none
theorem flatD_rep {F : Hp} : ∀ {d : D} {v u : V}, flatD d = some u → Rep G F d v → v = u ∧ flatV u = true
  | .non, v, u, h, r => by
    have e := Option.some.inj h
    subst e
    exact ⟨r, rfl⟩
  | .bl b, v, u, h, r => by
    have e := Option.some.inj h
    subst e
    exact ⟨r, rfl⟩
  | .int i, v, u, h, r => by
    have e := Option.some.inj h
    subst e
    exact ⟨r, rfl⟩
  | .str s, v, u, h, r => by
    have e := Option.some.inj h
    subst e
    exact ⟨r, rfl⟩
  | .tup _, _, _, h, _ => nomatch h
  | .lst _, _, _, h, _ => nomatch h
  | .dct _, _, _, h, _ => nomatch h
  | .obj _ _, _, _, h, _ => nomatch h
  | .scr _, _, _, h, _ => nomatch h
  | .typ _, _, _, h, _ => nomatch h
  | .cls _, _, _, h, _ => nomatch h
theorem flatDs_rep {F : Hp} : ∀ {ds : List D} {vs us : List V}, flatDs ds = some us → RepL G F ds vs → vs = us ∧ us.all flatV = true
  | [], vs, us, h, r => by
    have e := Option.some.inj h
    subst e
    exact ⟨r, rfl⟩
  | d :: ds, vs, us, h, r => by
    obtain ⟨v, vs', rfl, h1, h2⟩ := r
    have h : (match flatD d, flatDs ds with
      | some x, some xs => some (x :: xs)
      | _, _ => none) = some us := h
    split at h
    · rename_i x ys e1 e2
      have e := Option.some.inj h
      subst e
      obtain ⟨rfl, f1⟩ := flatD_rep e1 h1
      obtain ⟨rfl, f2⟩ := flatDs_rep e2 h2
      exact ⟨rfl, by rw [List.all_cons, f1, f2]; rfl⟩
    · cases h
theorem flatD_top {F H : Hp} : ∀ {d : D} {v u : V}, flatD d = some u → Top G F H d v → v = u ∧ flatV u = true
  | .non, v, u, h, r => flatD_rep (G := G) (F := F) (d := .non) h r
  | .bl b, v, u, h, r => flatD_rep (G := G) (F := F) (d := .bl b) h r
  | .int b, v, u, h, r => flatD_rep (G := G) (F := F) (d := .int b) h r
  | .str b, v, u, h, r => flatD_rep (G := G) (F := F) (d := .str b) h r
  | .tup _, _, _, h, _ => nomatch h
  | .lst _, _, _, h, _ => nomatch h
  | .dct _, _, _, h, _ => nomatch h
  | .obj _ _, _, _, h, _ => nomatch h
  | .scr _, _, _, h, _ => nomatch h
  | .typ _, _, _, h, _ => nomatch h
  | .cls _, _, _, h, _ => nomatch h
/-- x in a tuple of ints, texts .. -/
def inT : D → D → Option Bool
  | x, .tup l => match flatD x, flatDs l with
    | some v, some vs => some (inV v vs)
    | _, _ => none
  | _, _ => none
def rInB (K : PySem.W.Frag) (neg : Bool) : R2 := fun x y H Q => (if neg = true then rNotInD K x y H Q else rInD K x y H Q) ∨ rIn K neg x y H Q
def inB (x y : D) : Option Bool := (inL x y).or (inT x y)
def D.inn : D → D → Option D := fun x y => (inB x y).map .bl
def D.nin : D → D → Option D := fun x y => (inB x y).map fun b => .bl (!b)
theorem inT_some {x y : D} {b : Bool} {F B H : Hp} {v w : V} (fb : Same F B) (bh : Same B H) (hx : Top G F H x v) (hy : Top G F H y w) (h : inT x y = some b) : ∃ p vs, w = .ref p ∧ SqT G.K H p vs ∧ flatV v = true ∧ vs.all flatV = true ∧ inV v vs = b := by
  unfold inT at h
  split at h
  · rename_i l
    split at h
    · rename_i u us e1 e2
      obtain ⟨rfl, f1⟩ := flatD_top e1 hx
      obtain ⟨p, vs, rfl, h1, h2⟩ := topT (fb.trans bh) hy
      obtain ⟨rfl, f2⟩ := flatDs_rep e2 h2
      exact ⟨p, vs, rfl, h1, f1, f2, Option.some.inj h⟩
    · cases h
  · cases h
theorem s_in : OpS G kd (rInB G.K false) D.inn := by
  intro F B H fb bh x y v w hx hy d hd Q q
  unfold D.inn inB at hd
  cases e : inL x y with
  | some b =>
    rw [e] at hd
    have e2 := Option.some.inj hd
    subst e2
    obtain ⟨d, ds, h1, h2, h3, h4, rfl⟩ := inL_some fb bh hx hy e
    exact .inl ⟨d, ds, h1, h2, h3, h4, q.here fb bh rfl rfl⟩
  | none =>
    rw [e] at hd
    cases e2 : inT x y with
    | none => rw [e2] at hd; cases hd
    | some b =>
      rw [e2] at hd
      have e3 := Option.some.inj hd
      subst e3
      obtain ⟨p, vs, rfl, h1, h2, h3, rfl⟩ := inT_some fb bh hx hy e2
      exact .inr ⟨p, vs, rfl, .inr h1, h2, h3, q.here fb bh rfl rfl⟩
theorem s_nin : OpS G kd (rInB G.K true) D.nin := by
  intro F B H fb bh x y v w hx hy d hd Q q
  unfold D.nin inB at hd
  cases e : inL x y with
  | some b =>
    rw [e] at hd
    have e2 := Option.some.inj hd
    subst e2
    obtain ⟨d, ds, h1, h2, h3, h4, rfl⟩ := inL_some fb bh hx hy e
    exact .inl ⟨d, ds, h1, h2, h3, h4, q.here fb bh rfl rfl⟩
  | none =>
    rw [e] at hd
    cases e2 : inT x y with
    | none => rw [e2] at hd; cases hd
    | some b =>
      rw [e2] at hd
      have e3 := Option.some.inj hd
      subst e3
      obtain ⟨p, vs, rfl, h1, h2, h3, rfl⟩ := inT_some fb bh hx hy e2
      exact .inr ⟨p, vs, rfl, .inr h1, h2, h3, q.here fb bh rfl rfl⟩
theorem hu65 {X : Cx} (c : CnE G k W N sc X) : X.A.units + 65 < cLine := by have := c.room.un; omega
theorem op_inB {X : Cx} (c : CnE G k W N sc X) : OpR X (compareOp .In) (rInB G.K false) := by
  rw [← c.hK]
  exact (op_inD (hu65 c)).or op_in_seq
theorem op_ninB {X : Cx} (c : CnE G k W N sc X) : OpR X (compareOp .NotIn) (rInB G.K true) := by
  rw [← c.hK]
  exact (op_notInD (hu65 c)).or op_notIn_seq
theorem je_in (ha : JE G k W N sc .peek a fa) (hb : JE G k W N sc .peek b fb) (hm : behindInMarks .In b = false) : JE G k W N sc kd (.Compare a [.In] [b] pos) (fBin D.inn fa fb) := je_cmp (fun X c => op_inB c) s_in ha hb hm
theorem je_nin (ha : JE G k W N sc .peek a fa) (hb : JE G k W N sc .peek b fb) (hm : behindInMarks .NotIn b = false) : JE G k W N sc kd (.Compare a [.NotIn] [b] pos) (fBin D.nin fa fb) := je_cmp (fun X c => op_ninB c) s_nin ha hb hm
theorem jt_in (ha : JE G k W N sc .peek a fa) (hb : JE G k W N sc .peek b fb) (hm : behindInMarks .In b = false) : JT G k W N sc (.Compare a [.In] [b] pos) (fTst (fBin D.inn fa fb)) := jt_cmp (fun X c => op_inB c) s_in ha hb hm
theorem jt_nin (ha : JE G k W N sc .peek a fa) (hb : JE G k W N sc .peek b fb) (hm : behindInMarks .NotIn b = false) : JT G k W N sc (.Compare a [.NotIn] [b] pos) (fTst (fBin D.nin fa fb)) := jt_cmp (fun X c => op_ninB c) s_nin ha hb hm
end
end DL

namespace DL
open PySem PySem.Spec L2
section
variable {G : Gm} {kd : Kd} {k : Nat} {W : WX} {N : List Str} {sc : Scope} {e a b c : Expr} {f fa fb fc : En → M D} {ga gb : En → M Bool} {pos : Pos} {rest : List Expr}
/-! ### and, or, not -/
def fAnd (ga gb : En → M Bool) : En → M Bool := fun ρ => (ga ρ).bnd fun x => if x = true then gb ρ else some (.ok false)
def fOr (ga gb : En → M Bool) : En → M Bool := fun ρ => (ga ρ).bnd fun x => if x = true then some (.ok true) else gb ρ
def fNot (ga : En → M Bool) : En → M Bool := fun ρ => (ga ρ).bnd fun x => some (.ok (!x))
theorem JW.jt (h : JW G k W N sc e ga) : JT G k W N sc e ga := by
  obtain ⟨tt, h1, h2⟩ := h
  exact ⟨tt, fun X c => (h1 X c).pt, h2⟩
theorem jw_and1 (h : JT G k W N sc a ga) : JW G k W N sc (.BoolOp .And [a] pos) ga := by
  obtain ⟨tt, h1, h2⟩ := h
  exact ⟨tt, fun X c => pw_and1 (h1 X c), h2⟩
theorem jw_or1 (h : JT G k W N sc a ga) : JW G k W N sc (.BoolOp .Or [a] pos) ga := by
  obtain ⟨tt, h1, h2⟩ := h
  exact ⟨tt, fun X c => pw_or1 (h1 X c), h2⟩
theorem spec_and {ta tb : TT} (ha : SpecT G W ta ga) (hb : SpecT G W tb gb) : SpecT G W (tAnd ta tb) (fAnd ga gb) := by
  intro Z F B H σ ρ s r hr Q q
  rcases bnd_some hr with ⟨x, ex, hr⟩ | ⟨x, ex, rfl⟩
  · refine ha Z F B H σ ρ s _ ex _ fun F1 B1 H1 u1 => ?_
    cases x with
    | true =>
      show tb σ H1 Q
      exact hb Z F1 B1 H1 σ ρ (s.up u1) r hr Q (q.weak u1)
    | false =>
      show Q false H1
      have e := Option.some.inj (show some (Except.ok false) = some r from hr)
      subst e
      exact q F1 B1 H1 u1
  · exact ha Z F B H σ ρ s _ ex _ q
theorem spec_or {ta tb : TT} (ha : SpecT G W ta ga) (hb : SpecT G W tb gb) : SpecT G W (tOr ta tb) (fOr ga gb) := by
  intro Z F B H σ ρ s r hr Q q
  rcases bnd_some hr with ⟨x, ex, hr⟩ | ⟨x, ex, rfl⟩
  · refine ha Z F B H σ ρ s _ ex _ fun F1 B1 H1 u1 => ?_
    cases x with
    | false =>
      show tb σ H1 Q
      exact hb Z F1 B1 H1 σ ρ (s.up u1) r hr Q (q.weak u1)
    | true =>
      show Q true H1
      have e := Option.some.inj (show some (Except.ok true) = some r from hr)
      subst e
      exact q F1 B1 H1 u1
  · exact ha Z F B H σ ρ s _ ex _ q
theorem spec_not {ta : TT} (ha : SpecT G W ta ga) : SpecT G W (tNot ta) (fNot ga) := by
  intro Z F B H σ ρ s r hr Q q
  rcases bnd_some hr with ⟨x, ex, hr⟩ | ⟨x, ex, rfl⟩
  · refine ha Z F B H σ ρ s _ ex _ fun F1 B1 H1 u1 => ?_
    have e := Option.some.inj (show some (Except.ok (!x)) = some r from hr)
    subst e
    exact q F1 B1 H1 u1
  · exact ha Z F B H σ ρ s _ ex _ q
theorem jw_and (ha : JT G k W N sc a ga) (hb : JW G k W N sc (.BoolOp .And (b :: rest) pos) gb) : JW G k W N sc (.BoolOp .And (a :: b :: rest) pos) (fAnd ga gb) := by
  obtain ⟨ta, a1, a2⟩ := ha
  obtain ⟨tb, b1, b2⟩ := hb
  exact ⟨_, fun X c => pw_and (a1 X c) (b1 X c), spec_and a2 b2⟩
theorem jw_or (ha : JT G k W N sc a ga) (hb : JW G k W N sc (.BoolOp .Or (b :: rest) pos) gb) : JW G k W N sc (.BoolOp .Or (a :: b :: rest) pos) (fOr ga gb) := by
  obtain ⟨ta, a1, a2⟩ := ha
  obtain ⟨tb, b1, b2⟩ := hb
  exact ⟨_, fun X c => pw_or (a1 X c) (b1 X c), spec_or a2 b2⟩
theorem jt_not (ha : JT G k W N sc a ga) : JT G k W N sc (.UnaryOp .Not a pos) (fNot ga) := by
  obtain ⟨ta, a1, a2⟩ := ha
  exact ⟨_, fun X c => pt_not (a1 X c), spec_not a2⟩
/-! .. as values -/
def fAndV (fa fb : En → M D) : En → M D := fun ρ => (fa ρ).bnd fun x => (up1 (isBl x)).bnd fun t => if t = true then fb ρ else some (.ok (.bl false))
def fOrV (fa fb : En → M D) : En → M D := fun ρ => (fa ρ).bnd fun x => (up1 (isBl x)).bnd fun t => if t = true then some (.ok (.bl true)) else fb ρ
def fNotV (fa : En → M D) : En → M D := fun ρ => (fa ρ).bnd fun x => (up1 (isBl x)).bnd fun t => some (.ok (.bl (!t)))
theorem up1_bnd {α β : Type} {o : Option α} {g : α → M β} {r : Except Xc β} (h : (up1 o).bnd g = some r) : ∃ x, o = some x ∧ g x = some r := by
  cases o with
  | none => cases h
  | some x => exact ⟨x, rfl, h⟩
theorem je_one {op : BoolOp} (h : JE G k W N sc kd a fa) : JE G k W N sc kd (.BoolOp op [a] pos) fa := by
  obtain ⟨te, h1, h2⟩ := h
  exact ⟨te, fun X c => pe_one (h1 X c), h2⟩
theorem je_and (ha : JE G k W N sc .peek a fa) (hb : JE G k W N sc kd (.BoolOp .And (b :: rest) pos) fb) : JE G k W N sc kd (.BoolOp .And (a :: b :: rest) pos) (fAndV fa fb) := by
  obtain ⟨ta, a1, a2⟩ := ha
  obtain ⟨tb, b1, b2⟩ := hb
  refine ⟨_, fun X c => pe_and (a1 X c) (b1 X c), fun Z F B H σ ρ s r hr Q q => ?_⟩
  rcases bnd_some hr with ⟨x, ex, hr⟩ | ⟨x, ex, rfl⟩
  · refine a2 Z F B H σ ρ s _ ex _ fun F1 B1 H1 v1 u1 k1 => ?_
    obtain ⟨t, et, hr⟩ := up1_bnd hr
    rw [isBl_some et] at k1
    refine ⟨t, k1, ?_⟩
    cases t with
    | true =>
      show tb σ H1 Q
      exact b2 Z F1 B1 H1 σ ρ (s.up u1) r hr Q (q.weak u1)
    | false =>
      show Q (.bl false) H1
      have e := Option.some.inj (show some (Except.ok (D.bl false)) = some r from hr)
      subst e
      exact q F1 B1 H1 _ u1 (KR.scal rfl rfl)
  · exact a2 Z F B H σ ρ s _ ex _ q
theorem je_or (ha : JE G k W N sc .peek a fa) (hb : JE G k W N sc kd (.BoolOp .Or (b :: rest) pos) fb) : JE G k W N sc kd (.BoolOp .Or (a :: b :: rest) pos) (fOrV fa fb) := by
  obtain ⟨ta, a1, a2⟩ := ha
  obtain ⟨tb, b1, b2⟩ := hb
  refine ⟨_, fun X c => pe_or (a1 X c) (b1 X c), fun Z F B H σ ρ s r hr Q q => ?_⟩
  rcases bnd_some hr with ⟨x, ex, hr⟩ | ⟨x, ex, rfl⟩
  · refine a2 Z F B H σ ρ s _ ex _ fun F1 B1 H1 v1 u1 k1 => ?_
    obtain ⟨t, et, hr⟩ := up1_bnd hr
    rw [isBl_some et] at k1
    refine ⟨t, k1, ?_⟩
    cases t with
    | false =>
      show tb σ H1 Q
      exact b2 Z F1 B1 H1 σ ρ (s.up u1) r hr Q (q.weak u1)
    | true =>
      show Q (.bl true) H1
      have e := Option.some.inj (show some (Except.ok (D.bl true)) = some r from hr)
      subst e
      exact q F1 B1 H1 _ u1 (KR.scal rfl rfl)
  · exact a2 Z F B H σ ρ s _ ex _ q
theorem je_not (ha : JE G k W N sc .peek a fa) : JE G k W N sc kd (.UnaryOp .Not a pos) (fNotV fa) := by
  obtain ⟨ta, a1, a2⟩ := ha
  refine ⟨_, fun X c => pe_not (a1 X c), fun Z F B H σ ρ s r hr Q q => ?_⟩
  rcases bnd_some hr with ⟨x, ex, hr⟩ | ⟨x, ex, rfl⟩
  · refine a2 Z F B H σ ρ s _ ex _ fun F1 B1 H1 v1 u1 k1 => ?_
    obtain ⟨t, et, hr⟩ := up1_bnd hr
    rw [isBl_some et] at k1
    have e := Option.some.inj (show some (Except.ok (D.bl (!t))) = some r from hr)
    subst e
    exact ⟨t, k1, q F1 B1 H1 _ u1 (KR.scal rfl rfl)⟩
  · exact a2 Z F B H σ ρ s _ ex _ q
def D.neg : D → Option D
  | .int i => some (.int (-i))
  | _ => none
theorem je_neg (ha : JE G k W N sc .peek a fa) : JE G k W N sc kd (.UnaryOp .USub a pos) (fUn D.neg fa) := by
  obtain ⟨ta, a1, a2⟩ := ha
  refine ⟨_, fun X c => pe_un un_neg (a1 X c), fun Z F B H σ ρ s r hr Q q => ?_⟩
  rcases bnd_some hr with ⟨x, ex, hr⟩ | ⟨x, ex, rfl⟩
  · refine a2 Z F B H σ ρ s _ ex _ fun F1 B1 H1 v1 u1 k1 => ?_
    obtain ⟨t, et, rfl⟩ := up1_ok hr
    cases x <;> first
      | (have e := Option.some.inj et
         subst e
         exact ⟨_, k1, q F1 B1 H1 _ u1 (KR.scal rfl rfl)⟩)
      | cases et
  · exact a2 Z F B H σ ρ s _ ex _ q
/-! chains of two comparisons of ints -/
def fChain (p q : Int → Int → Bool) (fa fb fc : En → M D) : En → M D := fun ρ => (fa ρ).bnd fun x => (fb ρ).bnd fun y => (up1 (o2I0 (fun i j => .bl (p i j)) x y)).bnd fun z => (up1 (isBl z)).bnd fun t =>
  if t = true then (fc ρ).bnd fun w => up1 (o2I0 (fun i j => .bl (q i j)) y w) else some (.ok (.bl false))
theorem o2I0_some {g : Int → Int → D} {x y d : D} (h : o2I0 g x y = some d) : ∃ i j, x = .int i ∧ y = .int j ∧ d = g i j := by
  unfold o2I0 at h
  split at h
  · rename_i i j
    exact ⟨i, j, rfl, rfl, (Option.some.inj h).symm⟩
  · cases h
theorem spec_chain {p q : Int → Int → Bool} {ta tb tc : TE} (a2 : SpecE G W .peek ta fa) (b2 : SpecE G W .peek tb fb) (c2 : SpecE G W .peek tc fc) : SpecE G W kd (tChain (rI0 fun i j => .bl (p i j)) (rI0 fun i j => .bl (q i j)) ta tb tc) (fChain p q fa fb fc) := by
  intro Z F B H σ ρ s r hr Q qq
  rcases bnd_some hr with ⟨x, ex, hr⟩ | ⟨x, ex, rfl⟩
  · refine a2 Z F B H σ ρ s _ ex _ fun F1 B1 H1 v1 u1 k1 => ?_
    rcases bnd_some hr with ⟨y, ey, hr⟩ | ⟨y, ey, rfl⟩
    · refine b2 Z F1 B1 H1 σ ρ (s.up u1) _ ey _ fun F2 B2 H2 v2 u2 k2 => ?_
      obtain ⟨z, ez, hr⟩ := up1_bnd hr
      obtain ⟨t, et, hr⟩ := up1_bnd hr
      obtain ⟨i, j, rfl, rfl, rfl⟩ := o2I0_some ez
      have et' : p i j = t := Option.some.inj et
      refine ⟨i, j, k1, k2, t, congrArg V.bl et', ?_⟩
      cases t with
      | true =>
        rw [if_pos rfl] at hr ⊢
        rcases bnd_some hr with ⟨w, ew, hr⟩ | ⟨w, ew, rfl⟩
        · refine c2 Z F2 B2 H2 σ ρ (s.up (u1.trans u2)) _ ew _ fun F3 B3 H3 v3 u3 k3 => ?_
          obtain ⟨d, ed, rfl⟩ := up1_ok hr
          obtain ⟨i', j', e1, e2, e3⟩ := o2I0_some ed
          have e1' : j = i' := by injection e1
          subst e1' e2 e3
          exact ⟨j, j', k2, k3, qq F3 B3 H3 _ (u1.trans (u2.trans u3)) (KR.scal rfl rfl)⟩
        · exact c2 Z F2 B2 H2 σ ρ (s.up (u1.trans u2)) _ ew _ (fun F' B' H' cls dx u hx => qq F' B' H' cls dx (u1.trans (u2.trans u)) hx)
      | false =>
        rw [if_neg Bool.false_ne_true] at hr ⊢
        have e := Option.some.inj hr
        subst e
        exact qq F2 B2 H2 _ (u1.trans u2) (KR.scal rfl rfl)
    · exact b2 Z F1 B1 H1 σ ρ (s.up u1) _ ey _ (fun F' B' H' cls dx u hx => qq F' B' H' cls dx (u1.trans u) hx)
  · exact a2 Z F B H σ ρ s _ ex _ qq
theorem je_chain {o o' : CmpOp} {p q : Int → Int → Bool} (ho : ∀ X : Cx, OpR X (compareOp o) (rI0 fun i j => .bl (p i j))) (ho' : ∀ X : Cx, OpR X (compareOp o') (rI0 fun i j => .bl (q i j)))
    (ha : JE G k W N sc .peek a fa) (hb : JE G k W N sc .peek b fb) (hc : JE G k W N sc .peek c fc) (hm : lastMarks [o, o'] [b, c] = false) : JE G k W N sc kd (.Compare a [o, o'] [b, c] pos) (fChain p q fa fb fc) := by
  obtain ⟨ta, a1, a2⟩ := ha
  obtain ⟨tb, b1, b2⟩ := hb
  obtain ⟨tc, c1, c2⟩ := hc
  exact ⟨_, fun X c => pe_chain (ho X) (ho' X) (a1 X c) (b1 X c) (c1 X c) hm, spec_chain a2 b2 c2⟩
theorem jt_chain {o o' : CmpOp} {p q : Int → Int → Bool} (ho : ∀ X : Cx, OpR X (compareOp o) (rI0 fun i j => .bl (p i j))) (ho' : ∀ X : Cx, OpR X (compareOp o') (rI0 fun i j => .bl (q i j)))
    (ha : JE G k W N sc .peek a fa) (hb : JE G k W N sc .peek b fb) (hc : JE G k W N sc .peek c fc) (hm : lastMarks [o, o'] [b, c] = false) : JT G k W N sc (.Compare a [o, o'] [b, c] pos) (fTst (fChain p q fa fb fc)) := by
  obtain ⟨ta, a1, a2⟩ := ha
  obtain ⟨tb, b1, b2⟩ := hb
  obtain ⟨tc, c1, c2⟩ := hc
  exact ⟨_, fun X c => pt_chain (ho X) (ho' X) (a1 X c) (b1 X c) (c1 X c) hm, spec_tst (spec_chain a2 b2 c2)⟩
/-! a if t else b -/
def fIf (ga : En → M Bool) (fa fb : En → M D) : En → M D := fun ρ => (ga ρ).bnd fun t => if t = true then fa ρ else fb ρ
theorem je_if (hc : JT G k W N sc c ga) (ha : JE G k W N sc kd a fa) (hb : JE G k W N sc kd b fb) : JE G k W N sc kd (.IfExp c a b pos) (fIf ga fa fb) := by
  obtain ⟨ta, a1, a2⟩ := ha
  obtain ⟨tb, b1, b2⟩ := hb
  obtain ⟨tc, c1, c2⟩ := hc
  refine ⟨_, fun X c => pe_ifExp (c1 X c) (a1 X c) (b1 X c), fun Z F B H σ ρ s r hr Q q => ?_⟩
  rcases bnd_some hr with ⟨x, ex, hr⟩ | ⟨x, ex, rfl⟩
  · refine c2 Z F B H σ ρ s _ ex _ fun F1 B1 H1 u1 => ?_
    cases x with
    | true =>
      show ta σ H1 Q
      exact a2 Z F1 B1 H1 σ ρ (s.up u1) r hr Q (q.weak u1)
    | false =>
      show tb σ H1 Q
      exact b2 Z F1 B1 H1 σ ρ (s.up u1) r hr Q (q.weak u1)
  · exact c2 Z F B H σ ρ s _ ex _ q

/-! ### arguments, displays -/
def fNil : En → M (List D) := fun _ => some (.ok [])
def fCons (fa : En → M D) (fs : En → M (List D)) : En → M (List D) := fun ρ => (fa ρ).bnd fun x => (fs ρ).bnd fun xs => some (.ok (x :: xs))
theorem ja_nil : JA G k W N sc [] [] fNil := ⟨_, fun X c => pa_nil, fun Z F B H σ ρ s r hr Q q => by
  have e := Option.some.inj hr
  subst e
  exact q F B H [] (Up.refl s.fb s.bh) rfl⟩
/-- no star in a written argument list -/
def PlainArg (e : Expr) : Prop := ∀ (es : List Expr) (env : Env), starEach (e :: es) env = (false, eval e env) :: starEach es env
theorem ja_consP {ks : List Arg} {es : List Expr} {fs : En → M (List D)} (hp : PlainArg e) (ha : JE G k W N sc .peek e fa) (hr : JA G k W N sc ks es fs) : JA G k W N sc (.peek :: ks) (e :: es) (fCons fa fs) := by
  obtain ⟨ta, a1, a2⟩ := ha
  obtain ⟨tr, r1, r2⟩ := hr
  refine ⟨_, fun X c => pa_cons (a1 X c) (r1 X c) (hp _ _), fun Z F B H σ ρ s r hr Q q => ?_⟩
  rcases bnd_some hr with ⟨x, ex, hr⟩ | ⟨x, ex, rfl⟩
  · refine a2 Z F B H σ ρ s _ ex _ fun F1 B1 H1 v1 u1 k1 => ?_
    rcases bnd_some hr with ⟨y, ey, hr⟩ | ⟨y, ey, rfl⟩
    · refine r2 Z F1 B1 H1 σ ρ (s.up u1) _ ey _ fun F2 B2 H2 v2 u2 k2 => ?_
      have e := Option.some.inj hr
      subst e
      exact q F2 B2 H2 _ (u1.trans u2) ⟨v1, v2, rfl, Top.mono u2.f u2.h k1, k2⟩
    · exact r2 Z F1 B1 H1 σ ρ (s.up u1) _ ey _ (fun F' B' H' cls dx u hx => q F' B' H' cls dx (u1.trans u) hx)
  · exact a2 Z F B H σ ρ s _ ex _ q
theorem ja_consS {ks : List Arg} {es : List Expr} {fs : En → M (List D)} (hp : PlainArg e) (ha : JE G k W N sc .shared e fa) (hr : JA G k W N sc ks es fs) : JA G k W N sc (.shared :: ks) (e :: es) (fCons fa fs) := by
  obtain ⟨ta, a1, a2⟩ := ha
  obtain ⟨tr, r1, r2⟩ := hr
  refine ⟨_, fun X c => pa_cons (a1 X c) (r1 X c) (hp _ _), fun Z F B H σ ρ s r hr Q q => ?_⟩
  rcases bnd_some hr with ⟨x, ex, hr⟩ | ⟨x, ex, rfl⟩
  · refine a2 Z F B H σ ρ s _ ex _ fun F1 B1 H1 v1 u1 k1 => ?_
    rcases bnd_some hr with ⟨y, ey, hr⟩ | ⟨y, ey, rfl⟩
    · refine r2 Z F1 B1 H1 σ ρ (s.up u1) _ ey _ fun F2 B2 H2 v2 u2 k2 => ?_
      have e := Option.some.inj hr
      subst e
      exact q F2 B2 H2 _ (u1.trans u2) ⟨v1, v2, rfl, k1.mono u2.f, k2⟩
    · exact r2 Z F1 B1 H1 σ ρ (s.up u1) _ ey _ (fun F' B' H' cls dx u hx => q F' B' H' cls dx (u1.trans u) hx)
  · exact a2 Z F B H σ ρ s _ ex _ q
def shs (n : Nat) : List Arg := List.replicate n .shared
theorem ArR.shs {F H : Hp} : ∀ {n : Nat} {ds : List D} {vs : List V}, ArR G F H (shs n) ds vs → RepL G F ds vs
  | 0, [], vs, h => h
  | 0, _ :: _, vs, h => h.elim
  | n + 1, [], vs, h => h.elim
  | n + 1, d :: ds, vs, h => by
    obtain ⟨v, vs', rfl, h1, h2⟩ := h
    exact ⟨v, vs', rfl, h1, ArR.shs (n := n) h2⟩
def fTup (fs : En → M (List D)) : En → M D := fun ρ => (fs ρ).bnd fun xs => if xs.length ≤ LIM then some (.ok (.tup xs)) else none
def fLst (fs : En → M (List D)) : En → M D := fun ρ => (fs ρ).bnd fun xs => if xs.length ≤ LIM then some (.ok (.lst xs)) else none
theorem je_tup {es : List Expr} {n x1 : Nat} {fs : En → M (List D)} (h : JA G k W N sc (shs n) es fs) : JE G k W N sc kd (.Tuple es x1 pos) (fTup fs) := by
  obtain ⟨tr, r1, r2⟩ := h
  refine ⟨_, fun X c => pe_tupF (r1 X c), fun Z F B H σ ρ s r hr Q q => ?_⟩
  rcases bnd_some hr with ⟨x, ex, hr⟩ | ⟨x, ex, rfl⟩
  · refine r2 Z F B H σ ρ s _ ex _ fun F1 B1 H1 vs u1 k1 => ?_
    have k2 := k1.shs
    split at hr
    · rename_i hl
      have e := Option.some.inj hr
      subst e
      exact ⟨lim_line (by rw [k2.length]; exact hl), (q.weak u1).v.newT u1.fb u1.bh k2⟩
    · cases hr
  · exact r2 Z F B H σ ρ s _ ex _ q
theorem je_lst {es : List Expr} {n : Nat} {fs : En → M (List D)} (h : JA G k W N sc (shs n) es fs) : JE G k W N sc .fresh (.List es pos) (fLst fs) := by
  obtain ⟨tr, r1, r2⟩ := h
  refine ⟨_, fun X c => pe_lst (r1 X c), fun Z F B H σ ρ s r hr Q q => ?_⟩
  rcases bnd_some hr with ⟨x, ex, hr⟩ | ⟨x, ex, rfl⟩
  · refine r2 Z F B H σ ρ s _ ex _ fun F1 B1 H1 vs u1 k1 => ?_
    have k2 := k1.shs
    split at hr
    · rename_i hl
      have e := Option.some.inj hr
      subst e
      exact ⟨lim_line (by rw [k2.length]; exact hl), fun p hp => (q.weak u1).v.newL u1.fb u1.bh k2 hp⟩
    · cases hr
  · exact r2 Z F B H σ ρ s _ ex _ q

/-! ### built-in functions -/
def fCa (op : List D → Option D) (fs : En → M (List D)) : En → M D := fun ρ => (fs ρ).bnd fun xs => up1 (op xs)
theorem spec_ca {ks : List Arg} {ta : TA} {r : List V → Hp → VK → Prop} {op : List D → Option D} {fs : En → M (List D)} (ha : SpecA G W ks ta fs) (ho : CaS G kd r ks op) : SpecE G W kd (tCB r ta) (fCa op fs) := by
  intro Z F B H σ ρ s r' hr Q q
  rcases bnd_some hr with ⟨x, ex, hr⟩ | ⟨x, ex, rfl⟩
  · refine ha Z F B H σ ρ s _ ex _ fun F1 B1 H1 vs u1 k1 => ?_
    obtain ⟨d, ed, rfl⟩ := up1_ok hr
    exact ho F1 B1 H1 u1.fb u1.bh x vs k1 d ed Q (q.weak u1).v
  · exact ha Z F B H σ ρ s _ ex _ q
def NoStar (pos : Pos) (es : List Expr) : Prop := ∀ env : Env, (backTo pos (starEach es env)).any (·.1) = false
theorem je_callB {x : Str} {id : String} {p : Pos} {es : List Expr} {ks : List Arg} {r : List V → Hp → VK → Prop} {op : List D → Option D} {fs : En → M (List D)} (hc : ∀ X, CnE G k W N sc X → CallR X (.builtin id) r) (ho : CaS G kd r ks op)
    (hg : glB sc x = true) (hm : G.mg x = none) (hv : bootBuiltins x = some (.builtin id)) (hn : x ≠ "__name__") (hd : (x == ("__debug__" : Str)) = false) (hp : PlainArg e) (hpl : NoStar pos es) (ha : JA G k W N sc ks (e :: es) fs) :
    JE G k W N sc kd (.Call (.Name x p) (e :: es) [] pos) (fCa op fs) := by
  obtain ⟨ta, a1, a2⟩ := ha
  exact ⟨_, fun X c => pe_callB (hc X c) (gl_of c.hsc hg) (by rw [c.hmg]; exact hm) hv (a1 X c) hn hd (hp _ _) (hpl _), spec_ca a2 ho⟩
theorem je_callTy {x : Str} {T : String} {p : Pos} {es : List Expr} {ks : List Arg} {r : List V → Hp → VK → Prop} {op : List D → Option D} {fs : En → M (List D)} (hc : ∀ X, CnE G k W N sc X → CallR X (.type T) r) (ho : CaS G kd r ks op)
    (hg : glB sc x = true) (hm : G.mg x = none) (hv : bootBuiltins x = some (.type T)) (hn : x ≠ "__name__") (hd : (x == ("__debug__" : Str)) = false) (hp : PlainArg e) (hpl : NoStar pos es) (ha : JA G k W N sc ks (e :: es) fs) :
    JE G k W N sc kd (.Call (.Name x p) (e :: es) [] pos) (fCa op fs) := by
  obtain ⟨ta, a1, a2⟩ := ha
  exact ⟨_, fun X c => pe_callTy (hc X c) (gl_of c.hsc hg) (by rw [c.hmg]; exact hm) hv (a1 X c) hn hd (hp _ _) (hpl _), spec_ca a2 ho⟩
end
end DL

namespace DL
open PySem PySem.Spec L2
section
variable {G : Gm} {kd : Kd} {k : Nat} {W : WX} {N : List Str} {sc : Scope} {e a b c : Expr} {f fa fb fc : En → M D} {ga gb : En → M Bool} {pos : Pos} {rest : List Expr} {F B H : Hp}
theorem ar1 {d : D} {vs : List V} (h : ArR G F H [.peek] [d] vs) : ∃ v, vs = [v] ∧ Top G F H d v := by
  obtain ⟨v, vs', rfl, h1, h2⟩ := h
  rw [show vs' = [] from h2]
  exact ⟨v, rfl, h1⟩
theorem ar2 {d d' : D} {vs : List V} (h : ArR G F H [.peek, .peek] [d, d'] vs) : ∃ v v', vs = [v, v'] ∧ Top G F H d v ∧ Top G F H d' v' := by
  obtain ⟨v, vs', rfl, h1, h2⟩ := h
  obtain ⟨v', e, h3⟩ := ar1 h2
  exact ⟨v, v', by rw [e], h1, h3⟩
/-! len -/
def D.len : List D → Option D
  | [.lst l] => some (.int l.length)
  | [.tup l] => some (.int l.length)
  | [.scr l] => some (.int l.length)
  | _ => none
def rLenB (K : PySem.W.Frag) : List V → Hp → VK → Prop := fun xs H Q => ∃ p ys, xs = [.ref p] ∧ (SqL K H p ys ∨ SqT K H p ys) ∧ Q (.int ys.length) H
theorem s_len : CaS G kd (rLenB G.K) [.peek] D.len := by
  intro F B H fb bh xs vs hx d hd Q q
  unfold D.len at hd
  split at hd
  · rename_i l
    have e := Option.some.inj hd
    subst e
    obtain ⟨v, rfl, h⟩ := ar1 hx
    obtain ⟨p, us, rfl, h1, h2⟩ := topL h
    exact ⟨p, us, rfl, .inl (SqL.of h1), q.here fb bh rfl (by rw [h2.length]; rfl)⟩
  · rename_i l
    have e := Option.some.inj hd
    subst e
    obtain ⟨v, rfl, h⟩ := ar1 hx
    obtain ⟨p, us, rfl, h1, h2⟩ := topT (fb.trans bh) h
    exact ⟨p, us, rfl, .inr h1, q.here fb bh rfl (by rw [h2.length]; rfl)⟩
  · rename_i l
    have e := Option.some.inj hd
    subst e
    obtain ⟨v, rfl, h⟩ := ar1 hx
    obtain ⟨p, rfl, h1⟩ := topS (fb.trans bh) h
    exact ⟨p, _, rfl, .inl h1, q.here fb bh rfl (by rw [List.length_map]; rfl)⟩
  · cases hd
theorem je_len {p : Pos} (hg : glB sc "len" = true) (hm : G.mg "len" = none) (hp : PlainArg e) (hpl : NoStar pos []) (ha : JE G k W N sc .peek e f) : JE G k W N sc kd (.Call (.Name "len" p) [e] [] pos) (fCa D.len (fCons f fNil)) :=
  je_callB (id := "len") (r := rLenB G.K) (fun X c => by rw [← c.hK]; exact call_len_seq) s_len hg hm PySem.boot_len (by decide) (by decide) hp hpl (ja_consP hp ha ja_nil)
/-! int, abs -/
def D.int1 : List D → Option D
  | [.int i] => some (.int i)
  | [.bl b] => some (.int (if b then 1 else 0))
  | _ => none
def rInt1 : List V → Hp → VK → Prop := fun xs H Q => (∃ i, xs = [.int i] ∧ Q (.int i) H) ∨ ∃ k, xs = [.bl k] ∧ Q (.int (if k then 1 else 0)) H
theorem s_int : CaS G kd rInt1 [.peek] D.int1 := by
  intro F B H fb bh xs vs hx d hd Q q
  unfold D.int1 at hd
  split at hd
  · rename_i l
    have e := Option.some.inj hd
    subst e
    obtain ⟨v, rfl, h⟩ := ar1 hx
    exact .inl ⟨l, by rw [show v = .int l from h], q.here fb bh rfl rfl⟩
  · rename_i l
    have e := Option.some.inj hd
    subst e
    obtain ⟨v, rfl, h⟩ := ar1 hx
    exact .inr ⟨l, by rw [show v = .bl l from h], q.here fb bh rfl rfl⟩
  · cases hd
theorem je_intC {p : Pos} (hg : glB sc "int" = true) (hm : G.mg "int" = none) (hp : PlainArg e) (hpl : NoStar pos []) (ha : JE G k W N sc .peek e f) : JE G k W N sc kd (.Call (.Name "int" p) [e] [] pos) (fCa D.int1 (fCons f fNil)) :=
  je_callTy (T := "int") (r := rInt1) (fun X c => call_int1) s_int hg hm (by decide +kernel) (by decide) (by decide) hp hpl (ja_consP hp ha ja_nil)
def D.abs : List D → Option D
  | [.int i] => some (.int (if i < 0 then -i else i))
  | _ => none
def rAbs : List V → Hp → VK → Prop := fun xs H Q => ∃ i, xs = [.int i] ∧ Q (.int (if i < 0 then -i else i)) H
theorem s_abs : CaS G kd rAbs [.peek] D.abs := by
  intro F B H fb bh xs vs hx d hd Q q
  unfold D.abs at hd
  split at hd
  · rename_i l
    have e := Option.some.inj hd
    subst e
    obtain ⟨v, rfl, h⟩ := ar1 hx
    exact ⟨l, by rw [show v = .int l from h], q.here fb bh rfl rfl⟩
  · cases hd
theorem je_abs {p : Pos} (hg : glB sc "abs" = true) (hm : G.mg "abs" = none) (hp : PlainArg e) (hpl : NoStar pos []) (ha : JE G k W N sc .peek e f) : JE G k W N sc kd (.Call (.Name "abs" p) [e] [] pos) (fCa D.abs (fCons f fNil)) :=
  je_callB (id := "abs") (r := rAbs) (fun X c => call_abs) s_abs hg hm (by decide +kernel) (by decide) (by decide) hp hpl (ja_consP hp ha ja_nil)
/-! list, tuple, sorted -/
def D.list : List D → Option D
  | [.lst l] => some (.lst l)
  | [.tup l] => some (.lst l)
  | _ => none
def rListB (K : PySem.W.Frag) : List V → Hp → VK → Prop := fun xs H Q => ∃ p ys, xs = [.ref p] ∧ (SqL K H p ys ∨ SqT K H p ys) ∧ ∀ l, H l = none → Q (.ref l) (upd H l (.lst ys))
theorem s_list : CaS G .fresh (rListB G.K) [.peek] D.list := by
  intro F B H fb bh xs vs hx d hd Q q
  unfold D.list at hd
  split at hd
  · rename_i l
    have e := Option.some.inj hd
    subst e
    obtain ⟨v, rfl, h⟩ := ar1 hx
    obtain ⟨p, us, rfl, h1, h2⟩ := topL h
    exact ⟨p, us, rfl, .inl (SqL.of h1), fun a ha => q.newL fb bh h2 ha⟩
  · rename_i l
    have e := Option.some.inj hd
    subst e
    obtain ⟨v, rfl, h⟩ := ar1 hx
    obtain ⟨p, us, rfl, h1, h2⟩ := topT (fb.trans bh) h
    exact ⟨p, us, rfl, .inr h1, fun a ha => q.newL fb bh h2 ha⟩
  · cases hd
theorem je_list {p : Pos} (hg : glB sc "list" = true) (hm : G.mg "list" = none) (hp : PlainArg e) (hpl : NoStar pos []) (ha : JE G k W N sc .peek e f) : JE G k W N sc .fresh (.Call (.Name "list" p) [e] [] pos) (fCa D.list (fCons f fNil)) :=
  je_callTy (T := "list") (r := rListB G.K) (fun X c => by rw [← c.hK]; exact call_list_of) s_list hg hm (by decide +kernel) (by decide) (by decide) hp hpl (ja_consP hp ha ja_nil)
def D.tupl : List D → Option D
  | [.lst l] => some (.tup l)
  | [.tup l] => some (.tup l)
  | _ => none
theorem s_tupl : CaS G kd (rTupF G.K) [.peek] D.tupl := by
  intro F B H fb bh xs vs hx d hd Q q
  unfold D.tupl at hd
  split at hd
  · rename_i l
    have e := Option.some.inj hd
    subst e
    obtain ⟨v, rfl, h⟩ := ar1 hx
    obtain ⟨p, us, rfl, h1, h2⟩ := topL h
    exact ⟨p, us, rfl, .inl ⟨SqL.of h1, q.newT fb bh h2⟩⟩
  · rename_i l
    have e := Option.some.inj hd
    subst e
    obtain ⟨v, rfl, h⟩ := ar1 hx
    obtain ⟨p, us, rfl, h1, h2⟩ := topT (fb.trans bh) h
    exact ⟨p, us, rfl, .inr ⟨h1, q.here fb bh rfl h⟩⟩
  · cases hd
theorem je_tupl {p : Pos} (hg : glB sc "tuple" = true) (hm : G.mg "tuple" = none) (hp : PlainArg e) (hpl : NoStar pos []) (ha : JE G k W N sc .peek e f) : JE G k W N sc kd (.Call (.Name "tuple" p) [e] [] pos) (fCa D.tupl (fCons f fNil)) :=
  je_callTy (T := "tuple") (r := rTupF G.K) (fun X c => by rw [← c.hK]; exact call_tupF) s_tupl hg hm (by decide +kernel) (by decide) (by decide) hp hpl (ja_consP hp ha ja_nil)
/-- ints in ascending order -/
def srt : List Int → List Int
  | [] => []
  | x :: xs => ins x (srt xs)
where ins (x : Int) : List Int → List Int
  | [] => [x]
  | y :: ys => if x ≤ y then x :: y :: ys else y :: ins x ys
theorem ins_perm (x : Int) : ∀ ys : List Int, (srt.ins x ys).Perm (x :: ys)
  | [] => List.Perm.refl _
  | y :: ys => by
    unfold srt.ins
    split
    · exact List.Perm.refl _
    · exact ((ins_perm x ys).cons y).trans (List.Perm.swap x y ys)
theorem srt_perm : ∀ xs : List Int, (srt xs).Perm xs
  | [] => List.Perm.refl _
  | x :: xs => (ins_perm x (srt xs)).trans ((srt_perm xs).cons x)
theorem ins_sorted (x : Int) : ∀ {ys : List Int}, ys.Pairwise (· ≤ ·) → (srt.ins x ys).Pairwise (· ≤ ·)
  | [], _ => List.pairwise_singleton _ _
  | y :: ys, h => by
    unfold srt.ins
    split
    · rename_i hxy
      refine List.pairwise_cons.mpr ⟨fun z hz => ?_, h⟩
      rcases List.mem_cons.mp hz with rfl | hz
      · exact hxy
      · exact Int.le_trans hxy ((List.pairwise_cons.mp h).1 z hz)
    · rename_i hxy
      refine List.pairwise_cons.mpr ⟨fun z hz => ?_, ins_sorted x (List.pairwise_cons.mp h).2⟩
      rcases List.mem_cons.mp ((ins_perm x ys).mem_iff.mp hz) with rfl | hz
      · omega
      · exact (List.pairwise_cons.mp h).1 z hz
theorem srt_sorted : ∀ xs : List Int, (srt xs).Pairwise (· ≤ ·)
  | [] => List.Pairwise.nil
  | x :: xs => ins_sorted x (srt_sorted xs)
theorem srt_eq {xs ys : List Int} (hp : xs.Perm ys) (hs : xs.Pairwise (· ≤ ·)) : xs = srt ys := PySem.W.ksm_same (hp.trans (srt_perm ys).symm) hs (srt_sorted ys)
theorem srt_length (xs : List Int) : (srt xs).length = xs.length := (srt_perm xs).length_eq
def D.sorted : List D → Option D
  | [.lst l] => (ints? l).map fun ns => .lst ((srt ns).map D.int)
  | _ => none
theorem s_sorted : CaS G .fresh (rSortedI G.K) [.peek] D.sorted := by
  intro F B H fb bh xs vs hx d hd Q q
  unfold D.sorted at hd
  split at hd
  · rename_i l
    cases e : ints? l with
    | none => rw [e] at hd; cases hd
    | some ns =>
      rw [e] at hd
      have e2 := Option.some.inj hd
      subst e2
      obtain ⟨v, rfl, h⟩ := ar1 hx
      obtain ⟨p, us, rfl, h1, h2⟩ := topL h
      rw [ints?_eq e] at h2
      rw [h2.ints] at h1
      refine ⟨p, ns, rfl, SqL.of h1, fun ns' a hp hs ha => ?_⟩
      rw [srt_eq hp hs]
      exact q.newL fb bh RepL.ofInts ha
  · cases hd
theorem je_sorted {p : Pos} (hg : glB sc "sorted" = true) (hm : G.mg "sorted" = none) (hp : PlainArg e) (hpl : NoStar pos []) (ha : JE G k W N sc .peek e f) : JE G k W N sc .fresh (.Call (.Name "sorted" p) [e] [] pos) (fCa D.sorted (fCons f fNil)) :=
  je_callB (id := "sorted") (r := rSortedI G.K) (fun X c => by rw [← c.hK]; exact cr_sortedI) s_sorted hg hm (by decide +kernel) (by decide) (by decide) hp hpl (ja_consP hp ha ja_nil)
/-! the names of classes; isinstance -/
theorem je_typ {x : Str} {n : String} (hg : glB sc x = true) (hm : G.mg x = none) (hv : bootBuiltins x = some (.type n)) (hn : x ≠ "__name__") (hd : (x == ("__debug__" : Str)) = false) : JE G k W N sc kd (.Name x pos) (fC (.typ n)) :=
  ⟨_, fun X c => pe_bltn (v := .ty n) (gl_of c.hsc hg) (by rw [c.hmg]; exact hm) hv rfl hn hd, spec_c rfl fun _ => rfl⟩
theorem je_cls {x : Str} {i : Nat} {C : Addr} {ns : List Str} (hg : glB sc x = true) (hm : G.mg x = some (.ref C)) (hi : G.ct i = some (C, ns)) (hd : (x == ("__debug__" : Str)) = false) : JE G k W N sc kd (.Name x pos) (fC (.cls i)) :=
  ⟨_, fun X c => pe_glob (v := .ref C) (gl_of c.hsc hg) (by rw [c.hmg]; exact hm) rfl hd, spec_c rfl fun _ => ⟨C, ns, hi, rfl⟩⟩
def tyOf : D → Option Ty
  | .non => some (.b "NoneType")
  | .bl _ => some (.b "bool")
  | .int _ => some (.b "int")
  | .str _ => some (.b "str")
  | .tup _ => some (.b "tuple")
  | .lst _ => some (.b "list")
  | .obj c _ => if c < 100 then some (.o c) else none
  | _ => none
def clOf : D → Option Ty
  | .typ n => some (.b n)
  | .cls c => some (.o c)
  | _ => none
def D.isi : List D → Option D
  | [x, c] => match tyOf x, clOf c with
    | some t, some u => (isiT t u).map .bl
    | _, _ => none
  | _ => none
theorem tyX_of (gok : GOk G) (fh : Same F H) : ∀ {d : D} {v : V} {t : Ty}, tyOf d = some t → Top G F H d v → ∃ tv, t.val G tv ∧ TyX G.K H v tv
  | .non, v, t, h, r => by
    have e := Option.some.inj h
    subst e
    rw [show v = .non from r]
    exact ⟨_, rfl, .base .non⟩
  | .bl b, v, t, h, r => by
    have e := Option.some.inj h
    subst e
    rw [show v = .bl b from r]
    exact ⟨_, rfl, .base (.bl b)⟩
  | .int b, v, t, h, r => by
    have e := Option.some.inj h
    subst e
    rw [show v = .int b from r]
    exact ⟨_, rfl, .base (.int b)⟩
  | .str b, v, t, h, r => by
    have e := Option.some.inj h
    subst e
    rw [show v = .str b from r]
    exact ⟨_, rfl, .base (.str b)⟩
  | .tup l, v, t, h, r => by
    have e := Option.some.inj h
    subst e
    obtain ⟨p, vs, rfl, h1, h2⟩ := topT fh r
    refine ⟨_, rfl, ?_⟩
    rcases h1 with (h1 | ⟨o, h1⟩) | ⟨o, its, n, h1, h2, _⟩
    · exact .base (.tup h1)
    · exact .fTuple h1
    · exact .kTuple h1 h2
  | .lst l, v, t, h, r => by
    have e := Option.some.inj h
    subst e
    obtain ⟨p, vs, rfl, h1, h2⟩ := topL r
    exact ⟨_, rfl, .base (.lst h1)⟩
  | .obj c fs, v, t, h, r => by
    have h : (if c < 100 then some (Ty.o c) else none) = some t := h
    split at h
    · rename_i hc
      have e := Option.some.inj h
      subst e
      obtain ⟨p, rfl, C, ns, dx, vs, h1, h2, h3⟩ := r
      obtain ⟨c1, c2, c3⟩ := gok.cl c C ns h1 hc
      obtain ⟨d1, d2⟩ := gok.dunder c C ns h1 hc
      exact ⟨_, ⟨C, ns, h1, rfl⟩, .base (.ins h2 c1 d1 gok.gs gok.tk d2)⟩
    · cases h
  | .dct _, _, _, h, _ => nomatch h
  | .scr _, _, _, h, _ => nomatch h
  | .typ _, _, _, h, _ => nomatch h
  | .cls _, _, _, h, _ => nomatch h
theorem clV_of : ∀ {d : D} {v : V} {t : Ty}, clOf d = some t → Top G F H d v → ∃ tv, t.val G tv ∧ ClsV v tv
  | .typ n, v, t, h, r => by
    have e := Option.some.inj h
    subst e
    rw [show v = .ty n from r]
    exact ⟨_, rfl, .ty n⟩
  | .cls c, v, t, h, r => by
    have e := Option.some.inj h
    subst e
    obtain ⟨C, ns, h1, rfl⟩ := r
    exact ⟨_, ⟨C, ns, h1, rfl⟩, .own C⟩
  | .non, _, _, h, _ => nomatch h
  | .bl _, _, _, h, _ => nomatch h
  | .int _, _, _, h, _ => nomatch h
  | .str _, _, _, h, _ => nomatch h
  | .tup _, _, _, h, _ => nomatch h
  | .lst _, _, _, h, _ => nomatch h
  | .dct _, _, _, h, _ => nomatch h
  | .obj _ _, _, _, h, _ => nomatch h
  | .scr _, _, _, h, _ => nomatch h
theorem s_isi (gok : GOk G) : CaS G kd (rIsi G.K) [.peek, .peek] D.isi := by
  intro F B H fb bh xs vs hx d hd Q q
  unfold D.isi at hd
  split at hd
  · rename_i x c
    split at hd
    · rename_i t u e1 e2
      cases e3 : isiT t u with
      | none => rw [e3] at hd; cases hd
      | some r =>
        rw [e3] at hd
        have e := Option.some.inj hd
        subst e
        obtain ⟨v, w, rfl, h1, h2⟩ := ar2 hx
        obtain ⟨tv, a1, a2⟩ := tyX_of gok (fb.trans bh) e1 h1
        obtain ⟨cv, b1, b2⟩ := clV_of e2 h2
        exact ⟨v, w, tv, cv, r, rfl, b2, a2, gok.isi t u r tv cv e3 a1 b1, q.here fb bh rfl rfl⟩
    · cases hd
  · cases hd
def fIsi (fa fb : En → M D) : En → M D := fCa D.isi (fCons fa (fCons fb fNil))
theorem je_isi (gok : GOk G) {p : Pos} (hg : glB sc "isinstance" = true) (hm : G.mg "isinstance" = none) (hp : PlainArg a) (hp2 : PlainArg b) (hpl : NoStar pos [b]) (ha : JE G k W N sc .peek a fa) (hb : JE G k W N sc .peek b fb) : JE G k W N sc kd (.Call (.Name "isinstance" p) [a, b] [] pos) (fIsi fa fb) :=
  je_callB (id := "isinstance") (r := rIsi G.K) (fun X c => by rw [← c.hK]; exact call_isi) (s_isi gok) hg hm (by decide +kernel) (by decide) (by decide) hp hpl (ja_consP hp ha (ja_consP hp2 hb ja_nil))
/-! o[i], o[i:j] -/
def ixL : D → D → Option D
  | .lst l, .int i => atI l i
  | .tup l, .int i => atI l i
  | .scr l, .int i => (atI l i).map .int
  | _, _ => none
theorem atI_rep {l : List D} {vs : List V} {i : Int} {d : D} (h : RepL G F l vs) (e : atI l i = some d) : ∃ v, atI vs i = some v ∧ Rep G F d v := by
  unfold atI at e ⊢
  rw [h.length]
  cases q : ixN l.length i with
  | none => rw [q] at e; cases e
  | some j =>
    rw [q] at e
    exact h.get e
theorem atI_map {l : List Int} {i x : Int} (e : atI l i = some x) : atI (l.map V.int) i = some (V.int x) := by
  unfold atI at e ⊢
  rw [List.length_map]
  cases q : ixN l.length i with
  | none => rw [q] at e; cases e
  | some j =>
    rw [q] at e
    show (l.map V.int)[j]? = _
    rw [List.getElem?_map, show l[j]? = some x from e]
    rfl
theorem s_ix : OpS G .shared (rIx G.K) ixL := by
  intro F B H fb bh x y v w hx hy d hd Q q
  unfold ixL at hd
  split at hd
  · rename_i l i
    obtain ⟨p, vs, rfl, h1, h2⟩ := topL hx
    obtain ⟨u, e1, e2⟩ := atI_rep h2 hd
    exact .inl ⟨p, vs, i, u, rfl, hy, SqL.of h1, e1, q F B H u (Up.refl fb bh) e2⟩
  · rename_i l i
    obtain ⟨p, vs, rfl, h1, h2⟩ := topT (fb.trans bh) hx
    obtain ⟨u, e1, e2⟩ := atI_rep h2 hd
    exact .inr (.inl ⟨p, vs, i, u, rfl, hy, h1, e1, q F B H u (Up.refl fb bh) e2⟩)
  · rename_i l i
    cases e : atI l i with
    | none => rw [e] at hd; cases hd
    | some z =>
      rw [e] at hd
      have e2 := Option.some.inj hd
      subst e2
      obtain ⟨p, rfl, h1⟩ := topS (fb.trans bh) hx
      exact .inl ⟨p, _, i, _, rfl, hy, h1, atI_map e, q F B H _ (Up.refl fb bh) rfl⟩
  · cases hd
theorem je_ix (ha : JE G k W N sc .peek a fa) (hb : JE G k W N sc .peek b fb) (hs : PlainIx b) : JE G k W N sc .shared (.Subscript a b pos) (fBin ixL fa fb) := by
  obtain ⟨ta, a1, a2⟩ := ha
  obtain ⟨tb, b1, b2⟩ := hb
  exact ⟨_, fun X c => pe_ix (by rw [← c.hK]; exact ix_seq) (a1 X c) (b1 X c) hs, spec_bin a2 b2 s_ix⟩
def cutD {α : Type} (xs : List α) (lo hi : Option Int) : List α := (xs.drop (HT.sIx xs.length 0 lo)).take (HT.sIx xs.length xs.length hi - HT.sIx xs.length 0 lo)
theorem cut_rep {l : List D} {vs : List V} (h : RepL G F l vs) (lo hi : Option Int) : RepL G F (cutD l lo hi) (cutV vs lo hi) := by
  unfold cutD cutV
  rw [h.length]
  exact (h.drop _).take _
def fPart (fo : Option (En → M D)) (ρ : En) : M (Option Int) := match fo with
  | none => some (.ok none)
  | some g => (g ρ).bnd fun x => match x with
    | .int i => some (.ok (some i))
    | _ => none
def slD : D → Option Int → Option Int → Option D
  | .lst l, lo, hi => some (.lst (cutD l lo hi))
  | .tup l, lo, hi => some (.tup (cutD l lo hi))
  | _, _, _ => none
def fSl (fa : En → M D) (lo hi : Option (En → M D)) : En → M D := fun ρ => (fa ρ).bnd fun x => (fPart lo ρ).bnd fun l => (fPart hi ρ).bnd fun h => up1 (slD x l h)
def PostO (G : Gm) (W : WX) (F B H : Hp) (σ : L2.St) (Q : Option Int → Hp → Prop) : Except Xc (Option Int) → Prop
  | .ok b => ∀ F' B' H', Up F B H F' B' H' → Q b H'
  | .error x => ∀ F' B' H' cls dx, Up F B H F' B' H' → XR G F' H' x cls dx → W cls dx σ H'
def JO (G : Gm) (k : Nat) (W : WX) (N : List Str) (sc : Scope) (e : Option Expr) (fo : Option (En → M D)) : Prop :=
  ∃ to, (∀ X, CnE G k W N sc X → PO X e to) ∧ ∀ Z F B H σ ρ, SR G Z F B H σ ρ → ∀ r, fPart fo ρ = some r → ∀ Q, PostO G W F B H σ Q r → to σ H Q
theorem jo_none : JO G k W N sc none none := ⟨_, fun X c => po_none, fun Z F B H σ ρ s r hr Q q => by
  have e := Option.some.inj (show some (Except.ok none) = some r from hr)
  subst e
  exact q F B H (Up.refl s.fb s.bh)⟩
theorem jo_some (ha : JE G k W N sc .peek a fa) : JO G k W N sc (some a) (some fa) := by
  obtain ⟨ta, a1, a2⟩ := ha
  refine ⟨_, fun X c => po_some (a1 X c), fun Z F B H σ ρ s r hr Q q => ?_⟩
  rcases bnd_some (show (fa ρ).bnd _ = some r from hr) with ⟨x, ex, hr⟩ | ⟨x, ex, rfl⟩
  · refine a2 Z F B H σ ρ s _ ex _ fun F1 B1 H1 v1 u1 k1 => ?_
    cases x <;> first
      | (have e := Option.some.inj hr
         subst e
         exact ⟨_, k1, q F1 B1 H1 u1⟩)
      | cases hr
  · exact a2 Z F B H σ ρ s _ ex _ q
def rSlB (K : PySem.W.Frag) : V → Option Int → Option Int → Hp → VK → Prop := fun x lo hi H Q => rSlL K x lo hi H Q ∨ rSlF K x lo hi H Q
theorem je_sl {lo hi : Option Expr} {fl fh : Option (En → M D)} {p2 : Pos} (ha : JE G k W N sc .peek a fa) (hl : JO G k W N sc lo fl) (hh : JO G k W N sc hi fh) : JE G k W N sc .fresh (.Subscript a (.Slice lo hi none p2) pos) (fSl fa fl fh) := by
  obtain ⟨ta, a1, a2⟩ := ha
  obtain ⟨tl, l1, l2⟩ := hl
  obtain ⟨th, h1, h2⟩ := hh
  refine ⟨_, fun X c => pe_slice (r := rSlB G.K) (by rw [← c.hK]; exact sl_list.or sl_tupF) (a1 X c) (l1 X c) (h1 X c), fun Z F B H σ ρ s r hr Q q => ?_⟩
  rcases bnd_some hr with ⟨x, ex, hr⟩ | ⟨x, ex, rfl⟩
  · refine a2 Z F B H σ ρ s _ ex _ fun F1 B1 H1 v1 u1 k1 => ?_
    rcases bnd_some hr with ⟨y, ey, hr⟩ | ⟨y, ey, rfl⟩
    · refine l2 Z F1 B1 H1 σ ρ (s.up u1) _ ey _ fun F2 B2 H2 u2 => ?_
      rcases bnd_some hr with ⟨z, ez, hr⟩ | ⟨z, ez, rfl⟩
      · refine h2 Z F2 B2 H2 σ ρ (s.up (u1.trans u2)) _ ez _ fun F3 B3 H3 u3 => ?_
        obtain ⟨d, ed, rfl⟩ := up1_ok hr
        have k3 : Top G F3 H3 x v1 := Top.mono (u2.trans u3).f (u2.trans u3).h k1
        have qv := (q.weak (u1.trans (u2.trans u3))).v
        unfold slD at ed
        split at ed
        · rename_i l _ _
          have e := Option.some.inj ed
          subst e
          obtain ⟨p, vs, rfl, g1, g2⟩ := topL k3
          exact .inl ⟨p, vs, rfl, SqL.of g1, fun a ha => qv.newL u3.fb u3.bh (cut_rep g2 y z) ha⟩
        · rename_i l _ _
          have e := Option.some.inj ed
          subst e
          obtain ⟨p, vs, rfl, g1, g2⟩ := topT (u3.fb.trans u3.bh) k3
          refine .inr ⟨p, vs, rfl, g1, fun hw => qv.here u3.fb u3.bh rfl ?_, fun _ => qv.newT u3.fb u3.bh (cut_rep g2 y z)⟩
          have ew : cutD l y z = l := by
            unfold cutD
            rw [g2.length] at hw
            rw [hw.1, hw.2]
            simp
          rw [ew]
          exact k3
        · cases ed
      · exact h2 Z F2 B2 H2 σ ρ (s.up (u1.trans u2)) _ ez _ (fun F' B' H' cls dx u hx => q F' B' H' cls dx (u1.trans (u2.trans u)) hx)
    · exact l2 Z F1 B1 H1 σ ρ (s.up u1) _ ey _ (fun F' B' H' cls dx u hx => q F' B' H' cls dx (u1.trans u) hx)
  · exact a2 Z F B H σ ρ s _ ex _ q
/-- xs[::-1] -/
def revD : D → Option D
  | .lst l => some (.lst l.reverse)
  | _ => none
theorem je_rev {kk : Nat} {p1 p2 p3 : Pos} (ha : JE G k W N sc .peek a fa) : JE G k W N sc .fresh (.Subscript a (.Slice none none (some (.UnaryOp .USub (.Constant (.int 1) kk p1) p2)) p3) pos) (fUn revD fa) := by
  obtain ⟨ta, a1, a2⟩ := ha
  refine ⟨tRevL G.K ta, fun X c => by rw [← c.hK]; exact pe_revL (a1 X c), fun Z F B H σ ρ s r hr Q q => ?_⟩
  rcases bnd_some hr with ⟨x, ex, hr⟩ | ⟨x, ex, rfl⟩
  · refine a2 Z F B H σ ρ s _ ex _ fun F1 B1 H1 v1 u1 k1 => ?_
    obtain ⟨d, ed, rfl⟩ := up1_ok hr
    unfold revD at ed
    split at ed
    · rename_i l
      have e := Option.some.inj ed
      subst e
      obtain ⟨p, vs, rfl, g1, g2⟩ := topL k1
      exact ⟨p, vs, rfl, SqL.of g1, fun a ha => (q.weak u1).v.newL u1.fb u1.bh g2.rev ha⟩
    · cases ed
  · exact a2 Z F B H σ ρ s _ ex _ q
end
end DL

namespace DL
open PySem PySem.Spec L2
/-! ### statements -/
inductive Out where
  | nx (ρ : En) | rt (k : Kd) (d : D) (ρ : En) | bk (ρ : En) | ct (ρ : En) | er (x : Xc) (ρ : En)
abbrev SO := En → Option Out
def RetR (G : Gm) (Z : Zn) (F B H : Hp) (k : Kd) (d : D) (v : V) : Prop := match k with
  | .fresh => if d.isMut = true then ∃ p, v = .ref p ∧ Z.H p = none ∧ B p = none ∧ OwnO G F H p d else Rep G F d v
  | _ => Rep G F d v
structure Gro (F B F' B' : Hp) : Prop where
  f : Same F F'
  b : Same B B'
theorem Gro.refl {F B : Hp} : Gro F B F B := ⟨Same.refl _, Same.refl _⟩
theorem Gro.trans {F B F1 B1 F2 B2 : Hp} (x : Gro F B F1 B1) (y : Gro F1 B1 F2 B2) : Gro F B F2 B2 := ⟨x.f.trans y.f, x.b.trans y.b⟩
theorem Up.gro {F B H F' B' H' : Hp} (u : Up F B H F' B' H') : Gro F B F' B' := ⟨u.f, u.b⟩
def PostS (G : Gm) (W : WX) (Z : Zn) (F0 B0 : Hp) (E : Ends) : Out → Prop
  | .nx ρ => ∀ F B H σ, SR G Z F B H σ ρ → Gro F0 B0 F B → E.nx σ H
  | .rt k d ρ => ∀ F B H σ v, SR G Z F B H σ ρ → Gro F0 B0 F B → RetR G Z F B H k d v → E.rt v H
  | .bk ρ => ∀ F B H σ, SR G Z F B H σ ρ → Gro F0 B0 F B → E.bk σ H
  | .ct ρ => ∀ F B H σ, SR G Z F B H σ ρ → Gro F0 B0 F B → E.ct σ H
  | .er x ρ => ∀ F B H σ cls dx, SR G Z F B H σ ρ → Gro F0 B0 F B → XR G F H x cls dx → W cls dx σ H
theorem PostS.weak {G : Gm} {W : WX} {Z : Zn} {F0 B0 F1 B1 : Hp} {E : Ends} {o : Out} (y : Gro F0 B0 F1 B1) (q : PostS G W Z F0 B0 E o) : PostS G W Z F1 B1 E o := by
  cases o with
  | nx ρ => exact fun F B H σ s x => q F B H σ s (y.trans x)
  | rt k d ρ => exact fun F B H σ v s x r => q F B H σ v s (y.trans x) r
  | bk ρ => exact fun F B H σ s x => q F B H σ s (y.trans x)
  | ct ρ => exact fun F B H σ s x => q F B H σ s (y.trans x)
  | er x ρ => exact fun F B H σ cls dx s z r => q F B H σ cls dx s (y.trans z) r
def SpecS (G : Gm) (W : WX) (ts : TS) (g : SO) : Prop := ∀ Z F B H σ ρ, SR G Z F B H σ ρ → ∀ o, g ρ = some o → ∀ E, PostS G W Z F B E o → ts E σ H
structure CnS (G : Gm) (k : Nat) (W : WX) (N : List Str) (sc : Scope) (X : Cx) : Prop where
  ce : CnE G k W N sc X
  fn : ∀ x, X.fn x = true
  own : PassesOwn (model X.prog X.w) X.A X.env X.xe
def JS (G : Gm) (k : Nat) (W : WX) (N : List Str) (sc : Scope) (st : Stmt) (g : SO) : Prop := ∃ ts, (∀ X, CnS G k W N sc X → PS X st ts) ∧ SpecS G W ts g
def JB (G : Gm) (k : Nat) (W : WX) (N : List Str) (sc : Scope) (st : List Stmt) (g : SO) : Prop := ∃ ts, (∀ X, CnS G k W N sc X → PSs X st ts) ∧ SpecS G W ts g

section
variable {G : Gm} {k : Nat} {W : WX} {N : List Str} {sc : Scope} {e a b c : Expr} {f fa fb fc : En → M D} {ga gb : En → M Bool} {pos : Pos} {st : Stmt} {sts : List Stmt} {g h : SO}
theorem js_dead : JS G k W N sc st (fun _ => none) := ⟨tNever, fun _ _ => ps_never, fun _ _ _ _ _ _ _ _ h => nomatch h⟩
theorem jb_dead : JB G k W N sc sts (fun _ => none) := ⟨tNever, fun _ _ => pss_never, fun _ _ _ _ _ _ _ _ h => nomatch h⟩
def gNx : SO := fun ρ => some (.nx ρ)
def gSeq (g h : SO) : SO := fun ρ => match g ρ with
  | some (.nx ρ') => h ρ'
  | o => o
theorem jb_nil : JB G k W N sc [] gNx := ⟨_, fun X c => pss_nil, fun Z F B H σ ρ s o ho E q => by
  have e := Option.some.inj ho
  subst e
  exact q F B H σ s Gro.refl⟩
theorem spec_seq {t u : TS} (h1 : SpecS G W t g) (h2 : SpecS G W u h) : SpecS G W (tSeq t u) (gSeq g h) := by
  intro Z F B H σ ρ s o ho E q
  unfold gSeq at ho
  cases e : g ρ with
  | none => rw [e] at ho; cases ho
  | some o1 =>
    rw [e] at ho
    refine h1 Z F B H σ ρ s o1 e { E with nx := u E } ?_
    cases o1 with
    | nx ρ' => exact fun F' B' H' σ' s' y => h2 Z F' B' H' σ' ρ' s' o ho E (q.weak y)
    | rt k d ρ' =>
      have e2 := Option.some.inj (show some (Out.rt k d ρ') = some o from ho)
      subst e2
      exact q
    | bk ρ' =>
      have e2 := Option.some.inj (show some (Out.bk ρ') = some o from ho)
      subst e2
      exact q
    | ct ρ' =>
      have e2 := Option.some.inj (show some (Out.ct ρ') = some o from ho)
      subst e2
      exact q
    | er x ρ' =>
      have e2 := Option.some.inj (show some (Out.er x ρ') = some o from ho)
      subst e2
      exact q
theorem jb_cons (h1 : JS G k W N sc st g) (h2 : JB G k W N sc sts h) : JB G k W N sc (st :: sts) (gSeq g h) := by
  obtain ⟨t, a1, a2⟩ := h1
  obtain ⟨u, b1, b2⟩ := h2
  exact ⟨_, fun X c => pss_cons (a1 X c) (b1 X c), spec_seq a2 b2⟩
theorem jb_one (h1 : JS G k W N sc st g) : JB G k W N sc [st] g := by
  obtain ⟨t, a1, a2⟩ := h1
  exact ⟨_, fun X c => pss_one (a1 X c), a2⟩
theorem js_pass : JS G k W N sc (.Pass pos) gNx := ⟨_, fun X c => ps_pass, fun Z F B H σ ρ s o ho E q => by
  have e := Option.some.inj ho
  subst e
  exact q F B H σ s Gro.refl⟩
def gBk : SO := fun ρ => some (.bk ρ)
def gCt : SO := fun ρ => some (.ct ρ)
theorem js_break : JS G k W N sc (.Break pos) gBk := ⟨_, fun X c => ps_break, fun Z F B H σ ρ s o ho E q => by
  have e := Option.some.inj ho
  subst e
  exact q F B H σ s Gro.refl⟩
theorem js_cont : JS G k W N sc (.Continue pos) gCt := ⟨_, fun X c => ps_continue, fun Z F B H σ ρ s o ho E q => by
  have e := Option.some.inj ho
  subst e
  exact q F B H σ s Gro.refl⟩
/-- an expression, then something of its value -/
def gBnd {α : Type} (f : En → M α) (g : α → SO) : SO := fun ρ => match f ρ with
  | some (.ok d) => g d ρ
  | some (.error x) => some (.er x ρ)
  | none => none
theorem gBnd_some {α : Type} {f : En → M α} {g : α → SO} {ρ : En} {o : Out} (h : gBnd f g ρ = some o) : (∃ d, f ρ = some (.ok d) ∧ g d ρ = some o) ∨ (∃ x, f ρ = some (.error x) ∧ o = .er x ρ) := by
  unfold gBnd at h
  split at h
  · rename_i d e
    exact .inl ⟨d, e, h⟩
  · rename_i x e
    exact .inr ⟨x, e, (Option.some.inj h).symm⟩
  · cases h
theorem PostS.er {Z : Zn} {F B H : Hp} {σ : L2.St} {ρ : En} {E : Ends} {x : Xc} (s : SR G Z F B H σ ρ) (q : PostS G W Z F B E (.er x ρ)) {Q : VK} : PostE G W kd F B H σ Q (.error x) := fun F' B' H' cls dx u hx => q F' B' H' σ cls dx (s.up u) u.gro hx
theorem PostS.erT {Z : Zn} {F B H : Hp} {σ : L2.St} {ρ : En} {E : Ends} {x : Xc} (s : SR G Z F B H σ ρ) (q : PostS G W Z F B E (.er x ρ)) {Q : Bool → Hp → Prop} : PostT G W F B H σ Q (.error x) := fun F' B' H' cls dx u hx => q F' B' H' σ cls dx (s.up u) u.gro hx
def gDrop (f : En → M D) : SO := gBnd f fun _ => gNx
theorem js_expr (ha : JE G k W N sc .peek e f) (hs : ∀ X : Cx, swapsWith e none pos.line X.env = pure false) : JS G k W N sc (.Expr e pos) (gDrop f) := by
  obtain ⟨ta, a1, a2⟩ := ha
  refine ⟨_, fun X c => ps_expr (a1 X c.ce) (hs X), fun Z F B H σ ρ s o ho E q => ?_⟩
  rcases gBnd_some ho with ⟨d, ed, ho⟩ | ⟨x, ex, rfl⟩
  · refine a2 Z F B H σ ρ s _ ed _ fun F1 B1 H1 v1 u1 k1 => ?_
    have e := Option.some.inj ho
    subst e
    exact q F1 B1 H1 σ (s.up u1) u1.gro
  · exact a2 Z F B H σ ρ s _ ex _ (PostS.er s q)
theorem js_doc {x : Str} {j : Nat} {pos' : Pos} : JS G k W N sc (.Expr (.Constant (.str x) j pos) pos') gNx := ⟨_, fun X c => ps_doc, fun Z F B H σ ρ s o ho E q => by
  have e := Option.some.inj ho
  subst e
  exact q F B H σ s Gro.refl⟩
/-! return -/
def gRet (kd : Kd) (f : En → M D) : SO := gBnd f fun d ρ => some (.rt kd d ρ)
theorem js_retS (ha : JE G k W N sc .shared e f) : JS G k W N sc (.Return (some e) pos) (gRet .shared f) := by
  obtain ⟨ta, a1, a2⟩ := ha
  refine ⟨_, fun X c => ps_ret (a1 X c.ce), fun Z F B H σ ρ s o ho E q => ?_⟩
  rcases gBnd_some ho with ⟨d, ed, ho⟩ | ⟨x, ex, rfl⟩
  · refine a2 Z F B H σ ρ s _ ed _ fun F1 B1 H1 v1 u1 k1 => ?_
    have e := Option.some.inj ho
    subst e
    exact q F1 B1 H1 σ v1 (s.up u1) u1.gro k1
  · exact a2 Z F B H σ ρ s _ ex _ (PostS.er s q)
theorem js_retF (ha : JE G k W N sc .fresh e f) : JS G k W N sc (.Return (some e) pos) (gRet .fresh f) := by
  obtain ⟨ta, a1, a2⟩ := ha
  refine ⟨_, fun X c => ps_ret (a1 X c.ce), fun Z F B H σ ρ s o ho E q => ?_⟩
  rcases gBnd_some ho with ⟨d, ed, ho⟩ | ⟨x, ex, rfl⟩
  · refine a2 Z F B H σ ρ s _ ed _ fun F1 B1 H1 v1 u1 k1 => ?_
    have e := Option.some.inj ho
    subst e
    refine q F1 B1 H1 σ v1 (s.up u1) u1.gro ?_
    have k1 : (if d.isMut = true then ∃ p, v1 = .ref p ∧ H p = none ∧ B1 p = none ∧ OwnO G F1 H1 p d else Rep G F1 d v1) := k1
    show (if d.isMut = true then ∃ p, v1 = .ref p ∧ Z.H p = none ∧ B1 p = none ∧ OwnO G F1 H1 p d else Rep G F1 d v1)
    by_cases hm : d.isMut = true
    · rw [if_pos hm] at k1 ⊢
      obtain ⟨p, e1, e2, e3, e4⟩ := k1
      refine ⟨p, e1, ?_, e3, e4⟩
      cases hz : Z.H p with
      | none => rfl
      | some o => exact absurd e2 (s.zk p (by rw [hz]; intro z; cases z))
    · rw [if_neg hm] at k1 ⊢
      exact k1
  · exact a2 Z F B H σ ρ s _ ex _ (PostS.er s q)
/-- return x, x an own object -/
def gRetO (i : Nat) : SO := fun ρ => match ρ[i]? with
  | some (.ow d) => some (.rt .fresh d ρ)
  | some (.sh d) => if d.isMut = true then none else some (.rt .fresh d ρ)
  | _ => none
theorem js_retO {i : Nat} {x : Str} {p : Pos} (hi : N[i]? = some x) (hv : visB sc x = true) (hd : (x == ("__debug__" : Str)) = false) (hcd : (x == ("__classdict__" : Str)) = false) : JS G k W N sc (.Return (some (.Name x p)) pos) (gRetO i) := by
  refine ⟨tRet (tVar i), fun X c => ps_ret (pe_var (by rw [c.ce.hN]; exact hi) (by rw [c.ce.hsc]; exact vis_of hv) hd hcd), fun Z F B H σ ρ s o ho E q => ?_⟩
  unfold gRetO at ho
  split at ho
  · rename_i d e1
    have e := Option.some.inj ho
    subst e
    obtain ⟨p, a1, a2, a3, a4⟩ := s.sl i _ e1
    refine ⟨.ref p, s.at e1 a1, q F B H σ _ s Gro.refl ?_⟩
    show (if d.isMut = true then _ else _)
    by_cases hm : d.isMut = true
    · rw [if_pos hm]
      exact ⟨p, rfl, a2, a3, a4⟩
    · cases d <;> first | exact a4.elim | exact absurd rfl hm
  · rename_i d e1
    split at ho
    · cases ho
    · rename_i hm
      have e := Option.some.inj ho
      subst e
      obtain ⟨v, a1, a2⟩ := s.sl i _ e1
      refine ⟨v, s.at e1 a1, q F B H σ _ s Gro.refl ?_⟩
      show (if d.isMut = true then _ else _)
      rw [if_neg hm]
      exact a2
  · cases ho
def gRetN : SO := fun ρ => some (.rt .fresh .non ρ)
theorem js_retN : JS G k W N sc (.Return none pos) gRetN := ⟨_, fun X c => ps_retN, fun Z F B H σ ρ s o ho E q => by
  have e := Option.some.inj ho
  subst e
  exact q F B H σ .non s Gro.refl rfl⟩
/-! if -/
def gIf (ga : En → M Bool) (g h : SO) : SO := gBnd ga fun t => if t = true then g else h
theorem js_if {p q : List Stmt} (hc : JT G k W N sc c ga) (h1 : JB G k W N sc p g) (h2 : JB G k W N sc q h) : JS G k W N sc (.If c p q pos) (gIf ga g h) := by
  obtain ⟨tt, t1, t2⟩ := hc
  obtain ⟨t, a1, a2⟩ := h1
  obtain ⟨u, b1, b2⟩ := h2
  refine ⟨_, fun X c => ps_if (t1 X c.ce) (a1 X c) (b1 X c), fun Z F B H σ ρ s o ho E q => ?_⟩
  rcases gBnd_some ho with ⟨d, ed, ho⟩ | ⟨x, ex, rfl⟩
  · refine t2 Z F B H σ ρ s _ ed _ fun F1 B1 H1 u1 => ?_
    cases d with
    | true => exact a2 Z F1 B1 H1 σ ρ (s.up u1) o ho E (q.weak u1.gro)
    | false => exact b2 Z F1 B1 H1 σ ρ (s.up u1) o ho E (q.weak u1.gro)
  · exact t2 Z F B H σ ρ s _ ex _ (PostS.erT s q)
/-! x = e -/
def mkOw (d : D) : Sl := if d.isMut = true then .ow d else .sh d
/-- a slot that may be stored -/
def put (i : Nat) (q : Sl) (ρ : En) : Option En := match ρ[i]? with
  | some (.mu _) => none
  | some _ => some (ρ.set i q)
  | none => none
theorem put_some {i : Nat} {q : Sl} {ρ ρ' : En} (h : put i q ρ = some ρ') : i < ρ.length ∧ ρ' = ρ.set i q := by
  unfold put at h
  split at h
  · cases h
  · rename_i s _ e
    exact ⟨(List.getElem?_eq_some_iff.mp e).1, (Option.some.inj h).symm⟩
  · cases h
def gPut (i : Nat) (q : Sl) : SO := fun ρ => (put i q ρ).map .nx
def gSetF (i : Nat) (f : En → M D) : SO := gBnd f fun d => gPut i (mkOw d)
def gSetS (i : Nat) (f : En → M D) : SO := gBnd f fun d => gPut i (.sh d)
theorem gPut_some {i : Nat} {q : Sl} {ρ : En} {o : Out} (h : gPut i q ρ = some o) : i < ρ.length ∧ o = .nx (ρ.set i q) := by
  unfold gPut at h
  cases e : put i q ρ with
  | none => rw [e] at h; cases h
  | some ρ' =>
    rw [e] at h
    obtain ⟨h1, h2⟩ := put_some e
    exact ⟨h1, by rw [← h2]; exact (Option.some.inj h).symm⟩
def locB (sc : Scope) (x : Str) : Bool := match sc.names.lookup x with
  | some .local => true
  | some .cell => true
  | _ => false
theorem loc_of {sc : Scope} {x : Str} (h : locB sc x = true) : L2.Loc sc x := by
  unfold locB at h
  unfold L2.Loc
  split at h
  · rename_i e; exact .inl e
  · rename_i e; exact .inr e
  · cases h
/-- the store behind a fresh value -/
theorem SR.putF {Z : Zn} {F B H F1 B1 H1 : Hp} {σ : L2.St} {ρ : En} {i : Nat} {d : D} {v : V} (s : SR G Z F B H σ ρ) (u : Up F B H F1 B1 H1) (kr : KR G .fresh H F1 B1 H1 d v) (hi : i < ρ.length) : SR G Z F1 B1 H1 (σ.set i (some v)) (ρ.set i (mkOw d)) := by
  have kr : (if d.isMut = true then ∃ p, v = .ref p ∧ H p = none ∧ B1 p = none ∧ OwnO G F1 H1 p d else Rep G F1 d v) := kr
  by_cases hm : d.isMut = true
  · rw [if_pos hm] at kr
    obtain ⟨p, e1, e2, e3, e4⟩ := kr
    have em : mkOw d = .ow d := by unfold mkOw; rw [if_pos hm]
    rw [em]
    refine (s.up u).set hi ⟨p, by rw [e1], ?_, e3, e4⟩ fun d' p' j _ ep _ ho => ?_
    · cases hz : Z.H p with
      | none => rfl
      | some o => exact absurd e2 (s.zk p (by rw [hz]; intro z; cases z))
    · have epp : p = p' := by rw [e1] at ep; injection ep
      subst epp
      obtain ⟨⟨o, ho1⟩, _⟩ := s.own_there ho
      rw [e2] at ho1
      cases ho1
  · rw [if_neg hm] at kr
    have em : mkOw d = .sh d := by unfold mkOw; rw [if_neg hm]
    rw [em]
    exact (s.up u).set hi ⟨v, rfl, kr⟩ fun d' p' j ed => nomatch ed
theorem SR.putS {Z : Zn} {F B H F1 B1 H1 : Hp} {σ : L2.St} {ρ : En} {i : Nat} {d : D} {v : V} (s : SR G Z F B H σ ρ) (u : Up F B H F1 B1 H1) (kr : Rep G F1 d v) (hi : i < ρ.length) : SR G Z F1 B1 H1 (σ.set i (some v)) (ρ.set i (.sh d)) :=
  (s.up u).set hi ⟨v, rfl, kr⟩ fun d' p' j ed => nomatch ed
theorem js_setF {i : Nat} {x : Str} {p : Pos} (hi : N[i]? = some x) (hx : locB sc x = true) (ha : JE G k W N sc .fresh e f) (hs : ∀ X : Cx, X.env.scope = sc → swapsWith e (some (.Name x p)) pos.line X.env = pure false) : JS G k W N sc (.Assign [.Name x p] e pos) (gSetF i f) := by
  obtain ⟨ta, a1, a2⟩ := ha
  refine ⟨tAsg ta (gName i), fun X c => ps_set (by rw [c.ce.hN]; exact c.ce.nd) (by rw [c.ce.hN]; exact hi) (by rw [c.ce.hsc]; exact loc_of hx) (a1 X c.ce) (hs X c.ce.hsc) (.inl (c.fn x)), fun Z F B H σ ρ s o ho E q => ?_⟩
  rcases gBnd_some ho with ⟨d, ed, ho⟩ | ⟨x, ex, rfl⟩
  · refine a2 Z F B H σ ρ s _ ed _ fun F1 B1 H1 v1 u1 k1 => ?_
    obtain ⟨hl, rfl⟩ := gPut_some ho
    exact q F1 B1 H1 _ (s.putF u1 k1 hl) u1.gro
  · exact a2 Z F B H σ ρ s _ ex _ (PostS.er s q)
theorem js_setS {i : Nat} {x : Str} {p : Pos} (hi : N[i]? = some x) (hx : locB sc x = true) (ha : JE G k W N sc .shared e f) (hs : ∀ X : Cx, X.env.scope = sc → swapsWith e (some (.Name x p)) pos.line X.env = pure false) : JS G k W N sc (.Assign [.Name x p] e pos) (gSetS i f) := by
  obtain ⟨ta, a1, a2⟩ := ha
  refine ⟨tAsg ta (gName i), fun X c => ps_set (by rw [c.ce.hN]; exact c.ce.nd) (by rw [c.ce.hN]; exact hi) (by rw [c.ce.hsc]; exact loc_of hx) (a1 X c.ce) (hs X c.ce.hsc) (.inl (c.fn x)), fun Z F B H σ ρ s o ho E q => ?_⟩
  rcases gBnd_some ho with ⟨d, ed, ho⟩ | ⟨x, ex, rfl⟩
  · refine a2 Z F B H σ ρ s _ ed _ fun F1 B1 H1 v1 u1 k1 => ?_
    obtain ⟨hl, rfl⟩ := gPut_some ho
    exact q F1 B1 H1 _ (s.putS u1 k1 hl) u1.gro
  · exact a2 Z F B H σ ρ s _ ex _ (PostS.er s q)
/-- an own object may be shared from now on (nothing happens) -/
def frz (i : Nat) (ρ : En) : En := match ρ[i]? with
  | some (.ow d) => ρ.set i (.sh d)
  | _ => ρ
theorem SR.frz {Z : Zn} {F B H : Hp} {σ : L2.St} {ρ : En} (s : SR G Z F B H σ ρ) (i : Nat) : ∃ F1 B1, SR G Z F1 B1 H σ (frz i ρ) ∧ Gro F B F1 B1 := by
  unfold DL.frz
  split
  · rename_i d e
    obtain ⟨p, a1, a2, a3, a4⟩ := s.sl i _ e
    obtain ⟨o, ho⟩ := a4.there
    have hf : F p = none := by
      cases q : F p with
      | none => rfl
      | some o' => rw [s.fb p o' q] at a3; cases a3
    have fF : Same F (upd F p o) := fun a q e => by rw [upd_ne (ne_of_none e hf)]; exact e
    have fB : Same B (upd B p o) := fun a q e => by rw [upd_ne (ne_of_none e a3)]; exact e
    have hat : OwnAt σ ρ i p := ⟨⟨d, e⟩, s.at e a1⟩
    have hbh : Same (upd B p o) H := fun a q e => by
      by_cases h : a = p
      · subst h; rw [upd_same] at e; cases e; exact ho
      · rw [upd_ne h] at e; exact s.bh a q e
    have hfb : Same (upd F p o) (upd B p o) := fun a q e => by
      by_cases h : a = p
      · subst h; rw [upd_same] at e ⊢; exact e
      · rw [upd_ne h] at e ⊢; exact s.fb a q e
    have hi : i < ρ.length := (List.getElem?_eq_some_iff.mp e).1
    have hne : ∀ a, Z.H a ≠ none → a ≠ p := fun a ha z => by subst z; exact ha a2
    refine ⟨upd F p o, upd B p o, ⟨⟨hfb, hbh, s.zf.trans fF, s.zb.trans fB, fun a ha => ?_, s.zh, s.zk, s.mm, s.md, by rw [List.length_set]; exact s.len, fun j t ht => ?_, fun j k' p' hj hk => ?_, fun q hq => ?_, s.la⟩, ⟨fF, fB⟩⟩⟩
    · rw [upd_ne (hne a ha), upd_ne (hne a ha)]
      exact s.zo a ha
    · by_cases hj : j = i
      · subst hj
        rw [List.getElem?_set_self hi] at ht
        cases ht
        refine ⟨.ref p, a1, OwnO.rep (a4.mono (F' := upd F p o) (H' := upd F p o) fF fun o' e' => ?_)⟩
        rw [ho] at e'
        rw [upd_same]
        exact e'
      · rw [List.getElem?_set_ne (Ne.symm hj)] at ht
        have h := s.sl j t ht
        cases t with
        | un => trivial
        | sh d' =>
          obtain ⟨v, e1, e2⟩ := h
          exact ⟨v, e1, e2.mono fF⟩
        | bo d' =>
          obtain ⟨v, e1, e2⟩ := h
          exact ⟨v, e1, e2.mono fF (Same.refl _)⟩
        | ow d' =>
          obtain ⟨p', e1, e2, e3, e4⟩ := h
          have hpp : p' ≠ p := fun z => hj (s.nd j i p ⟨⟨d', ht⟩, by rw [← z]; exact s.at ht e1⟩ hat)
          exact ⟨p', e1, e2, by rw [upd_ne hpp]; exact e3, e4.mono fF fun _ q => q⟩
        | mu d' =>
          obtain ⟨p', e1, e2, e3, e4⟩ := h
          exact ⟨p', e1, e2, by rw [upd_ne (hne p' (s.mm _ p' e2).1)]; exact e3, e4.mono fF fun _ q => q⟩
        | ln d' =>
          obtain ⟨p', e1, e2, e4⟩ := h
          exact ⟨p', e1, e2, e4.mono fF (fB p')⟩
    · have back : ∀ l p', OwnAt σ (ρ.set i (.sh d)) l p' → OwnAt σ ρ l p' := fun l p' hl => by
        obtain ⟨⟨d', h1⟩, h2⟩ := hl
        by_cases hli : l = i
        · subst hli
          rw [List.getElem?_set_self hi] at h1
          cases h1
        · rw [List.getElem?_set_ne (Ne.symm hli)] at h1
          exact ⟨⟨d', h1⟩, h2⟩
      exact s.nd j k' p' (back j p' hj) (back k' p' hk)
    · obtain ⟨h1, o1, h2⟩ := s.lt q hq
      have hqp : q ≠ p := fun z => by subst z; rw [a3] at h2; cases h2
      exact ⟨by rw [upd_ne hqp]; exact h1, o1, fB q o1 h2⟩
  · exact ⟨F, B, s, Gro.refl⟩
def gFrz (i : Nat) (g : SO) : SO := fun ρ => g (frz i ρ)
theorem js_frz (i : Nat) (h : JS G k W N sc st g) : JS G k W N sc st (gFrz i g) := by
  obtain ⟨t, a1, a2⟩ := h
  refine ⟨t, a1, fun Z F B H σ ρ s o ho E q => ?_⟩
  obtain ⟨F1, B1, s1, y⟩ := s.frz i
  exact a2 Z F1 B1 H σ _ s1 o ho E (q.weak y)
end
end DL

namespace DL
open PySem PySem.Spec L2
section
variable {G : Gm} {k : Nat} {W : WX} {N : List Str} {sc : Scope} {e a b c : Expr} {f fa fb fc : En → M D} {ga gb : En → M Bool} {pos : Pos} {st : Stmt} {sts : List Stmt} {g : SO} {Cn : Cx → Prop}
/-! ### targets -/
theorem wipe_set {σ : L2.St} {i : Nat} {o : Option V} : ∀ {vs : List Nat}, i ∈ vs → wipe (σ.set i o) vs = wipe σ vs
  | v :: vs, h => by
    unfold wipe
    by_cases hi : i ∈ vs
    · rw [wipe_set hi]
    · have hv : i = v := by
        rcases List.mem_cons.mp h with h | h
        · exact h
        · exact absurd h hi
      subst hv
      have comm : ∀ {vs : List Nat}, i ∉ vs → wipe (σ.set i o) vs = (wipe σ vs).set i o := fun {vs} hn => by
        induction vs with
        | nil => rfl
        | cons w ws ih =>
          unfold wipe
          rw [ih (fun z => hn (List.mem_cons_of_mem _ z)), List.set_comm _ _ (fun z => hn (by rw [z]; exact List.mem_cons_self))]
      rw [comm hi, List.set_set]
def JG (G : Gm) (Cn : Cx → Prop) (tg : Expr) (is : List Nat) (h : D → En → Option En) : Prop :=
  ∃ t : TG, (∀ X, Cn X → PG X tg t) ∧ ∀ Z F B H σ ρ, SR G Z F B H σ ρ → ∀ d v, Rep G F d v → ∀ ρ', h d ρ = some ρ' → ∀ Q : L2.St → Hp → Prop,
    (∀ σ', SR G Z F B H σ' ρ' → (∀ vs, (∀ i ∈ is, i ∈ vs) → wipe σ' vs = wipe σ vs) → (∀ j p, OwnAt σ' ρ' j p → OwnAt σ ρ j p) → Q σ' H) → t v σ H Q
def JGs (G : Gm) (Cn : Cx → Prop) (tg : List Expr) (is : List Nat) (h : List D → En → Option En) : Prop :=
  ∃ t : TGs, (∀ X, Cn X → PGs X tg t) ∧ ∀ Z F B H σ ρ, SR G Z F B H σ ρ → ∀ ds vs, RepL G F ds vs → ∀ ρ', h ds ρ = some ρ' → ∀ Q : L2.St → Hp → Prop,
    (∀ σ', SR G Z F B H σ' ρ' → (∀ vs, (∀ i ∈ is, i ∈ vs) → wipe σ' vs = wipe σ vs) → (∀ j p, OwnAt σ' ρ' j p → OwnAt σ ρ j p) → Q σ' H) → t vs σ H Q
def hNm (i : Nat) : D → En → Option En := fun d ρ => put i (.sh d) ρ
def hNil : List D → En → Option En
  | [], ρ => some ρ
  | _, _ => none
def hCons (h : D → En → Option En) (hs : List D → En → Option En) : List D → En → Option En
  | d :: ds, ρ => (h d ρ).bind (hs ds)
  | _, _ => none
def hTup (hs : List D → En → Option En) : D → En → Option En
  | .tup ds, ρ => hs ds ρ
  | _, _ => none
theorem jg_name {i : Nat} {x : Str} {p : Pos} (h : ∀ X, Cn X → PG X (.Name x p) (gName i)) : JG G Cn (.Name x p) [i] (hNm i) := by
  refine ⟨gName i, h, fun Z F B H σ ρ s d v r ρ' hp Q q => ?_⟩
  obtain ⟨hl, rfl⟩ := put_some hp
  exact q _ (s.putS (Up.refl s.fb s.bh) r hl) (fun vs hv => wipe_set (hv i (by simp))) fun j p ho => by
    obtain ⟨⟨d', h1⟩, h2⟩ := ho
    by_cases hji : j = i
    · subst hji
      rw [List.getElem?_set_self hl] at h1
      cases h1
    · rw [List.getElem?_set_ne (Ne.symm hji)] at h1 h2
      exact ⟨⟨d', h1⟩, h2⟩
theorem pgS {i : Nat} {x : Str} {p : Pos} (hi : N[i]? = some x) (hx : locB sc x = true) : ∀ X, CnS G k W N sc X → PG X (.Name x p) (gName i) := fun X c =>
  pg_name (by rw [c.ce.hN]; exact c.ce.nd) (by rw [c.ce.hN]; exact hi) (by rw [c.ce.hsc]; exact loc_of hx) (.inl (c.fn x))
theorem pgE {i : Nat} {x : Str} {p : Pos} (hi : N[i]? = some x) (hx : sc.names.lookup x = some .local) : ∀ X, CnE G k W N sc X → PG X (.Name x p) (gName i) := fun X c =>
  pg_name (by rw [c.hN]; exact c.nd) (by rw [c.hN]; exact hi) (by rw [c.hsc]; exact .inl hx) (.inr (by rw [c.hsc]; exact hx))
theorem jgs_nil : JGs G Cn [] [] hNil := by
  refine ⟨gNil, fun X c => pgs_nil, fun Z F B H σ ρ s ds vs r ρ' hp Q q => ?_⟩
  cases ds with
  | nil =>
    have e := Option.some.inj (show some ρ = some ρ' from hp)
    subst e
    exact ⟨r, q σ s (fun _ _ => rfl) fun _ _ z => z⟩
  | cons d ds => cases hp
theorem jgs_cons {es : List Expr} {is js : List Nat} {h : D → En → Option En} {hs : List D → En → Option En} (h1 : JG G Cn e is h) (h2 : JGs G Cn es js hs)
    (ha : ∀ env : Env, (assignEach (e :: es) env).map (·.2) = assign e env :: (assignEach es env).map (·.2)) : JGs G Cn (e :: es) (is ++ js) (hCons h hs) := by
  obtain ⟨t, a1, a2⟩ := h1
  obtain ⟨u, b1, b2⟩ := h2
  refine ⟨gCons t u, fun X c => pgs_cons (a1 X c) (b1 X c) (ha _), fun Z F B H σ ρ s ds vs r ρ' hp Q q => ?_⟩
  cases ds with
  | nil => cases hp
  | cons d ds =>
    obtain ⟨v, vs', rfl, r1, r2⟩ := r
    have hp : (h d ρ).bind (hs ds) = some ρ' := hp
    cases e1 : h d ρ with
    | none => rw [e1] at hp; cases hp
    | some ρ1 =>
      rw [e1] at hp
      refine ⟨v, vs', rfl, a2 Z F B H σ ρ s d v r1 ρ1 e1 _ fun σ1 s1 w1 o1 => ?_⟩
      exact b2 Z F B H σ1 ρ1 s1 ds vs' r2 ρ' hp Q fun σ2 s2 w2 o2 => q σ2 s2 (fun vs hv =>
        (w2 vs fun i hi => hv i (List.mem_append_right _ hi)).trans (w1 vs fun i hi => hv i (List.mem_append_left _ hi))) fun j p z => o1 j p (o2 j p z)
theorem jg_tup {es : List Expr} {kk n : Nat} {is : List Nat} {hs : List D → En → Option En} (hc : ∀ X, Cn X → X.calm = true ∧ X.K = G.K) (h : JGs G Cn es is hs) (hn : ∀ env : Env, (assignEach es env).length = n) (hst : ∀ env : Env, (assignEach es env).findIdx? (·.1) = none) (hl : ∀ ds ρ ρ', hs ds ρ = some ρ' → ds.length = n) :
    JG G Cn (.Tuple es kk pos) is (hTup hs) := by
  obtain ⟨t, a1, a2⟩ := h
  refine ⟨gTup G.K n t, fun X c => by rw [← (hc X c).2]; exact pg_tup (hc X c).1 (a1 X c) (hn _) (hst _), fun Z F B H σ ρ s d v r ρ' hp Q q => ?_⟩
  cases d <;> first
    | cases hp
    | (rename_i l
       obtain ⟨p, vs, rfl, h1, h2⟩ := topT (s.fb.trans s.bh) (show Top G F H (.tup l) v from r)
       exact ⟨p, vs, rfl, h1, by rw [h2.length]; exact hl l ρ ρ' hp, a2 Z F B H σ ρ s l vs h2 ρ' hp Q q⟩)
theorem hNil_len {ds : List D} {ρ ρ' : En} (h : hNil ds ρ = some ρ') : ds.length = 0 := by
  cases ds with
  | nil => rfl
  | cons d ds => cases h
theorem hCons_len {n : Nat} {h : D → En → Option En} {hs : List D → En → Option En} (hl : ∀ ds ρ ρ', hs ds ρ = some ρ' → ds.length = n) {ds : List D} {ρ ρ' : En} (e : hCons h hs ds ρ = some ρ') : ds.length = n + 1 := by
  cases ds with
  | nil => cases e
  | cons d ds =>
    have e : (h d ρ).bind (hs ds) = some ρ' := e
    cases e1 : h d ρ with
    | none => rw [e1] at e; cases e
    | some ρ1 =>
      rw [e1] at e
      rw [List.length_cons, hl ds ρ1 ρ' e]

/-! ### what is walked -/
def ItR (G : Gm) (F B : Hp) (J : It) (items : List D) : Prop :=
  Walk J items.length (fun H => Same B H) fun i H x H1 => ∀ F1 B1, Gro F B F1 B1 → Same F1 B1 → Same B1 H → ∃ F2 B2 d, items[i]? = some d ∧ Up F1 B1 H F2 B2 H1 ∧ Rep G F2 d x
def PostI (G : Gm) (W : WX) (F B H : Hp) (σ : L2.St) (R : It → Hp → Prop) : Except Xc (List D) → Prop
  | .ok items => ∀ F' B' H' J, Up F B H F' B' H' → ItR G F' B' J items → R J H'
  | .error x => ∀ F' B' H' cls dx, Up F B H F' B' H' → XR G F' H' x cls dx → W cls dx σ H'
def JI (G : Gm) (k : Nat) (W : WX) (N : List Str) (sc : Scope) (tg e : Expr) (fi : En → M (List D)) : Prop :=
  ∃ wi : TI, (∀ X, CnE G k W N sc X → PI X tg e wi) ∧ ∀ Z F B H σ ρ, SR G Z F B H σ ρ → ∀ r, fi ρ = some r → ∀ R, PostI G W F B H σ R r → wi σ H R
theorem itr_list {F B : Hp} {p : Addr} {l : List D} {vs : List V} (h : B p = some (.lst vs)) (r : RepL G F l vs) : ItR G F B (Itl G.K p) l where
  goes := fun i H hi hb => ⟨vs, vs[i]'(by rw [r.length]; exact hi), SqL.of (hb _ _ h), by simp⟩
  stops := fun H hb => ⟨vs, SqL.of (hb _ _ h), by rw [r.length]; exact Nat.le_refl _⟩
  yields := fun i H x H1 hi hb y F1 B1 gr fb bh => by
    obtain ⟨rfl, y⟩ := y
    have e := y vs (SqL.of (hb _ _ h))
    obtain ⟨d, e1, e2⟩ := r.getV e
    exact ⟨F1, B1, d, e1, Up.refl fb bh, e2.mono gr.f⟩
theorem itr_tup {F B : Hp} {p : Addr} {l : List D} {vs : List V} (h : SqT G.K B p vs) (r : RepL G F l vs) : ItR G F B (Itt G.K p) l := by
  have up : ∀ {H : Hp}, Same B H → SqT G.K H p vs := fun {H} hb => by
    rcases h with (h | ⟨o, h⟩) | h
    · exact .inl (.inl (hb _ _ h))
    · exact .inl (.inr ⟨o, hb _ _ h⟩)
    · exact .inr h
  exact {
    goes := fun i H hi hb => ⟨vs, vs[i]'(by rw [r.length]; exact hi), up hb, by simp⟩
    stops := fun H hb => ⟨vs, up hb, by rw [r.length]; exact Nat.le_refl _⟩
    yields := fun i H x H1 hi hb y F1 B1 gr fb bh => by
      obtain ⟨rfl, y⟩ := y
      have e := y vs (up hb)
      obtain ⟨d, e1, e2⟩ := r.getV e
      exact ⟨F1, B1, d, e1, Up.refl fb bh, e2.mono gr.f⟩ }
/-- a list or a tuple, walked -/
def iSq (K : PySem.W.Frag) (tl : TE) : TI := fun σ H R => tl σ H fun x H1 => ∃ p, x = .ref p ∧ ((∃ xs, SqL K H1 p xs ∧ R (Itl K p) H1) ∨ (∃ xs, SqT K H1 p xs ∧ R (Itt K p) H1))
theorem pi_sq {X : Cx} {tg l : Expr} {tl : TE} (hl : PE X l tl) : PI X tg l (iSq X.K tl) := by
  refine ⟨fun pp s σ H R I h => thn (hl.run pp s σ H _ I h) fun v t ⟨x, H1, J, r1, p, ex, q1⟩ => ?_⟩
  subst ex
  cases r1
  have new : ∀ {o : Obj}, Inv X pp σ H1 { t with heap := t.heap.push o } := fun {o} => J.kept (t' := t.toks) fun b o' e => Heap.get?_push_of_some _ e
  have fp : ∀ b ∈ [t.heap.objs.size], FpOk X pp H1 b := fun b hb => by
    rw [List.mem_singleton.mp hb]
    exact J.fpOk (Nat.le_refl _) (J.hok.fresh (Nat.le_refl _))
  rcases q1 with ⟨xs, hq, q⟩ | ⟨xs, hq, q⟩
  · obtain ⟨us, rv, pl, hz⟩ := J.list hq
    exact wpAny_pyIter_list pl.isList ⟨_, [_], _, _, H1, rfl, new, turn_list p _, ⟨_, Heap.get?_push_size _ rfl, rfl, rfl⟩, fp, q⟩
  · obtain ⟨us, rv, pl, hz⟩ := J.tuple hq
    exact wpAny_pyIter_tuple (show t.heap.IsTuple p us.toArray from pl) ⟨_, [_], _, _, H1, rfl, new, turn_tuple p _, ⟨_, Heap.get?_push_size _ rfl, rfl, rfl⟩, fp, q⟩
def itemsD : D → Option (List D)
  | .lst l => some l
  | .tup l => some l
  | _ => none
def fIt (f : En → M D) : En → M (List D) := fun ρ => (f ρ).bnd fun x => up1 (itemsD x)
theorem ji_sq {tg : Expr} (h : JE G k W N sc .borrow e f) : JI G k W N sc tg e (fIt f) := by
  obtain ⟨te, a1, a2⟩ := h
  refine ⟨iSq G.K te, fun X c => by rw [← c.hK]; exact pi_sq (a1 X c), fun Z F B H σ ρ s r hr R q => ?_⟩
  rcases bnd_some hr with ⟨x, ex, hr⟩ | ⟨x, ex, rfl⟩
  · refine a2 Z F B H σ ρ s _ ex _ fun F1 B1 H1 v1 u1 k1 => ?_
    obtain ⟨items, ei, rfl⟩ := up1_ok hr
    unfold itemsD at ei
    split at ei
    · have e := Option.some.inj ei
      subst e
      obtain ⟨p, vs, rfl, h1, h2⟩ := topL (show Top G F1 B1 _ v1 from k1)
      exact ⟨p, rfl, .inl ⟨vs, SqL.of (u1.bh _ _ h1), q F1 B1 H1 _ u1 (itr_list h1 h2)⟩⟩
    · have e := Option.some.inj ei
      subst e
      obtain ⟨p, vs, rfl, h1, h2⟩ := topT u1.fb (show Top G F1 B1 _ v1 from k1)
      refine ⟨p, rfl, .inr ⟨vs, ?_, q F1 B1 H1 _ u1 (itr_tup h1 h2)⟩⟩
      rcases h1 with (h1 | ⟨o, h1⟩) | h1
      · exact .inl (.inl (u1.bh _ _ h1))
      · exact .inl (.inr ⟨o, u1.bh _ _ h1⟩)
      · exact .inr h1
    · cases ei
  · exact a2 Z F B H σ ρ s _ ex _ q
/-! ranges -/
def rngD (lo hi : Int) : List D := (List.range (hi - lo).toNat).map fun i => D.int (lo + (i : Nat))
theorem itr_rng {F B : Hp} {lo : Int} {n : Nat} : ItR G F B (Itr lo n) ((List.range n).map fun i => D.int (lo + (i : Nat))) where
  goes := fun i H hi hb => by
    rw [List.length_map, List.length_range] at hi
    exact hi
  stops := fun H hb => by
    rw [List.length_map, List.length_range]
    exact Nat.le_refl _
  yields := fun i H x H1 hi hb y F1 B1 gr fb bh => by
    obtain ⟨rfl, rfl⟩ := y
    rw [List.length_map, List.length_range] at hi
    exact ⟨F1, B1, .int (lo + (i : Nat)), by rw [List.getElem?_map, List.getElem?_range hi]; rfl, Up.refl fb bh, rfl⟩
def rng1 : List D → Option (List D)
  | [.int n] => if -16000000 ≤ n ∧ n ≤ 16000000 then some (rngD 0 n) else none
  | _ => none
def rng2 : List D → Option (List D)
  | [.int m, .int n] => if -16000000 ≤ n ∧ n ≤ 16000000 ∧ -16000000 ≤ m ∧ m ≤ 16000000 then some (rngD m n) else none
  | _ => none
def fRng (op : List D → Option (List D)) (fs : En → M (List D)) : En → M (List D) := fun ρ => (fs ρ).bnd fun xs => up1 (op xs)
theorem ji_rng1 {tg : Expr} {p : Pos} (hg : glB sc "range" = true) (hm : G.mg "range" = none) (hp : PlainArg a) (ha : JE G k W N sc .peek a fa) : JI G k W N sc tg (.Call (.Name "range" p) [a] [] pos) (fRng rng1 (fCons fa fNil)) := by
  obtain ⟨ta, a1, a2⟩ := ja_consP hp ha ja_nil
  refine ⟨iRng1 ta, fun X c => pi_range1 (gl_of c.hsc hg) (by rw [c.hmg]; exact hm) (a1 X c) (hp [] _), fun Z F B H σ ρ s r hr R q => ?_⟩
  rcases bnd_some hr with ⟨x, ex, hr⟩ | ⟨x, ex, rfl⟩
  · refine a2 Z F B H σ ρ s _ ex _ fun F1 B1 H1 vs u1 k1 => ?_
    obtain ⟨items, ei, rfl⟩ := up1_ok hr
    unfold rng1 at ei
    split at ei
    · rename_i n
      split at ei
      · rename_i hn
        have e := Option.some.inj ei
        subst e
        obtain ⟨v, rfl, h⟩ := ar1 k1
        refine ⟨n, by rw [show v = .int n from h], by omega, by omega, q F1 B1 H1 _ u1 ?_⟩
        unfold rngD
        rw [Int.sub_zero]
        exact itr_rng
      · cases ei
    · cases ei
  · exact a2 Z F B H σ ρ s _ ex _ q
theorem ji_rng2 {tg : Expr} {p : Pos} (hg : glB sc "range" = true) (hm : G.mg "range" = none) (hp : PlainArg a) (hp2 : PlainArg b) (ha : JE G k W N sc .peek a fa) (hb : JE G k W N sc .peek b fb) : JI G k W N sc tg (.Call (.Name "range" p) [a, b] [] pos) (fRng rng2 (fCons fa (fCons fb fNil))) := by
  obtain ⟨ta, a1, a2⟩ := ja_consP hp ha (ja_consP hp2 hb ja_nil)
  refine ⟨iRng2 ta, fun X c => pi_range2 (gl_of c.hsc hg) (by rw [c.hmg]; exact hm) (a1 X c) (by rw [hp [b], hp2 []]; rfl) (hp2 [] _), fun Z F B H σ ρ s r hr R q => ?_⟩
  rcases bnd_some hr with ⟨x, ex, hr⟩ | ⟨x, ex, rfl⟩
  · refine a2 Z F B H σ ρ s _ ex _ fun F1 B1 H1 vs u1 k1 => ?_
    obtain ⟨items, ei, rfl⟩ := up1_ok hr
    unfold rng2 at ei
    split at ei
    · rename_i m n
      split at ei
      · rename_i hn
        have e := Option.some.inj ei
        subst e
        obtain ⟨v, w, rfl, h, h'⟩ := ar2 k1
        exact ⟨m, n, by rw [show v = .int m from h, show w = .int n from h'], ⟨by omega, by omega, by omega, by omega⟩, q F1 B1 H1 _ u1 itr_rng⟩
      · cases ei
    · cases ei
  · exact a2 Z F B H σ ρ s _ ex _ q

/-! ### for -/
def loopG (h : D → En → Option En) (g : SO) : List D → SO
  | [], ρ => some (.nx ρ)
  | d :: ds, ρ => match h d ρ with
    | none => none
    | some ρ1 => match g ρ1 with
      | some (.nx ρ2) => loopG h g ds ρ2
      | some (.ct ρ2) => loopG h g ds ρ2
      | some (.bk ρ2) => some (.nx ρ2)
      | o => o
def gFor (fi : En → M (List D)) (h : D → En → Option En) (g : SO) : SO := gBnd fi fun items => loopG h g items
theorem PostS.erI {Z : Zn} {F B H : Hp} {σ : L2.St} {ρ : En} {E : Ends} {x : Xc} (s : SR G Z F B H σ ρ) (q : PostS G W Z F B E (.er x ρ)) {R : It → Hp → Prop} : PostI G W F B H σ R (.error x) := fun F' B' H' cls dx u hx => q F' B' H' σ cls dx (s.up u) u.gro hx
theorem spec_for {wi : TI} {t : TG} {tb : TS} {fi : En → M (List D)} {is : List Nat} {h : D → En → Option En}
    (hi : ∀ Z F B H σ ρ, SR G Z F B H σ ρ → ∀ r, fi ρ = some r → ∀ R, PostI G W F B H σ R r → wi σ H R)
    (ht : ∀ Z F B H σ ρ, SR G Z F B H σ ρ → ∀ d v, Rep G F d v → ∀ ρ', h d ρ = some ρ' → ∀ Q : L2.St → Hp → Prop, (∀ σ', SR G Z F B H σ' ρ' → (∀ vs, (∀ i ∈ is, i ∈ vs) → wipe σ' vs = wipe σ vs) → (∀ j p, OwnAt σ' ρ' j p → OwnAt σ ρ j p) → Q σ' H) → t v σ H Q)
    (hb : SpecS G W tb g) : SpecS G W (tFor wi t tb) (gFor fi h g) := by
  intro Z F B H σ ρ s o ho E q
  rcases gBnd_some ho with ⟨items, ed, ho⟩ | ⟨x, ex, rfl⟩
  · refine hi Z F B H σ ρ s _ ed _ fun F1 B1 H1 J u1 it => ?_
    have q1 := q.weak u1.gro
    refine for_it it (fun i σ' H' => ∃ F' B' ρ', SR G Z F' B' H' σ' ρ' ∧ Gro F1 B1 F' B' ∧ loopG h g (items.drop i) ρ' = some o) ⟨F1, B1, ρ, s.up u1, Gro.refl, ho⟩ ?_ ?_ ?_
    · rintro i σ' H' hi ⟨F', B', ρ', s', gr, _⟩
      exact gr.b.trans s'.bh
    · rintro i x σ' H' H2 hi ⟨F', B', ρ', s', gr, hl⟩ y
      obtain ⟨F2, B2, d, ed, u2, rd⟩ := y F' B' gr s'.fb s'.bh
      have hd : items.drop i = d :: items.drop (i + 1) := by
        obtain ⟨hi', e⟩ := List.getElem?_eq_some_iff.mp ed
        rw [List.drop_eq_getElem_cons hi', e]
      rw [hd] at hl
      unfold loopG at hl
      cases e1 : h d ρ' with
      | none => rw [e1] at hl; cases hl
      | some ρ1 =>
        rw [e1] at hl
        have hl : (match g ρ1 with
          | some (.nx ρ2) => loopG h g (items.drop (i + 1)) ρ2
          | some (.ct ρ2) => loopG h g (items.drop (i + 1)) ρ2
          | some (.bk ρ2) => some (.nx ρ2)
          | o => o) = some o := hl
        refine ht Z F2 B2 H2 σ' ρ' (s'.up u2) d x rd ρ1 e1 _ fun σ3 s3 _ _ => ?_
        have gr2 : Gro F1 B1 F2 B2 := gr.trans u2.gro
        cases e2 : g ρ1 with
        | none => rw [e2] at hl; cases hl
        | some o1 =>
          rw [e2] at hl
          refine hb Z F2 B2 H2 σ3 ρ1 s3 o1 e2 _ ?_
          cases o1 with
          | nx ρ2 => exact fun F4 B4 H4 σ4 s4 gr4 => ⟨F4, B4, ρ2, s4, gr2.trans gr4, hl⟩
          | ct ρ2 => exact fun F4 B4 H4 σ4 s4 gr4 => ⟨F4, B4, ρ2, s4, gr2.trans gr4, hl⟩
          | bk ρ2 =>
            have e := Option.some.inj (show some (Out.nx ρ2) = some o from hl)
            subst e
            exact fun F4 B4 H4 σ4 s4 gr4 => q1 F4 B4 H4 σ4 s4 (gr2.trans gr4)
          | rt kd d ρ2 =>
            have e := Option.some.inj (show some (Out.rt kd d ρ2) = some o from hl)
            subst e
            exact fun F4 B4 H4 σ4 v4 s4 gr4 r4 => q1 F4 B4 H4 σ4 v4 s4 (gr2.trans gr4) r4
          | er x ρ2 =>
            have e := Option.some.inj (show some (Out.er x ρ2) = some o from hl)
            subst e
            exact fun F4 B4 H4 σ4 cls dx s4 gr4 r4 => q1 F4 B4 H4 σ4 cls dx s4 (gr2.trans gr4) r4
    · rintro σ' H' ⟨F', B', ρ', s', gr, hl⟩
      rw [List.drop_length] at hl
      have e := Option.some.inj (show some (Out.nx ρ') = some o from hl)
      subst e
      exact q1 F' B' H' σ' s' gr
  · exact hi Z F B H σ ρ s _ ex _ (PostS.erI s q)
theorem js_for {tg iter : Expr} {body : List Stmt} {fi : En → M (List D)} {is : List Nat} {h : D → En → Option En} (hi : JI G k W N sc tg iter fi) (ht : JG G (CnS G k W N sc) tg is h) (hb : JB G k W N sc body g) (hs : ∀ (X : Cx) x, foldedSetIterable iter X.env x = pure x) :
    JS G k W N sc (.For tg iter body [] pos) (gFor fi h g) := by
  obtain ⟨wi, a1, a2⟩ := hi
  obtain ⟨t, b1, b2⟩ := ht
  obtain ⟨tb, c1, c2⟩ := hb
  exact ⟨_, fun X c => ps_for c.own c.ce.calm (a1 X c.ce) (b1 X c) (c1 X c) (hs X), spec_for a2 b2 c2⟩
/-! ### while -/
def whileG (ga : En → M Bool) (g : SO) : Nat → SO
  | 0, _ => none
  | n + 1, ρ => match ga ρ with
    | some (.ok true) => (match g ρ with
      | some (.nx ρ2) => whileG ga g n ρ2
      | some (.ct ρ2) => whileG ga g n ρ2
      | some (.bk ρ2) => some (.nx ρ2)
      | o => o)
    | some (.ok false) => some (.nx ρ)
    | some (.error x) => some (.er x ρ)
    | none => none
theorem spec_while {tt : TT} {tb : TS} {n : Nat} (hc : SpecT G W tt ga) (hb : SpecS G W tb g) : SpecS G W (tWhile tt tb) (whileG ga g n) := by
  intro Z F B H σ ρ s o ho E q
  refine ⟨fun m σ' H' => ∃ F' B' ρ', SR G Z F' B' H' σ' ρ' ∧ Gro F B F' B' ∧ whileG ga g m ρ' = some o, ⟨n, F, B, ρ, s, Gro.refl, ho⟩, ?_⟩
  rintro m σ' H' ⟨F', B', ρ', s', gr, hl⟩
  cases m with
  | zero => cases hl
  | succ m =>
    unfold whileG at hl
    cases e1 : ga ρ' with
    | none => rw [e1] at hl; cases hl
    | some r =>
      rw [e1] at hl
      refine hc Z F' B' H' σ' ρ' s' r e1 _ ?_
      cases r with
      | error x =>
        have e := Option.some.inj (show some (Out.er x ρ') = some o from hl)
        subst e
        exact fun F2 B2 H2 cls dx u hx => q F2 B2 H2 σ' cls dx (s'.up u) (gr.trans u.gro) hx
      | ok t =>
        intro F1 B1 H1 u1
        have gr1 := gr.trans u1.gro
        cases t with
        | false =>
          have e := Option.some.inj (show some (Out.nx ρ') = some o from hl)
          subst e
          exact q F1 B1 H1 σ' (s'.up u1) gr1
        | true =>
          refine ⟨fun σ4 H4 => ∃ F4 B4 ρ4, SR G Z F4 B4 H4 σ4 ρ4 ∧ Gro F B F4 B4 ∧ whileG ga g m ρ4 = some o, fun σ4 H4 h4 => ⟨m, Nat.lt_succ_self _, h4⟩, ?_⟩
          have hl : (match g ρ' with
            | some (.nx ρ2) => whileG ga g m ρ2
            | some (.ct ρ2) => whileG ga g m ρ2
            | some (.bk ρ2) => some (.nx ρ2)
            | o => o) = some o := hl
          cases e2 : g ρ' with
          | none => rw [e2] at hl; cases hl
          | some o1 =>
            rw [e2] at hl
            refine hb Z F1 B1 H1 σ' ρ' (s'.up u1) o1 e2 _ ?_
            cases o1 with
            | nx ρ2 => exact fun F4 B4 H4 σ4 s4 gr4 => ⟨F4, B4, ρ2, s4, gr1.trans gr4, hl⟩
            | ct ρ2 => exact fun F4 B4 H4 σ4 s4 gr4 => ⟨F4, B4, ρ2, s4, gr1.trans gr4, hl⟩
            | bk ρ2 =>
              have e := Option.some.inj (show some (Out.nx ρ2) = some o from hl)
              subst e
              exact fun F4 B4 H4 σ4 s4 gr4 => q F4 B4 H4 σ4 s4 (gr1.trans gr4)
            | rt kd d ρ2 =>
              have e := Option.some.inj (show some (Out.rt kd d ρ2) = some o from hl)
              subst e
              exact fun F4 B4 H4 σ4 v4 s4 gr4 r4 => q F4 B4 H4 σ4 v4 s4 (gr1.trans gr4) r4
            | er x ρ2 =>
              have e := Option.some.inj (show some (Out.er x ρ2) = some o from hl)
              subst e
              exact fun F4 B4 H4 σ4 cls dx s4 gr4 r4 => q F4 B4 H4 σ4 cls dx s4 (gr1.trans gr4) r4
theorem js_while {body : List Stmt} (n : Nat) (hc : JT G k W N sc c ga) (hb : JB G k W N sc body g) : JS G k W N sc (.While c body [] pos) (whileG ga g n) := by
  obtain ⟨tt, a1, a2⟩ := hc
  obtain ⟨tb, c1, c2⟩ := hb
  exact ⟨_, fun X c => ps_while c.own (a1 X c.ce) (c1 X c), spec_while a2 c2⟩
end
end DL

namespace DL
open PySem PySem.Spec L2
abbrev W0 : WX := fun _ _ _ _ => False
def wipeE (ρ : En) : List Nat → En
  | [] => ρ
  | v :: vs => (wipeE ρ vs).set v .un
section
variable {G : Gm} {k : Nat} {W : WX} {N : List Str} {sc : Scope} {e a b c : Expr} {f fa fb fc : En → M D} {ga gb : En → M Bool} {pos : Pos} {F B H : Hp} {Z : Zn} {σ : L2.St} {ρ : En}
theorem SR.unset (s : SR G Z F B H σ ρ) (i : Nat) : SR G Z F B H (σ.set i none) (ρ.set i .un) := by
  refine ⟨s.fb, s.bh, s.zf, s.zb, s.zo, s.zh, s.zk, s.mm, s.md, by rw [List.length_set, List.length_set]; exact s.len, fun j t ht => ?_, fun j l p hj hl => ?_, s.lt, s.la⟩
  · by_cases hj : j = i
    · subst hj
      have hl : j < (ρ.set j .un).length := (List.getElem?_eq_some_iff.mp ht).1
      rw [List.length_set] at hl
      rw [List.getElem?_set_self hl] at ht
      cases ht
      trivial
    · rw [List.getElem?_set_ne (Ne.symm hj)] at ht ⊢
      exact s.sl j t ht
  · have back : ∀ j, OwnAt (σ.set i none) (ρ.set i .un) j p → OwnAt σ ρ j p := fun j hj => by
      obtain ⟨⟨d, h1⟩, h2⟩ := hj
      by_cases hji : j = i
      · subst hji
        have hl : j < (ρ.set j .un).length := (List.getElem?_eq_some_iff.mp h1).1
        rw [List.length_set] at hl
        rw [List.getElem?_set_self hl] at h1
        cases h1
      · rw [List.getElem?_set_ne (Ne.symm hji)] at h1 h2
        exact ⟨⟨d, h1⟩, h2⟩
    exact s.nd j l p (back j hj) (back l hl)
theorem SR.wiped (s : SR G Z F B H σ ρ) : ∀ vs : List Nat, SR G Z F B H (wipe σ vs) (wipeE ρ vs)
  | [] => s
  | v :: vs => (s.wiped vs).unset v
theorem wipe_idem : ∀ vs : List Nat, wipe (wipe σ vs) vs = wipe σ vs := by
  intro vs
  have key : ∀ (ws : List Nat) (τ : L2.St), (∀ i, i ∈ ws → i ∈ vs) → wipe (wipe τ ws) vs = wipe τ vs := fun ws => by
    induction ws with
    | nil => exact fun τ _ => rfl
    | cons w ws ih =>
      intro τ h
      show wipe ((wipe τ ws).set w none) vs = _
      rw [wipe_set (h w List.mem_cons_self)]
      exact ih τ fun i hi => h i (List.mem_cons_of_mem _ hi)
  exact key vs σ fun i h => h
theorem own_back : ∀ {vs : List Nat} {j : Nat} {p : Addr}, OwnAt (wipe σ vs) (wipeE ρ vs) j p → OwnAt σ ρ j p
  | [], _, _, h => h
  | v :: vs, j, p, h => by
    obtain ⟨⟨d, h1⟩, h2⟩ := h
    have h1 : ((wipeE ρ vs).set v .un)[j]? = some (.ow d) := h1
    have h2 : ((wipe σ vs).set v none)[j]? = some (some (.ref p)) := h2
    by_cases hj : j = v
    · subst hj
      have hl : j < ((wipeE ρ vs).set j .un).length := (List.getElem?_eq_some_iff.mp h1).1
      rw [List.length_set] at hl
      rw [List.getElem?_set_self hl] at h1
      cases h1
    · rw [List.getElem?_set_ne (Ne.symm hj)] at h1 h2
      exact own_back (vs := vs) ⟨⟨d, h1⟩, h2⟩
/-- an object that is none of ours has changed -/
theorem SR.newUpd (s : SR G Z F B H σ ρ) {A : Addr} {x : HO} (hB : B A = none) (hZ : Z.H A = none) (ho : ∀ i p, OwnAt σ ρ i p → p ≠ A) : SR G Z F B (upd H A x) σ ρ where
  fb := s.fb
  bh := fun a o e => by
    rw [upd_ne (ne_of_none e hB)]
    exact s.bh a o e
  zf := s.zf
  zb := s.zb
  zo := s.zo
  zh := fun a o e hm => by
    rw [upd_ne (ne_of_none e hZ)]
    exact s.zh a o e hm
  zk := fun a ha => by
    rw [upd_ne (by rintro rfl; exact ha hZ)]
    exact s.zk a ha
  mm := s.mm
  md := s.md
  len := s.len
  sl := fun i t ht => by
    have h := s.sl i t ht
    cases t with
    | un => trivial
    | sh d => exact h
    | bo d => exact h
    | ow d =>
      obtain ⟨p, e1, e2, e3, e4⟩ := h
      have hne := ho i p ⟨⟨d, ht⟩, s.at ht e1⟩
      exact ⟨p, e1, e2, e3, e4.mono (Same.refl _) fun o e => by rw [upd_ne hne]; exact e⟩
    | mu d =>
      obtain ⟨p, e1, e2, e3, e4⟩ := h
      have hne : p ≠ A := by rintro rfl; exact (s.mm i p e2).1 hZ
      exact ⟨p, e1, e2, e3, e4.mono (Same.refl _) fun o e => by rw [upd_ne hne]; exact e⟩
    | ln d => exact h
  nd := s.nd
  lt := s.lt
  la := s.la
/-- the block of a comprehension -/
theorem CnE.blk {X : Cx} (c : CnE G k W N sc X) {scope : Scope} {s : Shared} {H : Hp} {C : Addr} {cl : List (Str × Addr)} {fp : List Addr} : CnE G k W0 N (relS scope sc) (X.blk s H scope (compEnvC scope cl C X.env) fp) where
  hP := c.hP
  hw := c.hw
  hK := c.hK
  hmg := c.hmg
  hb := c.hb
  hN := c.hN
  hsc := by rw [← c.hsc]; rfl
  calm := c.calm
  nd := c.nd
  room := c.room
  tk := fun _ _ x => by
    obtain ⟨_, _, _, _, _, _, _, _, _, _, _, _, _, _, _, _, z⟩ := x
    exact z.elim
/-- the tests of a clause -/
def JTs (G : Gm) (k : Nat) (W : WX) (N : List Str) (sc : Scope) (es : List Expr) (f : En → M Bool) : Prop := ∃ tt, (∀ X, CnE G k W N sc X → PTs X es tt) ∧ SpecT G W tt f
def fYes : En → M Bool := fun _ => some (.ok true)
theorem jts_nil : JTs G k W N sc [] fYes := ⟨tYes, fun X c => pts_nil, fun Z F B H σ ρ s r hr Q q => by
  have e := Option.some.inj hr
  subst e
  exact q F B H (Up.refl s.fb s.bh)⟩
theorem jts_one (h : JT G k W N sc c ga) : JTs G k W N sc [c] ga := by
  obtain ⟨tt, h1, h2⟩ := h
  exact ⟨tt, fun X c => pts_one (h1 X c), h2⟩
def compG (h : D → En → Option En) (gc : En → M Bool) (fe : En → M D) (ρ : En) : List D → Option (List D)
  | [] => some []
  | d :: ds => (h d ρ).bind fun ρ1 => match gc ρ1 with
    | some (.ok true) => (match fe ρ1 with
      | some (.ok y) => (compG h gc fe ρ ds).map (y :: ·)
      | _ => none)
    | some (.ok false) => compG h gc fe ρ ds
    | _ => none
def limL (o : Option (List D)) : M D := match o with
  | some l => if l.length ≤ LIM then some (.ok (.lst l)) else none
  | none => none
theorem limL_some {o : Option (List D)} {r : Except Xc D} (h : limL o = some r) : ∃ l, o = some l ∧ l.length ≤ LIM ∧ r = .ok (.lst l) := by
  unfold limL at h
  split at h
  · rename_i l
    split at h
    · rename_i hl
      exact ⟨l, rfl, hl, (Option.some.inj h).symm⟩
    · cases h
  · cases h
def fLc (fi : En → M (List D)) (h : D → En → Option En) (gc : En → M Bool) (fe : En → M D) (vs : List Nat) : En → M D := fun ρ => (fi ρ).bnd fun items => limL (compG h gc fe (wipeE ρ vs) items)
/-- what a turn of a comprehension does -/
theorem comp_turn {t : TG} {tt : TT} {te : TE} {is vs : List Nat} {h : D → En → Option En} {gc : En → M Bool} {fe : En → M D}
    (ht : ∀ Z F B H σ ρ, SR G Z F B H σ ρ → ∀ d v, Rep G F d v → ∀ ρ', h d ρ = some ρ' → ∀ Q : L2.St → Hp → Prop, (∀ σ', SR G Z F B H σ' ρ' → (∀ vs, (∀ i ∈ is, i ∈ vs) → wipe σ' vs = wipe σ vs) → (∀ j p, OwnAt σ' ρ' j p → OwnAt σ ρ j p) → Q σ' H) → t v σ H Q)
    (hc : SpecT G W0 tt gc) (he : SpecE G W0 .shared te fe) (his : ∀ i ∈ is, i ∈ vs) {d : D} {ds l : List D} {x : V} {τ : L2.St} {A : Addr} {acc : List V} {Nx : Hp → Prop} {ρ : En}
    (s : SR G Z F B H τ ρ) (rd : Rep G F d x) (hl : compG h gc fe ρ (d :: ds) = some l) (hA : H A = some (.lst acc)) (hAB : B A = none) (hlen : acc.length + l.length ≤ LIM)
    (nx : ∀ F1 B1 H1, Up F B H F1 B1 H1 → ∀ l', compG h gc fe ρ ds = some l' → ((l = l' ∧ H1 A = some (.lst acc)) → Nx H1) ∧ ∀ y v, l = y :: l' → Rep G F1 y v → H1 A = some (.lst acc) → Nx (upd H1 A (.lst (acc ++ [v])))) :
    t x τ H fun σ2 H2 => wipe σ2 vs = wipe τ vs ∧ tt σ2 H2 fun b H3 => if b = true then te σ2 H3 fun y H4 => ∃ acc, H4 A = some (.lst acc) ∧ acc.length < sizeLine ∧ Nx (upd H4 A (.lst (acc ++ [y]))) else Nx H3 := by
  have hl : ((h d ρ).bind fun ρ1 => match gc ρ1 with
    | some (.ok true) => (match fe ρ1 with
      | some (.ok y) => (compG h gc fe ρ ds).map (y :: ·)
      | _ => none)
    | some (.ok false) => compG h gc fe ρ ds
    | _ => none) = some l := hl
  cases e1 : h d ρ with
  | none => rw [e1] at hl; cases hl
  | some ρ1 =>
    rw [e1] at hl
    have hl : (match gc ρ1 with
      | some (.ok true) => (match fe ρ1 with
        | some (.ok y) => (compG h gc fe ρ ds).map (y :: ·)
        | _ => none)
      | some (.ok false) => compG h gc fe ρ ds
      | _ => none) = some l := hl
    refine ht Z F B H τ ρ s d x rd ρ1 e1 _ fun σ2 s2 w2 _ => ⟨w2 vs his, ?_⟩
    cases e2 : gc ρ1 with
    | none => rw [e2] at hl; cases hl
    | some r =>
      rw [e2] at hl
      cases r with
      | error z => cases hl
      | ok bb =>
        refine hc Z F B H σ2 ρ1 s2 _ e2 _ fun F3 B3 H3 u3 => ?_
        cases bb with
        | false =>
          show Nx H3
          exact (nx F3 B3 H3 u3 l hl).1 ⟨rfl, u3.h _ _ hA⟩
        | true =>
          have hl : (match fe ρ1 with
            | some (.ok y) => (compG h gc fe ρ ds).map (y :: ·)
            | _ => none) = some l := hl
          cases e3 : fe ρ1 with
          | none => rw [e3] at hl; cases hl
          | some r3 =>
            rw [e3] at hl
            cases r3 with
            | error z => cases hl
            | ok y =>
              have hl : (compG h gc fe ρ ds).map (y :: ·) = some l := hl
              cases e4 : compG h gc fe ρ ds with
              | none => rw [e4] at hl; cases hl
              | some l' =>
                rw [e4] at hl
                have el : y :: l' = l := Option.some.inj hl
                show te σ2 H3 _
                refine he Z F3 B3 H3 σ2 ρ1 (s2.up u3) _ e3 _ fun F4 B4 H4 v u4 rv => ?_
                have hA4 : H4 A = some (.lst acc) := u4.h _ _ (u3.h _ _ hA)
                refine ⟨acc, hA4, lim_lt (by rw [← el, List.length_cons] at hlen; omega), ?_⟩
                exact (nx F4 B4 H4 (u3.trans u4) l' e4).2 y v el.symm rv hA4
theorem spec_lc {wi : TI} {t : TG} {tt : TT} {te : TE} {fi : En → M (List D)} {is vs : List Nat} {h : D → En → Option En} {gc : En → M Bool} {fe : En → M D}
    (hi : ∀ Z F B H σ ρ, SR G Z F B H σ ρ → ∀ r, fi ρ = some r → ∀ R, PostI G W F B H σ R r → wi σ H R)
    (ht : ∀ Z F B H σ ρ, SR G Z F B H σ ρ → ∀ d v, Rep G F d v → ∀ ρ', h d ρ = some ρ' → ∀ Q : L2.St → Hp → Prop, (∀ σ', SR G Z F B H σ' ρ' → (∀ vs, (∀ i ∈ is, i ∈ vs) → wipe σ' vs = wipe σ vs) → (∀ j p, OwnAt σ' ρ' j p → OwnAt σ ρ j p) → Q σ' H) → t v σ H Q)
    (hc : SpecT G W0 tt gc) (he : SpecE G W0 .shared te fe) (his : ∀ i ∈ is, i ∈ vs) : SpecE G W .fresh (tLc wi t tt te vs) (fLc fi h gc fe vs) := by
  intro Z F B H σ ρ s r hr Q q
  rcases bnd_some hr with ⟨items, ei, hr⟩ | ⟨x, ex, rfl⟩
  · obtain ⟨l, el, hlim, rfl⟩ := limL_some hr
    refine hi Z F B H σ ρ s _ ei _ fun F1 B1 H1 J u1 it A hA => ?_
    have u1' := u1
    -- Pv: what is made so far, and what is left
    refine lc_it it (fun i H' => ∃ F' B' acc l' done, Up F1 B1 H1 F' B' H' ∧ H' A = some (.lst acc) ∧ B' A = none ∧ RepL G F' done acc ∧ compG h gc fe (wipeE ρ vs) (items.drop i) = some l' ∧ done ++ l' = l) ?_ ?_ ?_ ?_
    · exact ⟨F1, B1, [], l, [], Up.new u1.fb u1.bh hA, upd_same, u1.bh.free hA, rfl, el, rfl⟩
    · rintro i H' hi ⟨F', B', acc, l', done, u, _⟩
      exact u.b.trans u.bh
    · rintro i x H' H2 hi ⟨F', B', acc, l', done, u, hA', hB', rl, hl, hd⟩ y
      obtain ⟨F2, B2, d, ed, u2, rd⟩ := y F' B' u.gro u.fb u.bh
      have hdr : items.drop i = d :: items.drop (i + 1) := by
        obtain ⟨hi', e⟩ := List.getElem?_eq_some_iff.mp ed
        rw [List.drop_eq_getElem_cons hi', e]
      rw [hdr] at hl
      have s2 : SR G Z F2 B2 H2 (wipe σ vs) (wipeE ρ vs) := (s.up (u1.trans (u.trans u2))).wiped vs
      have hne : H' A ≠ none := by rw [hA']; intro z; cases z
      have hA2 : H2 A = some (.lst acc) := u2.h _ _ hA'
      have hB2 : B2 A = none := by rw [(u2.old A hne).2]; exact hB'
      have hlen : acc.length + l'.length ≤ LIM := by
        rw [rl.length, ← List.length_append, hd]
        exact hlim
      have main := comp_turn (vs := vs) ht hc he his s2 rd hl hA2 hB2 hlen (Nx := fun H' => ∃ F' B' acc l' done, Up F1 B1 H1 F' B' H' ∧ H' A = some (.lst acc) ∧ B' A = none ∧ RepL G F' done acc ∧ compG h gc fe (wipeE ρ vs) (items.drop (i + 1)) = some l' ∧ done ++ l' = l) fun F3 B3 H3 u3 l3 e3 => ?_
      · rw [wipe_idem] at main
        exact main
      · have hne2 : H2 A ≠ none := by rw [hA2]; intro z; cases z
        have hB3 : B3 A = none := by rw [(u3.old A hne2).2]; exact hB2
        have rl3 : RepL G F3 done acc := rl.mono (u2.trans u3).f
        refine ⟨fun ⟨e, e'⟩ => ⟨F3, B3, acc, l3, done, u.trans (u2.trans u3), e', hB3, rl3, e3, by rw [← e]; exact hd⟩, fun y v e rv hA3 => ?_⟩
        refine ⟨F3, B3, acc ++ [v], l3, done ++ [y], ?_, upd_same, hB3, rl3.app (RepL.one rv), e3, by rw [List.append_assoc, List.singleton_append, ← e]; exact hd⟩
        have ut := u.trans (u2.trans u3)
        refine ⟨ut.f, ut.b, fun b o e => ?_, ut.fb, fun b o e => ?_, ut.old⟩
        · rw [upd_ne (ne_of_none e hA)]
          exact ut.h b o e
        · rw [upd_ne (ne_of_none e hB3)]
          exact ut.bh b o e
    · rintro H' ⟨F', B', acc, l', done, u, hA', hB', rl, hl, hd⟩
      rw [List.drop_length] at hl
      have e := Option.some.inj (show some [] = some l' from hl)
      subst e
      rw [List.append_nil] at hd
      subst hd
      exact q F' B' H' _ (u1.trans u) ⟨A, rfl, u1.h.free hA, hB', acc, hA', rl⟩
  · exact hi Z F B H σ ρ s _ ex _ q
theorem je_lc {elt tg iter : Expr} {ifs : List Expr} {scope : Scope} (own : List (Str × Nat)) {fi : En → M (List D)} {is : List Nat} {h : D → En → Option En} {gc : En → M Bool} {fe : En → M D} (hb : blkC N sc scope own = true) (his : ∀ i ∈ is, i ∈ own.map (·.2))
    (hi : JI G k W N sc tg iter fi) (ht : JG G (CnE G k W0 N (relS scope sc)) tg is h) (hc : JTs G k W0 N (relS scope sc) ifs gc) (he : JE G k W0 N (relS scope sc) .shared elt fe) (hs : ∀ (env : Env) x, foldedSetIterable iter env x = pure x) :
    JE G k W N sc .fresh (.ListComp elt [⟨tg, iter, ifs, 0⟩] scope pos) (fLc fi h gc fe (own.map (·.2))) := by
  obtain ⟨wi, a1, a2⟩ := hi
  obtain ⟨t, b1, b2⟩ := ht
  obtain ⟨tt, c1, c2⟩ := hc
  obtain ⟨te, e1, e2⟩ := he
  exact ⟨_, fun X c => pe_lc (own := own) c.calm (by rw [c.hN]; exact c.nd) (a1 X c) (by rw [c.hN, c.hsc]; exact blkOk_by hb) (fun _ _ _ _ _ => b1 _ c.blk) (fun _ _ _ _ _ => c1 _ c.blk) (fun _ _ _ _ _ => e1 _ c.blk) (hs _), spec_lc a2 b2 c2 e2 his⟩
/-- y = [..] on one line, y a name that no block captures -/
theorem js_setLc {i : Nat} {y : Str} {py spos : Pos} {elt tg iter : Expr} {ifs : List Expr} {scope : Scope} (own : List (Str × Nat)) {fi : En → M (List D)} {is : List Nat} {h : D → En → Option En} {gc : En → M Bool} {fe : En → M D} (hy : N[i]? = some y) (hyl : sc.names.lookup y = some .local)
    (hsw : (py.line == pos.line) = true) (hsy : (scope.names.any fun (n, k) => n == y && (k == .local || k == .cell)) = false) (hkind : sc.kind = .function) (hspos : spos.line = spos.line) (hb : blkC N sc scope own = true) (his : ∀ i ∈ is, i ∈ own.map (·.2))
    (hi : JI G k W N sc tg iter fi) (ht : JG G (CnE G k W0 N (relS scope sc)) tg is h) (hc : JTs G k W0 N (relS scope sc) ifs gc) (he : JE G k W0 N (relS scope sc) .shared elt fe) (hs : ∀ (env : Env) x, foldedSetIterable iter env x = pure x) :
    JS G k W N sc (.Assign [.Name y py] (.ListComp elt [⟨tg, iter, ifs, 0⟩] scope pos) spos) (gSetF i (fLc fi h gc fe (own.map (·.2)))) := by
  obtain ⟨wi, a1, a2⟩ := hi
  obtain ⟨t, b1, b2⟩ := ht
  obtain ⟨tt, c1, c2⟩ := hc
  obtain ⟨te, e1, e2⟩ := he
  refine ⟨_, fun X c => ps_setLc (own := own) c.ce.calm (by rw [c.ce.hN]; exact c.ce.nd) (by rw [c.ce.hN]; exact hy) (by rw [c.ce.hsc]; exact hyl) (sw_true (by rw [c.ce.hsc]; exact hkind) (by rw [c.ce.hsc]; exact hyl) hsw hsy) (a1 X c.ce) (by rw [c.ce.hN, c.ce.hsc]; exact blkOk_by hb) (fun _ _ _ _ _ => b1 _ c.ce.blk) (fun _ _ _ _ _ => c1 _ c.ce.blk) (fun _ _ _ _ _ => e1 _ c.ce.blk) (hs _), fun Z F B H σ ρ s o ho E q => ?_⟩
  rcases gBnd_some ho with ⟨d, ed, ho⟩ | ⟨x, ex, rfl⟩
  · refine spec_lc (W := W) a2 b2 c2 e2 his Z F B H σ ρ s _ ed _ fun F1 B1 H1 v1 u1 k1 => ?_
    obtain ⟨hl, rfl⟩ := gPut_some ho
    exact q F1 B1 H1 _ (s.putF u1 k1 hl) u1.gro
  · exact spec_lc (W := W) a2 b2 c2 e2 his Z F B H σ ρ s _ ex _ (PostS.er s q)
end
end DL

namespace DL
open PySem PySem.Spec L2
section
variable {X : Cx} {Ct : CXT} {k : Nat} {f C : Addr} {fd : FuncData} {ps : List Str} {sp : Sp} {dvs : List V} {ds : List Value} {E : L2.St → XK} {x m : Str} {p pos apos : Pos} {e o : Expr} {es : List Expr} {ta : TE} {t : TA}
/-! ### C(..), o.m(..) where what is raised is wished for at the caller's slots -/
theorem run_mk {pp : List (Addr × Obj)} {σ : L2.St} {H : Hp} {s : Shared} {Q : VK} {us : List Value} {vs : List V} (mk : Mk X.K C f) (ok : FnOk X.prog X.w X.K X.mg X.base Ct k f fd ps sp) (rm : Room (k + 1) X.A) (bi : Binds X.K fd ps ds)
    (dv : Vals dvs ds) (pa : PassesAt Ct X σ (E σ)) (J : Inv X pp σ H s) (rv : Vals vs us)
    (h : ∀ x dx, H x = none → H dx = none → dx ≠ x → sp (.ref x :: (vs ++ dvs)) (upd (upd H dx (.own x)) x (.ins C dx [])) (fun v H2 => v = .non ∧ Q (.ref x) H2) (E σ)) :
    wpAny (model X.prog X.w) X.A (call (.ref C) us) (EP X pp σ Q) X.xe s := by
  have want := h (s.heap.objs.size + 1) s.heap.objs.size (J.hok.fresh (Nat.le_succ _)) (J.hok.fresh (Nat.le_refl _)) (Nat.ne_of_lt (Nat.lt_succ_self _))
  have J2 := Inv.made (C := C) J
  have all : Vals (V.ref (s.heap.objs.size + 1) :: (vs ++ dvs)) (Value.ref (s.heap.objs.size + 1) :: (us ++ ds)) := .cons rfl (rv.append dv)
  have len : (Value.ref (s.heap.objs.size + 1) :: us ++ ds).length = ps.length := by
    have q := all.length
    rw [ok.len _ _ _ _ want] at q
    exact q.symm
  have body := ok.run _ X.stack _ _ ⟨Value.ref (s.heap.objs.size + 1) :: us, []⟩ (Value.ref (s.heap.objs.size + 1) :: (us ++ ds)) _ _ (E σ) (rm.make C us []) (J2.env0.make C us []) (bi _ (Value.ref (s.heap.objs.size + 1) :: us) J2.kIn len) all want
  refine wpAny_call (make_map (f := f) J.kIn mk.makes mk.init (beq_iff_eq.mp mk.fn) (codeAny_mono body fun r s' hr => ?_))
  cases r with
  | error z => exact pa pp _ _ z s' J2 hr
  | ok fl =>
    cases fl with
    | ret u =>
      obtain ⟨v, H', J3, r1, ev, q3⟩ := J2.after hr
      subst ev
      exact ⟨r1, ⟨V.ref (s.heap.objs.size + 1), H', J3, rfl, q3⟩⟩
    | next => exact hr.elim
    | brk => exact hr.elim
    | cont => exact hr.elim
def tMk (C : Addr) (sp : Sp) (dvs : List V) (E : L2.St → XK) (t : TA) : TE := fun σ H Q => t σ H fun vs H1 => ∀ x dx, H1 x = none → H1 dx = none → dx ≠ x →
  sp (.ref x :: (vs ++ dvs)) (upd (upd H1 dx (.own x)) x (.ins C dx [])) (fun v H2 => v = .non ∧ Q (.ref x) H2) (E σ)
theorem pe_mk (mk : Mk X.K C f) (ok : FnOk X.prog X.w X.K X.mg X.base Ct k f fd ps sp) (rm : Room (k + 1) X.A) (hg : Gl X x) (hm : X.mg x = some (.ref C)) (bi : Binds X.K fd ps ds) (dv : Vals dvs ds) (pa : ∀ σ, PassesAt Ct X σ (E σ))
    (ha : PA X (e :: es) t) (hdb : (x == ("__debug__" : Str)) = false) (he : starEach (e :: es) X.env = (false, eval e X.env) :: starEach es X.env) (hpl : (backTo pos (starEach es X.env)).any (·.1) = false) :
    PE X (.Call (.Name x p) (e :: es) [] pos) (tMk C sp dvs E t) :=
  ⟨fun pp s σ H Q J h => wpAny_Call_Name_kw (ld_glob J hg hm (PySem.W.callWith_K (h₀ := X.base) J.ok.mod.kin mk.kp (thn (ha.run pos pp s σ H _ J h) fun us s1 ⟨vs, H1, J1, r, q⟩ => ⟨J1.kIn, run_mk mk ok rm bi dv (pa σ) J1 r q⟩) he hpl) hdb)⟩
theorem pe_mk0 (mk : Mk X.K C f) (ok : FnOk X.prog X.w X.K X.mg X.base Ct k f fd ps sp) (rm : Room (k + 1) X.A) (hg : Gl X x) (hm : X.mg x = some (.ref C)) (bi : Binds X.K fd ps ds) (dv : Vals dvs ds) (pa : ∀ σ, PassesAt Ct X σ (E σ))
    (hdb : (x == ("__debug__" : Str)) = false) : PE X (.Call (.Name x p) [] [] pos) (tMk C sp dvs E tNil) :=
  ⟨fun pp s σ H Q J h => wpAny_Call_Name_kw (ld_glob J hg hm (PySem.W.callWith_K0 J.kIn mk.kp (run_mk (us := []) mk ok rm bi dv (pa σ) J .nil h)) hdb)⟩
def tMe (C : Addr) (m : Str) (sp : Sp) (dvs : List V) (E : L2.St → XK) (ta : TE) (t : TA) : TE := fun σ H Q => ta σ H fun x H1 => ∃ a dx fs, x = .ref a ∧ H1 a = some (.ins C dx fs) ∧ fs.lookup m = none ∧
  t σ H1 fun vs H2 => sp (x :: (vs ++ dvs)) H2 Q (E σ)
theorem pe_me {pl : Sem Bool} (he : PE X o ta) (cl : Cls X.K C) (hm : Meth X.K C m f) (ok : FnOk X.prog X.w X.K X.mg X.base Ct k f fd ps sp) (rm : Room k X.A) (bi : Binds X.K fd ps ds) (dv : Vals dvs ds) (pa : ∀ σ, PassesAt Ct X σ (E σ)) (ha : PA X (e :: es) t)
    (hst : starEach (e :: es) X.env = (false, eval e X.env) :: starEach es X.env) (hpl : (backTo pos (starEach es X.env)).any (·.1) = false)
    (ht : eval (.Call (.Attribute o m apos) (e :: es) [] pos) X.env = (do
      let z ← eval o X.env
      standAt apos.atName
      let (g, fst) ← holding [z] (getMethod z m pl)
      callWith pos g fst (backTo pos (starEach (e :: es) X.env)) (backToKw pos (keywordEach [] X.env)))) :
    PE X (.Call (.Attribute o m apos) (e :: es) [] pos) (tMe C m sp dvs E ta t) := by
  refine ⟨fun pp s σ H Q J h => PySem.W.methodCall_KW (pl := pl) (thn (he.run pp s σ H _ J h) fun u s1 ⟨x, H1, J1, rx, a, dx, fs, ex, ea, l, q⟩ => ?_) ht⟩
  subst ex
  obtain rfl : u = Value.ref a := rx
  exact getmeth_ok J1 ea cl hm l (PySem.W.callWith_K (first := [.ref a]) (h₀ := X.base) J.ok.mod.kin hm.kp (thn (ha.run pos pp s1 σ H1 _ J1 q) fun us s2 ⟨vs, H2, J2, r, q2⟩ => ⟨J2.kIn, run_fnSD (us := .ref a :: us) (vs := .ref a :: vs) ok rm bi dv (pa σ) J2 (.cons rfl r) q2⟩) hst hpl)
theorem pe_me0 {pl : Sem Bool} (he : PE X o ta) (cl : Cls X.K C) (hm : Meth X.K C m f) (ok : FnOk X.prog X.w X.K X.mg X.base Ct k f fd ps sp) (rm : Room k X.A) (bi : Binds X.K fd ps ds) (dv : Vals dvs ds) (pa : ∀ σ, PassesAt Ct X σ (E σ))
    (ht : eval (.Call (.Attribute o m apos) [] [] pos) X.env = (do
      let z ← eval o X.env
      standAt apos.atName
      let (g, fst) ← holding [z] (getMethod z m pl)
      callWith pos g fst (backTo pos (starEach [] X.env)) (backToKw pos (keywordEach [] X.env)))) :
    PE X (.Call (.Attribute o m apos) [] [] pos) (tMe C m sp dvs E ta tNil) := by
  refine ⟨fun pp s σ H Q J h => PySem.W.methodCall_KW (pl := pl) (thn (he.run pp s σ H _ J h) fun u s1 ⟨x, H1, J1, rx, a, dx, fs, ex, ea, l, q⟩ => ?_) ht⟩
  subst ex
  obtain rfl : u = Value.ref a := rx
  exact getmeth_ok J1 ea cl hm l (PySem.W.callWith_K0 (first := [.ref a]) J1.kIn hm.kp (run_fnSD (us := [.ref a]) (vs := [.ref a]) ok rm bi dv (pa σ) J1 (.cons rfl .nil) q))
end

/-! ### promises of defs over data -/
inductive PK where
  | sh | bo | mu
inductive FOut where
  | ret (fr : Bool) (d : D) (ms : List D)
  | exc (x : Xc) (ms : List D)
/-- the arguments; B: what may be read -/
def ParR (G : Gm) (F B H : Hp) : List PK → List D → List V → Prop
  | [], [], vs => vs = []
  | .sh :: ks, d :: ds, vs => ∃ v vs', vs = v :: vs' ∧ Rep G F d v ∧ ParR G F B H ks ds vs'
  | .bo :: ks, d :: ds, vs => ∃ v vs', vs = v :: vs' ∧ Top G F B d v ∧ ParR G F B H ks ds vs'
  | .mu :: ks, d :: ds, vs => ∃ p vs', vs = .ref p :: vs' ∧ B p = none ∧ OwnO G F H p d ∧ ParR G F B H ks ds vs'
  | _, _, _ => False
/-- the addresses that are changed -/
def PK.ad : PK → V → Option Addr
  | .mu, .ref p => some p
  | _, _ => none
def muA : List PK → List V → List Addr
  | k :: ks, v :: vs => (k.ad v).toList ++ muA ks vs
  | _, _ => []
/-- the objects that were changed, as they stand in the end -/
def MusR (G : Gm) (F' H' : Hp) : List Addr → List D → Prop
  | [], [] => True
  | p :: ps, d :: ds => OwnO G F' H' p d ∧ MusR G F' H' ps ds
  | _, _ => False
def hid (H : Hp) (ms : List Addr) : Hp := fun a => if a ∈ ms then none else H a
structure Aft (F H : Hp) (ms : List Addr) (F' H' : Hp) : Prop where
  f : Same F F'
  fh : Same F' H'
  h : ∀ a o, H a = some o → a ∉ ms → H' a = some o
  k : ∀ a, H a ≠ none → H' a ≠ none
  old : ∀ a, H a ≠ none → F' a = F a
def RetV (G : Gm) (F' H H' : Hp) (fr : Bool) (d : D) (v : V) : Prop :=
  if fr = true ∧ d.isMut = true then ∃ p, v = .ref p ∧ H p = none ∧ F' p = none ∧ OwnO G F' H' p d else Rep G F' d v
def PostF (G : Gm) (F H : Hp) (ms : List Addr) (Q : VK) (E : XK) : FOut → Prop
  | .ret fr d mus => ∀ F' H' v, Aft F H ms F' H' → RetV G F' H H' fr d v → MusR G F' H' ms mus → Q v H'
  | .exc x mus => ∀ F' H' cls dx, Aft F H ms F' H' → XR G F' H' x cls dx → MusR G F' H' ms mus → E cls dx H'
def spD (G : Gm) (ks : List PK) (Fn : List D → Option FOut) : Sp := fun vs H Q E =>
  ∃ F ds, Same F (hid H (muA ks vs)) ∧ (muA ks vs).Nodup ∧ ParR G F (hid H (muA ks vs)) H ks ds vs ∧ ∃ o, Fn ds = some o ∧ PostF G F H (muA ks vs) Q E o
/-- no parameter is changed -/
def PK.still : PK → Bool
  | .mu => false
  | _ => true
theorem muA_still : ∀ {ks : List PK} {vs : List V}, ks.all PK.still = true → muA ks vs = []
  | [], _, _ => by unfold muA; rfl
  | .sh :: ks, [], _ => rfl
  | .bo :: ks, [], _ => rfl
  | .sh :: ks, v :: vs, h => muA_still (ks := ks) (vs := vs) (by simpa [PK.still] using h)
  | .bo :: ks, v :: vs, h => muA_still (ks := ks) (vs := vs) (by simpa [PK.still] using h)
  | .mu :: ks, _, h => by simp [PK.still] at h
theorem hid_nil {H : Hp} : hid H [] = H := by
  funext a
  unfold hid
  simp
def argK : PK → Arg
  | .sh => .shared
  | _ => .peek
theorem par_of {G : Gm} {F H : Hp} : ∀ {ks : List PK} {ds : List D} {vs : List V}, ks.all PK.still = true → ArR G F H (ks.map argK) ds vs → ParR G F H H ks ds vs
  | [], [], vs, _, h => h
  | [], _ :: _, vs, _, h => h.elim
  | .sh :: ks, [], vs, _, h => h.elim
  | .bo :: ks, [], vs, _, h => h.elim
  | .mu :: ks, _, vs, h, _ => by simp [PK.still] at h
  | .sh :: ks, d :: ds, vs, a, h => by
    obtain ⟨v, vs', rfl, h1, h2⟩ := h
    exact ⟨v, vs', rfl, h1, par_of (by simpa [PK.still] using a) h2⟩
  | .bo :: ks, d :: ds, vs, a, h => by
    obtain ⟨v, vs', rfl, h1, h2⟩ := h
    exact ⟨v, vs', rfl, h1, par_of (by simpa [PK.still] using a) h2⟩
theorem ParR.length {G : Gm} {F B H : Hp} : ∀ {ks : List PK} {ds : List D} {vs : List V}, ParR G F B H ks ds vs → vs.length = ks.length
  | [], [], vs, h => by rw [show vs = [] from h]; rfl
  | [], _ :: _, vs, h => h.elim
  | .sh :: ks, [], vs, h => h.elim
  | .bo :: ks, [], vs, h => h.elim
  | .mu :: ks, [], vs, h => h.elim
  | .sh :: ks, d :: ds, vs, h => by
    obtain ⟨v, vs', rfl, h1, h2⟩ := h
    rw [List.length_cons, List.length_cons, ParR.length h2]
  | .bo :: ks, d :: ds, vs, h => by
    obtain ⟨v, vs', rfl, h1, h2⟩ := h
    rw [List.length_cons, List.length_cons, ParR.length h2]
  | .mu :: ks, d :: ds, vs, h => by
    obtain ⟨p, vs', rfl, h0, h1, h2⟩ := h
    rw [List.length_cons, List.length_cons, ParR.length h2]
/-- behind a call that changes nothing -/
def newB (B H F' : Hp) : Hp := fun a => match H a with
  | some _ => B a
  | none => F' a
theorem Aft.up {F B H F' H' : Hp} (a : Aft F H [] F' H') (fb : Same F B) (bh : Same B H) : Up F B H F' (newB B H F') H' where
  f := a.f
  b := fun x o e => by
    unfold newB
    rw [bh x o e]
    exact e
  h := fun x o e => a.h x o e (by simp)
  fb := fun x o e => by
    unfold newB
    cases q : H x with
    | none => exact e
    | some u =>
      have z := a.old x (by rw [q]; intro z; cases z)
      rw [z] at e
      exact fb x o e
  bh := fun x o e => by
    unfold newB at e
    cases q : H x with
    | none => rw [q] at e; exact a.fh x o e
    | some u => rw [q] at e; exact a.h x o (bh x o e) (by simp)
  old := fun x hx => by
    refine ⟨a.old x hx, ?_⟩
    unfold newB
    cases q : H x with
    | none => exact absurd q hx
    | some u => rfl
theorem RetV.fresh {G : Gm} {B F' H H' : Hp} {fr : Bool} {d : D} {v : V} (hf : fr = true ∨ d.isMut = false) (h : RetV G F' H H' fr d v) : KR G .fresh H F' (newB B H F') H' d v := by
  unfold RetV at h
  show (if d.isMut = true then ∃ p, v = .ref p ∧ H p = none ∧ newB B H F' p = none ∧ OwnO G F' H' p d else Rep G F' d v)
  by_cases hm : d.isMut = true
  · rcases hf with hf | hf
    · rw [if_pos ⟨hf, hm⟩] at h
      rw [if_pos hm]
      obtain ⟨p, e1, e2, e3, e4⟩ := h
      exact ⟨p, e1, e2, by unfold newB; rw [e2]; exact e3, e4⟩
    · rw [hf] at hm
      cases hm
  · rw [if_neg (fun z => hm z.2)] at h
    rw [if_neg hm]
    exact h
/-- a call, its result fresh -/
def outF : Option FOut → M D
  | some (.ret fr d []) => if fr = true then some (.ok d) else if d.isMut = true then none else some (.ok d)
  | some (.exc x []) => some (.error x)
  | _ => none
def outS : Option FOut → M D
  | some (.ret fr d []) => if fr = true ∧ d.isMut = true then none else some (.ok d)
  | some (.exc x []) => some (.error x)
  | _ => none
def fCallF (Fn : List D → Option FOut) (fs : En → M (List D)) : En → M D := fun ρ => (fs ρ).bnd fun xs => outF (Fn xs)
def fCallS (Fn : List D → Option FOut) (fs : En → M (List D)) : En → M D := fun ρ => (fs ρ).bnd fun xs => outS (Fn xs)
theorem sp_callF {G : Gm} {W : WX} {ks : List PK} {Fn : List D → Option FOut} {F B H : Hp} {σ : L2.St} {ds : List D} {vs : List V} {Q : VK} {r : Except Xc D} (hk : ks.all PK.still = true) (fb : Same F B) (bh : Same B H) (ha : ParR G F H H ks ds vs)
    (hr : outF (Fn ds) = some r) (q : PostE G W .fresh F B H σ Q r) : spD G ks Fn vs H Q (WE W σ) := by
  have em : muA ks vs = [] := muA_still hk
  unfold spD
  rw [em, hid_nil]
  refine ⟨F, ds, fb.trans bh, List.nodup_nil, ha, ?_⟩
  unfold outF at hr
  split at hr
  · rename_i fr d e
    refine ⟨_, e, fun F' H' v a rv _ => ?_⟩
    split at hr
    · rename_i hfr
      have e2 := Option.some.inj hr
      subst e2
      exact q F' _ H' v (a.up fb bh) (rv.fresh (.inl hfr))
    · split at hr
      · cases hr
      · rename_i hm
        have e2 := Option.some.inj hr
        subst e2
        exact q F' _ H' v (a.up fb bh) (rv.fresh (.inr (by simpa using hm)))
  · rename_i x e
    have e2 := Option.some.inj hr
    subst e2
    exact ⟨_, e, fun F' H' cls dx a xr _ => q F' _ H' cls dx (a.up fb bh) xr⟩
  · cases hr
theorem sp_callS {G : Gm} {W : WX} {ks : List PK} {Fn : List D → Option FOut} {F B H : Hp} {σ : L2.St} {ds : List D} {vs : List V} {Q : VK} {r : Except Xc D} (hk : ks.all PK.still = true) (fb : Same F B) (bh : Same B H) (ha : ParR G F H H ks ds vs)
    (hr : outS (Fn ds) = some r) (q : PostE G W .shared F B H σ Q r) : spD G ks Fn vs H Q (WE W σ) := by
  have em : muA ks vs = [] := muA_still hk
  unfold spD
  rw [em, hid_nil]
  refine ⟨F, ds, fb.trans bh, List.nodup_nil, ha, ?_⟩
  unfold outS at hr
  split at hr
  · rename_i fr d e
    refine ⟨_, e, fun F' H' v a rv _ => ?_⟩
    split at hr
    · cases hr
    · rename_i hn
      have e2 := Option.some.inj hr
      subst e2
      unfold RetV at rv
      rw [if_neg hn] at rv
      exact q F' _ H' v (a.up fb bh) rv
  · rename_i x e
    have e2 := Option.some.inj hr
    subst e2
    exact ⟨_, e, fun F' H' cls dx a xr _ => q F' _ H' cls dx (a.up fb bh) xr⟩
  · cases hr
end DL

namespace DL
open PySem PySem.Spec L2
section
variable {G : Gm} {k j : Nat} {W : WX} {N : List Str} {sc : Scope} {e a o : Expr} {es : List Expr} {f fa fb fc : En → M D} {fs : En → M (List D)} {pos p apos : Pos} {F B H : Hp} {Z : Zn} {σ : L2.St} {ρ : En}
  {ad : Addr} {fd : FuncData} {ps : List Str} {ks : List PK} {Fn : List D → Option FOut} {x m : Str}
abbrev FnG (G : Gm) (k : Nat) (f : Addr) (fd : FuncData) (ps : List Str) (ks : List PK) (Fn : List D → Option FOut) : Prop := FnOk G.P G.w G.K G.mg G.base (L2N.CX G.P G.w) k f fd ps (spD G ks Fn)
theorem CnE.fn {X : Cx} (c : CnE G k W N sc X) (F : FnG G j ad fd ps ks Fn) : FnOk X.prog X.w X.K X.mg X.base (L2N.CX X.prog X.w) j ad fd ps (spD G ks Fn) := by
  rw [c.hP, c.hw, c.hK, c.hmg, c.hb]
  exact F
theorem CnE.pass {X : Cx} (c : CnE G k W N sc X) : ∀ σ, PassesAt (L2N.CX X.prog X.w) X σ (WE W σ) := fun σ => L2N.passAt c.tk σ
/-! ### f(a, ..) -/
theorem je_callF (ok : FnG G j ad fd ps ks Fn) (hj : j ≤ k) (hks : ks.all PK.still = true) (hg : glB sc x = true) (hm : G.mg x = some (.ref ad)) (hk : PySem.W.keepIn G.K (.ref ad) = true) (hb : Binds G.K fd ps []) (hd : (x == ("__debug__" : Str)) = false) (hp : PlainArg e) (hpl : NoStar pos es)
    (ha : JA G k W N sc (ks.map argK) (e :: es) fs) : JE G k W N sc .fresh (.Call (.Name x p) (e :: es) [] pos) (fCallF Fn fs) := by
  obtain ⟨ta, a1, a2⟩ := ha
  refine ⟨tCallSD (spD G ks Fn) [] (fun σ => WE W σ) ta, fun X c => pe_callSD (c.fn ok) (c.room.mono hj) (gl_of c.hsc hg) (by rw [c.hmg]; exact hm) (by rw [c.hK]; exact hk) (by rw [c.hK]; exact hb) .nil c.pass (a1 X c) hd (hp _ _) (hpl _), fun Z F B H σ ρ s r hr Q q => ?_⟩
  rcases bnd_some hr with ⟨ds, ed, hr⟩ | ⟨x, ex, rfl⟩
  · refine a2 Z F B H σ ρ s _ ed _ fun F1 B1 H1 vs u1 k1 => ?_
    show spD G ks Fn (vs ++ []) H1 Q (WE W σ)
    rw [List.append_nil]
    exact sp_callF hks u1.fb u1.bh (par_of hks k1) hr (q.weak u1)
  · exact a2 Z F B H σ ρ s _ ex _ q
theorem je_callS (ok : FnG G j ad fd ps ks Fn) (hj : j ≤ k) (hks : ks.all PK.still = true) (hg : glB sc x = true) (hm : G.mg x = some (.ref ad)) (hk : PySem.W.keepIn G.K (.ref ad) = true) (hb : Binds G.K fd ps []) (hd : (x == ("__debug__" : Str)) = false) (hp : PlainArg e) (hpl : NoStar pos es)
    (ha : JA G k W N sc (ks.map argK) (e :: es) fs) : JE G k W N sc .shared (.Call (.Name x p) (e :: es) [] pos) (fCallS Fn fs) := by
  obtain ⟨ta, a1, a2⟩ := ha
  refine ⟨tCallSD (spD G ks Fn) [] (fun σ => WE W σ) ta, fun X c => pe_callSD (c.fn ok) (c.room.mono hj) (gl_of c.hsc hg) (by rw [c.hmg]; exact hm) (by rw [c.hK]; exact hk) (by rw [c.hK]; exact hb) .nil c.pass (a1 X c) hd (hp _ _) (hpl _), fun Z F B H σ ρ s r hr Q q => ?_⟩
  rcases bnd_some hr with ⟨ds, ed, hr⟩ | ⟨x, ex, rfl⟩
  · refine a2 Z F B H σ ρ s _ ed _ fun F1 B1 H1 vs u1 k1 => ?_
    show spD G ks Fn (vs ++ []) H1 Q (WE W σ)
    rw [List.append_nil]
    exact sp_callS hks u1.fb u1.bh (par_of hks k1) hr (q.weak u1)
  · exact a2 Z F B H σ ρ s _ ex _ q
/-! ### C(a, ..) -/
def outM : Option FOut → M D
  | some (.ret _ .non [d]) => some (.ok d)
  | some (.exc x [_]) => some (.error x)
  | _ => none
def fMk (c : Nat) (Fn : List D → Option FOut) (fs : En → M (List D)) : En → M D := fun ρ => (fs ρ).bnd fun xs => outM (Fn (.obj c [] :: xs))
theorem ParR.mono {F B H B' H' : Hp} (b : Same B B') : ∀ {ks : List PK} {ds : List D} {vs : List V}, ks.all PK.still = true → ParR G F B H ks ds vs → ParR G F B' H' ks ds vs
  | [], [], vs, _, h => h
  | [], _ :: _, vs, _, h => h.elim
  | .sh :: ks, [], vs, _, h => h.elim
  | .bo :: ks, [], vs, _, h => h.elim
  | .mu :: ks, _, vs, h, _ => by simp [PK.still] at h
  | .sh :: ks, d :: ds, vs, a, h => by
    obtain ⟨v, vs', rfl, h1, h2⟩ := h
    exact ⟨v, vs', rfl, h1, h2.mono b (by simpa [PK.still] using a)⟩
  | .bo :: ks, d :: ds, vs, a, h => by
    obtain ⟨v, vs', rfl, h1, h2⟩ := h
    exact ⟨v, vs', rfl, h1.mono (Same.refl _) b, h2.mono b (by simpa [PK.still] using a)⟩
theorem zipF_nil (ns : List Str) : zipF ns [] = [] := by cases ns <;> rfl
/-- the new instance, then its __init__ -/
theorem sp_mk {c : Nat} {C : Addr} {ns : List Str} {ds : List D} {vs : List V} {Q : VK} {r : Except Xc D} (hct : G.ct c = some (C, ns)) (hks : ks.all PK.still = true) (fb : Same F B) (bh : Same B H) (ha : ParR G F H H ks ds vs)
    (hr : outM (Fn (.obj c [] :: ds)) = some r) (q : PostE G W .fresh F B H σ Q r) {x dx : Addr} (hx : H x = none) (hdx : H dx = none) (hne : dx ≠ x) :
    spD G (.mu :: ks) Fn (.ref x :: vs) (upd (upd H dx (.own x)) x (.ins C dx [])) (fun v H2 => v = .non ∧ Q (.ref x) H2) (WE W σ) := by
  have em : muA (.mu :: ks) (.ref x :: vs) = [x] := by
    show x :: muA ks vs = [x]
    rw [muA_still hks]
  have keep : Same H (hid (upd (upd H dx (.own x)) x (.ins C dx [])) [x]) := fun b u e => by
    have h1 : b ≠ x := ne_of_none e hx
    unfold hid
    rw [if_neg (by simpa using h1), upd_ne h1, upd_ne (ne_of_none e hdx)]
    exact e
  have keep2 : ∀ b, H b ≠ none → (upd (upd H dx (.own x)) x (.ins C dx [])) b = H b := fun b hb => by
    rw [upd_ne (by rintro rfl; exact hb hx), upd_ne (by rintro rfl; exact hb hdx)]
  unfold spD
  rw [em]
  refine ⟨F, .obj c [] :: ds, (fb.trans bh).trans keep, by simp, ⟨x, vs, rfl, by unfold hid; simp, ⟨C, ns, dx, [], hct, by rw [zipF_nil]; exact upd_same, rfl⟩, ha.mono keep hks⟩, ?_⟩
  have aft : ∀ {F' H' : Hp}, Aft F (upd (upd H dx (.own x)) x (.ins C dx [])) [x] F' H' → Aft F H [] F' H' ∧ F' x = none := fun {F' H'} z => by
    refine ⟨⟨z.f, z.fh, fun b u e _ => z.h b u (by rw [keep2 b (by rw [e]; intro z; cases z)]; exact e) (by simpa using ne_of_none e hx), fun b hb => z.k b (by rw [keep2 b hb]; exact hb), fun b hb => z.old b (by rw [keep2 b hb]; exact hb)⟩, ?_⟩
    rw [z.old x (by rw [upd_same]; intro z; cases z)]
    cases q : F x with
    | none => rfl
    | some u => rw [bh x u (fb x u q)] at hx; cases hx
  unfold outM at hr
  split at hr
  · rename_i fr d e
    have e2 := Option.some.inj hr
    subst e2
    refine ⟨_, e, fun F' H' v z rv ms => ⟨?_, ?_⟩⟩
    · unfold RetV at rv
      rw [if_neg (fun z => nomatch z.2)] at rv
      exact rv
    · obtain ⟨z1, z2⟩ := aft z
      refine q F' _ H' _ (z1.up fb bh) ?_
      show (if d.isMut = true then ∃ p, V.ref x = .ref p ∧ H p = none ∧ newB B H F' p = none ∧ OwnO G F' H' p d else Rep G F' d (.ref x))
      have ho : OwnO G F' H' x d := ms.1
      by_cases hm : d.isMut = true
      · rw [if_pos hm]
        exact ⟨x, rfl, hx, by unfold newB; rw [hx]; exact z2, ho⟩
      · cases d <;> first | exact ho.elim | exact absurd rfl hm
  · rename_i z d e
    have e2 := Option.some.inj hr
    subst e2
    exact ⟨_, e, fun F' H' cls dx' z xr _ => q F' _ H' cls dx' ((aft z).1.up fb bh) xr⟩
  · cases hr
theorem je_mk {c : Nat} {C : Addr} {ns : List Str} (hct : G.ct c = some (C, ns)) (mk : Mk G.K C ad) (ok : FnG G j ad fd ps (.mu :: ks) Fn) (hj : j + 1 ≤ k) (hks : ks.all PK.still = true) (hg : glB sc x = true) (hm : G.mg x = some (.ref C)) (hb : Binds G.K fd ps [])
    (hd : (x == ("__debug__" : Str)) = false) (hp : PlainArg e) (hpl : NoStar pos es) (ha : JA G k W N sc (ks.map argK) (e :: es) fs) : JE G k W N sc .fresh (.Call (.Name x p) (e :: es) [] pos) (fMk c Fn fs) := by
  obtain ⟨ta, a1, a2⟩ := ha
  refine ⟨tMk C (spD G (.mu :: ks) Fn) [] (fun σ => WE W σ) ta, fun X c => pe_mk (by rw [c.hK]; exact mk) (c.fn ok) (c.room.mono hj) (gl_of c.hsc hg) (by rw [c.hmg]; exact hm) (by rw [c.hK]; exact hb) .nil c.pass (a1 X c) hd (hp _ _) (hpl _), fun Z F B H σ ρ s r hr Q q => ?_⟩
  rcases bnd_some hr with ⟨ds, ed, hr⟩ | ⟨x, ex, rfl⟩
  · refine a2 Z F B H σ ρ s _ ed _ fun F1 B1 H1 vs u1 k1 x dx hx hdx hne => ?_
    rw [List.append_nil]
    exact sp_mk hct hks u1.fb u1.bh (par_of hks k1) hr (q.weak u1) hx hdx hne
  · exact a2 Z F B H σ ρ s _ ex _ q
/-- C() where __init__ has one default, a written empty tuple -/
theorem je_mk0 {c : Nat} {C t0 : Addr} {ns : List Str} {o0 : Obj} {its : Array Value} {n0 : Nat} (hct : G.ct c = some (C, ns)) (mk : Mk G.K C ad) (ok : FnG G j ad fd ps [.mu, .bo] Fn) (hj : j + 1 ≤ k) (hg : glB sc x = true) (hm : G.mg x = some (.ref C)) (hb : Binds G.K fd ps [.ref t0])
    (h0 : G.K.lookup t0 = some o0) (hc0 : o0.cls = .type "tuple") (hdd : o0.dict = none) (hd0 : o0.data = .seq its n0) (hi0 : its = #[]) (hd : (x == ("__debug__" : Str)) = false) : JE G k W N sc .fresh (.Call (.Name x p) [] [] pos) (fMk c Fn (fun _ => some (.ok [.tup []]))) := by
  refine ⟨tMk C (spD G [.mu, .bo] Fn) [.ref t0] (fun σ => WE W σ) tNil, fun X c => pe_mk0 (by rw [c.hK]; exact mk) (c.fn ok) (c.room.mono hj) (gl_of c.hsc hg) (by rw [c.hmg]; exact hm) (by rw [c.hK]; exact hb) (.cons rfl .nil) c.pass hd, fun Z F B H σ ρ s r hr Q q => ?_⟩
  intro x dx hx hdx hne
  have pr : ParR G F H H [.bo] [.tup []] [.ref t0] := ⟨.ref t0, [], rfl, ⟨t0, [], rfl, .inr ⟨o0, its, n0, h0, hc0, hdd, hd0, by rw [hi0]; exact Nat.zero_le _, by rw [hi0]; exact .nil⟩, rfl⟩, rfl⟩
  exact sp_mk hct rfl s.fb s.bh pr hr q hx hdx hne
/-! ### o.m(a, ..) -/
theorem zipF_lookup {m : Str} : ∀ {ns : List Str} {vs : List V}, m ∉ ns → (zipF ns vs).lookup m = none
  | [], _, _ => by
    unfold zipF
    rfl
  | n :: ns, [], _ => rfl
  | n :: ns, v :: vs, h => by
    show ((n, v) :: zipF ns vs).lookup m = none
    rw [List.lookup_cons, beq_eq_false_iff_ne.mpr (fun z => h (by rw [z]; exact List.mem_cons_self))]
    exact zipF_lookup fun z => h (List.mem_cons_of_mem _ z)
def isObj (c : Nat) : D → Bool
  | .obj c' _ => c' == c
  | _ => false
def fMe (c : Nat) (Fn : List D → Option FOut) (fa : En → M D) (fs : En → M (List D)) (out : Option FOut → M D) : En → M D := fun ρ => (fa ρ).bnd fun x => if isObj c x = true then (fs ρ).bnd fun xs => out (Fn (x :: xs)) else none
theorem isObj_eq {c : Nat} {d : D} (h : isObj c d = true) : ∃ fs, d = .obj c fs := by
  cases d <;> first
    | (rename_i c' fs
       have e : c' = c := by simpa [isObj] using h
       subst e
       exact ⟨fs, rfl⟩)
    | cases h
def MethEval (o : Expr) (m : Str) (apos : Pos) (args : List Expr) (pos : Pos) (pl : Env → Sem Bool) : Prop := ∀ env : Env, eval (.Call (.Attribute o m apos) args [] pos) env = (do
      let z ← eval o env
      standAt apos.atName
      let (g, fst) ← holding [z] (getMethod z m (pl env))
      callWith pos g fst (backTo pos (starEach args env)) (backToKw pos (keywordEach [] env)))
theorem spec_me {c : Nat} {C : Addr} {ns : List Str} {kd : Kd} {ta : TE} {tr : TA} {out : Option FOut → M D} (hct : G.ct c = some (C, ns)) (hks : ks.all PK.still = true) (hmn : m ∉ ns) (a2 : SpecE G W .peek ta fa) (r2 : SpecA G W (ks.map argK) tr fs)
    (fin : ∀ {F B H : Hp} {σ : L2.St} {ds : List D} {vs : List V} {Q : VK} {r : Except Xc D}, Same F B → Same B H → ParR G F H H (.bo :: ks) ds vs → out (Fn ds) = some r → PostE G W kd F B H σ Q r → spD G (.bo :: ks) Fn vs H Q (WE W σ)) :
    SpecE G W kd (tMe C m (spD G (.bo :: ks) Fn) [] (fun σ => WE W σ) ta tr) (fMe c Fn fa fs out) := by
  intro Z F B H σ ρ s r hr Q q
  rcases bnd_some hr with ⟨d, ed, hr⟩ | ⟨x, ex, rfl⟩
  · split at hr
    · rename_i hob
      obtain ⟨gs, rfl⟩ := isObj_eq hob
      refine a2 Z F B H σ ρ s _ ed _ fun F1 B1 H1 v1 u1 k1 => ?_
      obtain ⟨pa, rfl, C', ns', dx, vs, h1, h2, h3⟩ := k1
      rw [hct] at h1
      cases h1
      refine ⟨pa, dx, _, rfl, h2, zipF_lookup hmn, ?_⟩
      rcases bnd_some hr with ⟨ds, eds, hr⟩ | ⟨x, ex, rfl⟩
      · refine r2 Z F1 B1 H1 σ ρ (s.up u1) _ eds _ fun F2 B2 H2 ws u2 k2 => ?_
        rw [List.append_nil]
        exact fin (ds := .obj c gs :: ds) (vs := .ref pa :: ws) u2.fb u2.bh ⟨.ref pa, ws, rfl, ⟨pa, rfl, C, ns, dx, vs, hct, u2.h _ _ h2, h3.mono u2.f⟩, par_of hks k2⟩ hr (q.weak (u1.trans u2))
      · exact r2 Z F1 B1 H1 σ ρ (s.up u1) _ ex _ (fun F' B' H' cls dx u hx => q F' B' H' cls dx (u1.trans u) hx)
    · cases hr
  · exact a2 Z F B H σ ρ s _ ex _ q
theorem je_meF {c : Nat} {C : Addr} {ns : List Str} {pl : Env → Sem Bool} (hct : G.ct c = some (C, ns)) (cl : Cls G.K C) (me : Meth G.K C m ad) (ok : FnG G j ad fd ps (.bo :: ks) Fn) (hj : j ≤ k) (hks : ks.all PK.still = true) (hmn : m ∉ ns) (hb : Binds G.K fd ps [])
    (hp : PlainArg e) (hpl : NoStar pos es) (ht : MethEval o m apos (e :: es) pos pl) (ho : JE G k W N sc .peek o fa) (ha : JA G k W N sc (ks.map argK) (e :: es) fs) : JE G k W N sc .fresh (.Call (.Attribute o m apos) (e :: es) [] pos) (fMe c Fn fa fs outF) := by
  obtain ⟨ta, a1, a2⟩ := ho
  obtain ⟨tr, r1, r2⟩ := ha
  exact ⟨_, fun X c => pe_me (pl := pl X.env) (a1 X c) (by rw [c.hK]; exact cl) (by rw [c.hK]; exact me) (c.fn ok) (c.room.mono hj) (by rw [c.hK]; exact hb) .nil c.pass (r1 X c) (hp _ _) (hpl _) (ht _),
    spec_me hct hks hmn a2 r2 fun fb bh pr hr q => sp_callF (by simpa [PK.still] using hks) fb bh pr hr q⟩
theorem je_meS {c : Nat} {C : Addr} {ns : List Str} {pl : Env → Sem Bool} (hct : G.ct c = some (C, ns)) (cl : Cls G.K C) (me : Meth G.K C m ad) (ok : FnG G j ad fd ps (.bo :: ks) Fn) (hj : j ≤ k) (hks : ks.all PK.still = true) (hmn : m ∉ ns) (hb : Binds G.K fd ps [])
    (hp : PlainArg e) (hpl : NoStar pos es) (ht : MethEval o m apos (e :: es) pos pl) (ho : JE G k W N sc .peek o fa) (ha : JA G k W N sc (ks.map argK) (e :: es) fs) : JE G k W N sc .shared (.Call (.Attribute o m apos) (e :: es) [] pos) (fMe c Fn fa fs outS) := by
  obtain ⟨ta, a1, a2⟩ := ho
  obtain ⟨tr, r1, r2⟩ := ha
  exact ⟨_, fun X c => pe_me (pl := pl X.env) (a1 X c) (by rw [c.hK]; exact cl) (by rw [c.hK]; exact me) (c.fn ok) (c.room.mono hj) (by rw [c.hK]; exact hb) .nil c.pass (r1 X c) (hp _ _) (hpl _) (ht _),
    spec_me hct hks hmn a2 r2 fun fb bh pr hr q => sp_callS (by simpa [PK.still] using hks) fb bh pr hr q⟩
theorem je_me0F {c : Nat} {C : Addr} {ns : List Str} {pl : Env → Sem Bool} (hct : G.ct c = some (C, ns)) (cl : Cls G.K C) (me : Meth G.K C m ad) (ok : FnG G j ad fd ps [.bo] Fn) (hj : j ≤ k) (hmn : m ∉ ns) (hb : Binds G.K fd ps [])
    (ht : MethEval o m apos [] pos pl) (ho : JE G k W N sc .peek o fa) : JE G k W N sc .fresh (.Call (.Attribute o m apos) [] [] pos) (fMe c Fn fa fNil outF) := by
  obtain ⟨ta, a1, a2⟩ := ho
  obtain ⟨tr, r1, r2⟩ := (ja_nil : JA G k W N sc [] [] fNil)
  refine ⟨_, fun X c => pe_me0 (pl := pl X.env) (a1 X c) (by rw [c.hK]; exact cl) (by rw [c.hK]; exact me) (c.fn ok) (c.room.mono hj) (by rw [c.hK]; exact hb) .nil c.pass (ht _),
    spec_me (ks := []) hct rfl hmn a2 (fun Z F B H σ ρ s r hr Q q => ?_) fun fb bh pr hr q => sp_callF rfl fb bh pr hr q⟩
  have e := Option.some.inj hr
  subst e
  exact q F B H [] (Up.refl s.fb s.bh) rfl
/-! ### o.f -/
theorem zipF_at {ns : List Str} : ∀ {vs : List V} {i : Nat} {n : Str} {v : V}, ns.Nodup → ns[i]? = some n → vs[i]? = some v → (zipF ns vs).lookup n = some v := by
  induction ns with
  | nil => intro vs i n v _ h; cases h
  | cons a ns ih =>
    intro vs i n v nd h1 h2
    cases vs with
    | nil => cases h2
    | cons w vs =>
      cases i with
      | zero =>
        have e1 : a = n := Option.some.inj h1
        have e2 : w = v := Option.some.inj h2
        subst e1 e2
        show ((a, w) :: zipF ns vs).lookup a = some w
        rw [List.lookup_cons, beq_self_eq_true]
      | succ i =>
        have h1 : ns[i]? = some n := h1
        have h2 : vs[i]? = some v := h2
        show ((a, w) :: zipF ns vs).lookup n = some v
        have hne : n ≠ a := by
          rintro rfl
          exact (List.nodup_cons.mp nd).1 (List.mem_of_getElem? h1)
        rw [List.lookup_cons, beq_eq_false_iff_ne.mpr hne]
        exact ih (List.nodup_cons.mp nd).2 h1 h2
def fldD (c i : Nat) : D → Option D
  | .obj c' fs => if c' = c then fs[i]? else none
  | _ => none
theorem je_fld (gok : GOk G) {c i : Nat} {C : Addr} {ns : List Str} (hct : G.ct c = some (C, ns)) (hc : c < 100) (hi : ns[i]? = some m) (hb : ∀ env : Env, attributeBase o m env (eval o env) = eval o env) (ho : JE G k W N sc .peek o fa) : JE G k W N sc .shared (.Attribute o m pos) (fUn (fldD c i) fa) := by
  obtain ⟨ta, a1, a2⟩ := ho
  refine ⟨tFld G.K ta m, fun X c => by rw [← c.hK]; exact pe_fld (a1 X c) (hb _), fun Z F B H σ ρ s r hr Q q => ?_⟩
  rcases bnd_some hr with ⟨d, ed, hr⟩ | ⟨x, ex, rfl⟩
  · refine a2 Z F B H σ ρ s _ ed _ fun F1 B1 H1 v1 u1 k1 => ?_
    obtain ⟨d', e', rfl⟩ := up1_ok hr
    unfold fldD at e'
    split at e'
    · rename_i c' gs
      split at e'
      · rename_i hcc
        subst hcc
        obtain ⟨pa, rfl, C', ns', dx, vs, h1, h2, h3⟩ := k1
        rw [hct] at h1
        cases h1
        obtain ⟨v, e1, e2⟩ := h3.get e'
        obtain ⟨c1, c2, c3, c4⟩ := gok.cl c' C ns hct hc
        exact ⟨pa, C, dx, _, v, rfl, h2, c1, c2 m (List.mem_of_getElem? hi), zipF_at c3 hi e1, q F1 B1 H1 v u1 e2⟩
      · cases e'
    · cases e'
  · exact a2 Z F B H σ ρ s _ ex _ q
/-! ### self.f = e -/
theorem zipF_put {ns : List Str} {y : V} : ∀ {vs : List V} {i : Nat} {n : Str}, ns.Nodup → ns[i]? = some n → i ≤ vs.length → putF n y (zipF ns vs) = zipF ns (if i < vs.length then vs.set i y else vs ++ [y]) := by
  induction ns with
  | nil => intro vs i n _ h; cases h
  | cons a ns ih =>
    intro vs i n nd h1 hl
    cases i with
    | zero =>
      have e1 : a = n := Option.some.inj h1
      subst e1
      cases vs with
      | nil =>
        show putF a y [] = zipF (a :: ns) [y]
        show [(a, y)] = (a, y) :: zipF ns []
        rw [zipF_nil]
      | cons w vs =>
        rw [if_pos (by rw [List.length_cons]; omega)]
        show putF a y ((a, w) :: zipF ns vs) = (a, y) :: zipF ns vs
        unfold putF
        rw [if_pos rfl]
    | succ i =>
      have h1 : ns[i]? = some n := h1
      have hne : a ≠ n := by
        rintro rfl
        exact (List.nodup_cons.mp nd).1 (List.mem_of_getElem? h1)
      cases vs with
      | nil => simp at hl
      | cons w vs =>
        have hl' : i ≤ vs.length := by simpa using hl
        have := ih (List.nodup_cons.mp nd).2 h1 hl'
        show putF n y ((a, w) :: zipF ns vs) = _
        have e0 : putF n y ((a, w) :: zipF ns vs) = (a, w) :: putF n y (zipF ns vs) := by
          conv => lhs; unfold putF
          rw [if_neg hne]
        rw [e0, this]
        by_cases hi : i < vs.length
        · rw [if_pos hi, if_pos (by rw [List.length_cons]; omega)]
          rfl
        · rw [if_neg hi, if_neg (by rw [List.length_cons]; omega)]
          rfl
theorem zipF_len : ∀ {ns : List Str} {vs : List V}, (zipF ns vs).length ≤ ns.length
  | [], _ => by unfold zipF; exact Nat.le_refl _
  | n :: ns, [] => Nat.zero_le _
  | n :: ns, v :: vs => by
    show (zipF ns vs).length + 1 ≤ ns.length + 1
    exact Nat.succ_le_succ zipF_len
def setFld (c i : Nat) (y : D) : D → Option D
  | .obj c' fs => if c' = c ∧ i ≤ fs.length then some (.obj c (if i < fs.length then fs.set i y else fs ++ [y])) else none
  | _ => none
/-- slot s, an own or a changed object, becomes u of itself -/
def onSlot (s : Nat) (u : D → Option D) (ρ : En) : Option En := match ρ[s]? with
  | some (.ow d) => (u d).map fun d' => ρ.set s (.ow d')
  | some (.mu d) => (u d).map fun d' => ρ.set s (.mu d')
  | _ => none
/-- an own or changed object has changed -/
theorem SR.own_upd (s : SR G Z F B H σ ρ) {i : Nat} {p : Addr} {d d' : D} {o' : HO} (h : (ρ[i]? = some (.ow d) ∧ (σ[i]?).join = some (.ref p) ∧ Z.H p = none) ∨ (ρ[i]? = some (.mu d) ∧ (σ[i]?).join = some (.ref p) ∧ Z.M i = some p)) (hb : B p = none)
    (hd : OwnO G F (upd H p o') p d') (q : Sl) (hq : (ρ[i]? = some (.ow d) ∧ q = .ow d') ∨ (ρ[i]? = some (.mu d) ∧ q = .mu d')) : SR G Z F B (upd H p o') σ (ρ.set i q) := by
  have hi : i < ρ.length := by
    rcases hq with ⟨e, _⟩ | ⟨e, _⟩ <;> exact (List.getElem?_eq_some_iff.mp e).1
  have hsl : σ[i]? = some (some (.ref p)) := by
    rcases h with ⟨_, e, _⟩ | ⟨_, e, _⟩ <;> (cases z : σ[i]? with
      | none => rw [z] at e; cases e
      | some o => rw [z] at e; exact congrArg some e)
  have hf : F p = none := by
    cases z : F p with
    | none => rfl
    | some u => rw [s.fb p u z] at hb; cases hb
  have other : ∀ j p', j ≠ i → ((∃ d'', ρ[j]? = some (.ow d'')) ∨ (∃ d'', ρ[j]? = some (.mu d'') ∧ Z.M j = some p')) → σ[j]? = some (some (.ref p')) → p' ≠ p := by
    rintro j p' hj hjk hp rfl
    rcases h with ⟨e1, e2, e3⟩ | ⟨e1, e2, e3⟩
    · rcases hjk with ⟨d'', e⟩ | ⟨d'', e, em⟩
      · exact hj (s.nd j i _ ⟨⟨d'', e⟩, hp⟩ ⟨⟨d, e1⟩, hsl⟩)
      · exact (s.mm j _ em).1 e3
    · rcases hjk with ⟨d'', e⟩ | ⟨d'', e, em⟩
      · obtain ⟨p2, a1, a2, _⟩ := s.sl j _ e
        rw [hp] at a1
        have e4 : p' = p2 := by
          injection a1 with a1
          injection a1
        subst e4
        exact (s.mm i _ e3).1 a2
      · exact hj (s.md j i _ em e3)
  refine ⟨s.fb, fun a o e => ?_, s.zf, s.zb, s.zo, fun a o e hm => ?_, fun a ha => ?_, s.mm, s.md, by rw [List.length_set]; exact s.len, fun j t ht => ?_, fun j l p' hj hl => ?_, s.lt, s.la⟩
  · rw [upd_ne (ne_of_none e hb)]
    exact s.bh a o e
  · have : a ≠ p := by
      rintro rfl
      rcases h with ⟨_, _, e3⟩ | ⟨_, _, e3⟩
      · rw [e] at e3; cases e3
      · exact hm i e3
    rw [upd_ne this]
    exact s.zh a o e hm
  · by_cases hap : a = p
    · subst hap; rw [upd_same]; intro z; cases z
    · rw [upd_ne hap]; exact s.zk a ha
  · by_cases hj : j = i
    · subst hj
      rw [List.getElem?_set_self hi] at ht
      cases ht
      rcases hq with ⟨e, rfl⟩ | ⟨e, rfl⟩
      · rcases h with ⟨e1, e2, e3⟩ | ⟨e1, e2, e3⟩
        · exact ⟨p, e2, e3, hb, hd⟩
        · rw [e] at e1; cases e1
      · rcases h with ⟨e1, e2, e3⟩ | ⟨e1, e2, e3⟩
        · rw [e] at e1; cases e1
        · exact ⟨p, e2, e3, hb, hd⟩
    · rw [List.getElem?_set_ne (Ne.symm hj)] at ht
      have hs := s.sl j t ht
      cases t with
      | un => trivial
      | sh d2 => exact hs
      | bo d2 => exact hs
      | ow d2 =>
        obtain ⟨p', e1, e2, e3, e4⟩ := hs
        have hpp := other j p' hj (.inl ⟨d2, ht⟩) (s.at ht e1)
        exact ⟨p', e1, e2, e3, e4.mono (Same.refl _) fun o e => by rw [upd_ne hpp]; exact e⟩
      | mu d2 =>
        obtain ⟨p', e1, e2, e3, e4⟩ := hs
        have hpp := other j p' hj (.inr ⟨d2, ht, e2⟩) (s.at ht e1)
        exact ⟨p', e1, e2, e3, e4.mono (Same.refl _) fun o e => by rw [upd_ne hpp]; exact e⟩
      | ln d2 => exact hs
  · have back : ∀ l p', OwnAt σ (ρ.set i q) l p' → OwnAt σ ρ l p' := fun l p' hl => by
      obtain ⟨⟨d2, h1⟩, h2⟩ := hl
      by_cases hli : l = i
      · subst hli
        rw [List.getElem?_set_self hi] at h1
        rcases hq with ⟨e, rfl⟩ | ⟨e, rfl⟩
        · exact ⟨⟨d, e⟩, h2⟩
        · cases h1
      · rw [List.getElem?_set_ne (Ne.symm hli)] at h1
        exact ⟨⟨d2, h1⟩, h2⟩
    exact s.nd j l p' (back j p' hj) (back l p' hl)
/-- what an own or changed slot is -/
theorem SR.own_at (s : SR G Z F B H σ ρ) {i : Nat} {d : D} (h : ρ[i]? = some (.ow d) ∨ ρ[i]? = some (.mu d)) : ∃ p, σ[i]? = some (some (.ref p)) ∧ B p = none ∧ OwnO G F H p d ∧
    ((ρ[i]? = some (.ow d) ∧ (σ[i]?).join = some (.ref p) ∧ Z.H p = none) ∨ (ρ[i]? = some (.mu d) ∧ (σ[i]?).join = some (.ref p) ∧ Z.M i = some p)) := by
  rcases h with h | h
  · obtain ⟨p, a1, a2, a3, a4⟩ := s.sl i _ h
    exact ⟨p, s.at h a1, a3, a4, .inl ⟨h, a1, a2⟩⟩
  · obtain ⟨p, a1, a2, a4, a3⟩ := s.sl i _ h
    exact ⟨p, s.at h a1, a4, a3, .inr ⟨h, a1, a2⟩⟩
theorem onSlot_some {i : Nat} {u : D → Option D} {ρ ρ' : En} (h : onSlot i u ρ = some ρ') : ∃ d d', u d = some d' ∧ ((ρ[i]? = some (.ow d) ∧ ρ' = ρ.set i (.ow d')) ∨ (ρ[i]? = some (.mu d) ∧ ρ' = ρ.set i (.mu d'))) := by
  unfold onSlot at h
  split at h
  · rename_i d e
    cases q : u d with
    | none => rw [q] at h; cases h
    | some d' =>
      rw [q] at h
      exact ⟨d, d', q, .inl ⟨e, (Option.some.inj h).symm⟩⟩
  · rename_i d e
    cases q : u d with
    | none => rw [q] at h; cases h
    | some d' =>
      rw [q] at h
      exact ⟨d, d', q, .inr ⟨e, (Option.some.inj h).symm⟩⟩
  · cases h
def gOn (i : Nat) (f : En → M D) (u : D → D → Option D) : SO := gBnd f fun y ρ => (onSlot i (u y) ρ).map .nx
theorem js_fld (gok : GOk G) {c i sl : Nat} {C : Addr} {ns : List Str} {y : Str} {p1 p2 : Pos} (hct : G.ct c = some (C, ns)) (hc : c < 100) (hi : ns[i]? = some m) (hy : N[sl]? = some y) (hv : visB sc y = true) (hd : (y == ("__debug__" : Str)) = false) (hcd : (y == ("__classdict__" : Str)) = false)
    (hs : ∀ X : Cx, X.env.scope = sc → swapsWith e (some (.Attribute (.Name y p1) m p2)) pos.line X.env = pure false) (ha : JE G k W N sc .shared e f) : JS G k W N sc (.Assign [.Attribute (.Name y p1) m p2] e pos) (gOn sl f (setFld c i)) := by
  obtain ⟨ta, a1, a2⟩ := ha
  refine ⟨sFld G.K (tVar sl) ta m, fun X c => by rw [← c.ce.hK]; exact ps_fld (pe_var (by rw [c.ce.hN]; exact hy) (by rw [c.ce.hsc]; exact vis_of hv) hd hcd) (a1 X c.ce) (hs X c.ce.hsc), fun Z F B H σ ρ s o ho E q => ?_⟩
  rcases gBnd_some ho with ⟨d, ed, ho⟩ | ⟨x, ex, rfl⟩
  · refine a2 Z F B H σ ρ s _ ed _ fun F1 B1 H1 v1 u1 k1 => ?_
    cases e1 : onSlot sl (setFld c i d) ρ with
    | none => rw [e1] at ho; cases ho
    | some ρ' =>
      rw [e1] at ho
      have e2 := Option.some.inj (show some (Out.nx ρ') = some o from ho)
      subst e2
      obtain ⟨d0, d1, eu, hq⟩ := onSlot_some e1
      have s1 := s.up u1
      obtain ⟨pa, b1, b2, b3, b4⟩ := s1.own_at (i := sl) (d := d0) (by rcases hq with ⟨h, _⟩ | ⟨h, _⟩; exact .inl h; exact .inr h)
      unfold setFld at eu
      split at eu
      · rename_i c' gs
        split at eu
        · rename_i hcc
          obtain ⟨rfl, hle⟩ := hcc
          have e3 := Option.some.inj eu
          subst e3
          obtain ⟨C', ns', dx, vs, h1, h2, h3⟩ := b3
          rw [hct] at h1
          cases h1
          obtain ⟨c1, c2, c3, c4⟩ := gok.cl c' C ns hct hc
          have hlv := h3.length
          refine ⟨_, b1, pa, C, dx, _, rfl, h2, c1, c2 m (List.mem_of_getElem? hi), Nat.lt_of_le_of_lt zipF_len c4, ?_⟩
          rw [zipF_put c3 hi (by rw [hlv]; exact hle)]
          have ho' : OwnO G F1 (upd H1 pa (.ins C dx (zipF ns (if i < vs.length then vs.set i v1 else vs ++ [v1])))) pa (.obj c' (if i < gs.length then gs.set i d else gs ++ [d])) := by
            refine ⟨C, ns, dx, _, hct, upd_same, ?_⟩
            rw [hlv]
            split
            · exact h3.set i k1
            · exact h3.app (RepL.one k1)
          rcases hq with ⟨g1, rfl⟩ | ⟨g1, rfl⟩
          · exact q F1 B1 _ σ (s1.own_upd b4 b2 ho' _ (.inl ⟨g1, rfl⟩)) u1.gro
          · exact q F1 B1 _ σ (s1.own_upd b4 b2 ho' _ (.inr ⟨g1, rfl⟩)) u1.gro
        · cases eu
      · cases eu
  · exact a2 Z F B H σ ρ s _ ex _ (PostS.er s q)
end
end DL

namespace DL
open PySem PySem.Spec L2
/-! ### a def's body -/
def rho0 : List PK → List D → En
  | .sh :: ks, d :: ds => .sh d :: rho0 ks ds
  | .bo :: ks, d :: ds => .bo d :: rho0 ks ds
  | .mu :: ks, d :: ds => .mu d :: rho0 ks ds
  | _, _ => []
def musE : List PK → En → Option (List D)
  | .mu :: ks, .mu d :: ρ => (musE ks ρ).map (d :: ·)
  | .mu :: _, _ => none
  | _ :: ks, _ :: ρ => musE ks ρ
  | [], _ => some []
  | _, _ => none
def Kd.fr : Kd → Bool
  | .fresh => true
  | _ => false
def outB (ks : List PK) : Option Out → Option FOut
  | some (.nx ρ) => (musE ks ρ).map (.ret true .non)
  | some (.rt kd d ρ) => (musE ks ρ).map (.ret kd.fr d)
  | some (.er x ρ) => (musE ks ρ).map (.exc x)
  | _ => none
/-- the def as a function: n names -/
def runF (ks : List PK) (n : Nat) (g : SO) (ds : List D) : Option FOut :=
  if ds.length = ks.length then outB ks (g (rho0 ks ds ++ List.replicate (n - ks.length) .un)) else none
def mAt : List PK → List V → Nat → Option Addr
  | k :: _, v :: _, 0 => k.ad v
  | _ :: ks, _ :: vs, i + 1 => mAt ks vs i
  | _, _, _ => none
section
variable {G : Gm} {k : Nat} {W : WX} {N : List Str} {sc : Scope} {g : SO} {F B H : Hp}
theorem mAt_mem : ∀ {ks : List PK} {vs : List V} {i : Nat} {p : Addr}, mAt ks vs i = some p → p ∈ muA ks vs
  | [], vs, i, p, h => by cases i <;> cases vs <;> cases h
  | k :: ks, [], i, p, h => by cases i <;> cases h
  | k :: ks, v :: vs, 0, p, h => List.mem_append_left _ (by rw [show k.ad v = some p from h]; exact List.mem_singleton.mpr rfl)
  | k :: ks, v :: vs, i + 1, p, h => List.mem_append_right _ (mAt_mem (ks := ks) (vs := vs) (i := i) h)
theorem mAt_of : ∀ {ks : List PK} {vs : List V} {p : Addr}, p ∈ muA ks vs → ∃ i, mAt ks vs i = some p
  | [], vs, p, h => by cases vs <;> cases h
  | k :: ks, [], p, h => by cases h
  | k :: ks, v :: vs, p, h => by
    rcases List.mem_append.mp h with h | h
    · refine ⟨0, ?_⟩
      show k.ad v = some p
      cases e : k.ad v with
      | none => rw [e] at h; cases h
      | some q =>
        rw [e] at h
        rw [List.mem_singleton.mp h]
    · obtain ⟨i, e⟩ := mAt_of (ks := ks) (vs := vs) (p := p) h
      exact ⟨i + 1, e⟩
theorem mAt_inj : ∀ {ks : List PK} {vs : List V} {i j : Nat} {p : Addr}, (muA ks vs).Nodup → mAt ks vs i = some p → mAt ks vs j = some p → i = j
  | [], vs, i, j, p, _, h, _ => by cases i <;> cases vs <;> cases h
  | k :: ks, [], i, j, p, _, h, _ => by cases i <;> cases h
  | k :: ks, v :: vs, 0, 0, p, _, _, _ => rfl
  | k :: ks, v :: vs, 0, j + 1, p, nd, h, h' => by
    have nd : ((k.ad v).toList ++ muA ks vs).Nodup := nd
    rw [show k.ad v = some p from h] at nd
    exact absurd (mAt_mem (ks := ks) (vs := vs) (i := j) h') (List.nodup_cons.mp nd).1
  | k :: ks, v :: vs, i + 1, 0, p, nd, h, h' => by
    have nd : ((k.ad v).toList ++ muA ks vs).Nodup := nd
    rw [show k.ad v = some p from h'] at nd
    exact absurd (mAt_mem (ks := ks) (vs := vs) (i := i) h) (List.nodup_cons.mp nd).1
  | k :: ks, v :: vs, i + 1, j + 1, p, nd, h, h' => congrArg Nat.succ (mAt_inj (ks := ks) (vs := vs) (List.nodup_append.mp nd).2.1 h h')
theorem mAt_there : ∀ {ks : List PK} {ds : List D} {vs : List V} {i : Nat} {p : Addr}, ParR G F B H ks ds vs → mAt ks vs i = some p → (∃ o, H p = some o) ∧ B p = none
  | [], ds, vs, i, p, _, h => by cases i <;> cases vs <;> cases h
  | .sh :: ks, [], vs, i, p, h, _ => h.elim
  | .bo :: ks, [], vs, i, p, h, _ => h.elim
  | .mu :: ks, [], vs, i, p, h, _ => h.elim
  | .sh :: ks, d :: ds, vs, i, p, h, e => by
    obtain ⟨v, vs', rfl, h1, h2⟩ := h
    cases i with
    | zero => cases e
    | succ i => exact mAt_there h2 e
  | .bo :: ks, d :: ds, vs, i, p, h, e => by
    obtain ⟨v, vs', rfl, h1, h2⟩ := h
    cases i with
    | zero => cases e
    | succ i => exact mAt_there h2 e
  | .mu :: ks, d :: ds, vs, i, p, h, e => by
    obtain ⟨q, vs', rfl, h0, h1, h2⟩ := h
    cases i with
    | zero =>
      have e := Option.some.inj (show some q = some p from e)
      subst e
      exact ⟨h1.there, h0⟩
    | succ i => exact mAt_there h2 e
theorem rho0_len : ∀ {ks : List PK} {ds : List D}, ds.length = ks.length → (rho0 ks ds).length = ks.length
  | [], ds, _ => by unfold rho0; rfl
  | .sh :: ks, [], h => by cases h
  | .bo :: ks, [], h => by cases h
  | .mu :: ks, [], h => by cases h
  | .sh :: ks, d :: ds, h => congrArg Nat.succ (rho0_len (by simpa using h))
  | .bo :: ks, d :: ds, h => congrArg Nat.succ (rho0_len (by simpa using h))
  | .mu :: ks, d :: ds, h => congrArg Nat.succ (rho0_len (by simpa using h))
theorem rho0_sl {Z : Zn} (hF : Z.F = F) (hB : Z.B = B) : ∀ {ks : List PK} {ds : List D} {vs : List V} (n : Nat), ParR G F B H ks ds vs → (∀ i p, mAt ks vs i = some p → Z.M (n + i) = some p) → ∀ (i : Nat) (s : Sl), (rho0 ks ds)[i]? = some s → SlR G Z F B H (n + i) ((vs.map some)[i]?).join s
  | [], ds, vs, n, _, _, i, s, e => by
    unfold rho0 at e
    cases e
  | .sh :: ks, [], vs, n, h, _, i, s, e => h.elim
  | .bo :: ks, [], vs, n, h, _, i, s, e => h.elim
  | .mu :: ks, [], vs, n, h, _, i, s, e => h.elim
  | .sh :: ks, d :: ds, vs, n, h, hm, i, s, e => by
    obtain ⟨v, vs', rfl, h1, h2⟩ := h
    cases i with
    | zero =>
      have e := Option.some.inj (show some (Sl.sh d) = some s from e)
      subst e
      exact ⟨v, rfl, h1⟩
    | succ i =>
      have := rho0_sl hF hB (n + 1) h2 (fun i p h => by rw [show n + 1 + i = n + (i + 1) by omega]; exact hm (i + 1) p h) i s e
      rw [show n + (i + 1) = n + 1 + i by omega]
      exact this
  | .bo :: ks, d :: ds, vs, n, h, hm, i, s, e => by
    obtain ⟨v, vs', rfl, h1, h2⟩ := h
    cases i with
    | zero =>
      have e := Option.some.inj (show some (Sl.bo d) = some s from e)
      subst e
      exact ⟨v, rfl, by rw [hB]; exact h1⟩
    | succ i =>
      have := rho0_sl hF hB (n + 1) h2 (fun i p h => by rw [show n + 1 + i = n + (i + 1) by omega]; exact hm (i + 1) p h) i s e
      rw [show n + (i + 1) = n + 1 + i by omega]
      exact this
  | .mu :: ks, d :: ds, vs, n, h, hm, i, s, e => by
    obtain ⟨p, vs', rfl, h0, h1, h2⟩ := h
    cases i with
    | zero =>
      have e := Option.some.inj (show some (Sl.mu d) = some s from e)
      subst e
      exact ⟨p, rfl, hm 0 p rfl, h0, h1⟩
    | succ i =>
      have := rho0_sl hF hB (n + 1) h2 (fun i p h => by rw [show n + 1 + i = n + (i + 1) by omega]; exact hm (i + 1) p h) i s e
      rw [show n + (i + 1) = n + 1 + i by omega]
      exact this
theorem rho0_ow : ∀ {ks : List PK} {ds : List D} {i : Nat} {d : D}, (rho0 ks ds)[i]? ≠ some (.ow d)
  | [], ds, i, d, e => by
    unfold rho0 at e
    cases e
  | .sh :: ks, [], i, d, e => by cases e
  | .bo :: ks, [], i, d, e => by cases e
  | .mu :: ks, [], i, d, e => by cases e
  | .sh :: ks, d' :: ds, 0, d, e => by cases e
  | .bo :: ks, d' :: ds, 0, d, e => by cases e
  | .mu :: ks, d' :: ds, 0, d, e => by cases e
  | .sh :: ks, d' :: ds, i + 1, d, e => rho0_ow (ks := ks) (ds := ds) (i := i) (d := d) e
  | .bo :: ks, d' :: ds, i + 1, d, e => rho0_ow (ks := ks) (ds := ds) (i := i) (d := d) e
  | .mu :: ks, d' :: ds, i + 1, d, e => rho0_ow (ks := ks) (ds := ds) (i := i) (d := d) e
theorem mus_end {F' H' : Hp} : ∀ {ks : List PK} {vs : List V} {ρ : En} {ms : List D}, vs.length = ks.length → musE ks ρ = some ms → (∀ i d, ρ[i]? = some (.mu d) → ∃ p, mAt ks vs i = some p ∧ OwnO G F' H' p d) → MusR G F' H' (muA ks vs) ms
  | [], vs, ρ, ms, hl, h, _ => by
    have e : ms = [] := by
      unfold musE at h
      exact (Option.some.inj h).symm
    subst e
    cases vs with
    | nil => trivial
    | cons v vs => cases hl
  | k :: ks, [], ρ, ms, hl, h, _ => by cases hl
  | .sh :: ks, v :: vs, [], ms, hl, h, _ => by cases h
  | .bo :: ks, v :: vs, [], ms, hl, h, _ => by cases h
  | .mu :: ks, v :: vs, [], ms, hl, h, _ => by cases h
  | .sh :: ks, v :: vs, r :: ρ, ms, hl, h, q => mus_end (ks := ks) (vs := vs) (ρ := ρ) (by simpa using hl) h fun i d e => q (i + 1) d e
  | .bo :: ks, v :: vs, r :: ρ, ms, hl, h, q => mus_end (ks := ks) (vs := vs) (ρ := ρ) (by simpa using hl) h fun i d e => q (i + 1) d e
  | .mu :: ks, v :: vs, r :: ρ, ms, hl, h, q => by
    cases r <;> first
      | cases h
      | (rename_i d
         have h : (musE ks ρ).map (d :: ·) = some ms := h
         cases e : musE ks ρ with
         | none => rw [e] at h; cases h
         | some ms' =>
           rw [e] at h
           have e2 := Option.some.inj h
           subst e2
           have ih := mus_end (ks := ks) (vs := vs) (ρ := ρ) (by simpa using hl) e fun i d e => q (i + 1) d e
           obtain ⟨p, e3, e4⟩ := q 0 d rfl
           cases v <;> first
             | (have e5 := Option.some.inj e3
                subst e5
                exact ⟨e4, ih⟩)
             | cases e3)
/-- the body keeps the def's promise -/
theorem body_ok {ks : List PK} {ts : TS} {E : XK} (hb : SpecS G (fun cls d _ H => E cls d H) ts g) {vs : List V} {Q : VK} (hN : ks.length ≤ N.length) (h : spD G ks (runF ks N.length g) vs H Q E) :
    ts { nx := fun _ H' => Q .non H', rt := Q } (L2.start N vs) H := by
  obtain ⟨F, ds, fb, nd, pr, o, ho, q⟩ := h
  unfold runF at ho
  split at ho
  · rename_i hl
    have hlv := pr.length
    have hr0 := rho0_len (ks := ks) (ds := ds) hl
    obtain ⟨Z, hZ⟩ : ∃ Z : Zn, (⟨F, hid H (muA ks vs), H, fun i => mAt ks vs i, fun _ => none, []⟩ : Zn) = Z := ⟨_, rfl⟩
    have zF : Z.F = F := by rw [← hZ]
    have zB : Z.B = hid H (muA ks vs) := by rw [← hZ]
    have zH : Z.H = H := by rw [← hZ]
    have zM : Z.M = fun i => mAt ks vs i := by rw [← hZ]
    have zL : Z.L = fun _ => none := by rw [← hZ]
    have zLA : Z.LA = [] := by rw [← hZ]
    have s0 : SR G Z F (hid H (muA ks vs)) H (L2.start N vs) (rho0 ks ds ++ List.replicate (N.length - ks.length) .un) := by
      refine ⟨fb, fun a o e => ?_, by rw [zF]; exact Same.refl _, by rw [zB]; exact Same.refl _, fun a _ => by rw [zF, zB]; exact ⟨rfl, fun _ => rfl⟩, fun a o e _ => by rw [← zH]; exact e, fun a ha => by rw [← zH]; exact ha, fun i p hm => ?_, fun i j p h1 h2 => ?_, ?_, fun i s e => ?_, fun i j p hi hj => ?_, fun q hq => (by rw [zLA] at hq; cases hq), fun i q hq => (by rw [zL] at hq; cases hq)⟩
      · unfold hid at e
        split at e
        · cases e
        · exact e
      · rw [zM] at hm
        obtain ⟨⟨o, ho⟩, hb⟩ := mAt_there pr hm
        rw [zH, zB]
        exact ⟨(by rw [ho]; intro z; cases z), hb⟩
      · rw [zM] at h1 h2
        exact mAt_inj nd h1 h2
      · unfold L2.start
        rw [List.length_append, List.length_append, List.length_map, List.length_replicate, List.length_replicate, hr0, hlv]
      · unfold L2.start
        by_cases hi : i < ks.length
        · rw [List.getElem?_append_left (by rw [hr0]; exact hi)] at e
          rw [List.getElem?_append_left (by rw [List.length_map, hlv]; exact hi)]
          have := rho0_sl (G := G) (Z := Z) zF zB 0 pr (fun i p h => by rw [zM, Nat.zero_add]; exact h) i s e
          rw [Nat.zero_add] at this
          exact this
        · rw [List.getElem?_append_right (by rw [hr0]; omega)] at e
          have e2 := List.getElem?_replicate (n := N.length - ks.length) (a := Sl.un) (i := i - (rho0 ks ds).length)
          rw [e2] at e
          split at e
          · have e3 := Option.some.inj e
            subst e3
            trivial
          · cases e
      · obtain ⟨⟨d, h1⟩, _⟩ := hi
        by_cases hi : i < ks.length
        · rw [List.getElem?_append_left (by rw [hr0]; exact hi)] at h1
          exact absurd h1 rho0_ow
        · rw [List.getElem?_append_right (by rw [hr0]; omega)] at h1
          have e2 := List.getElem?_replicate (n := N.length - ks.length) (a := Sl.un) (i := i - (rho0 ks ds).length)
          rw [e2] at h1
          split at h1 <;> cases h1
    have aft : ∀ {F' B' H' σ' ρ'}, SR G Z F' B' H' σ' ρ' → Aft F H (muA ks vs) F' H' := fun {F' B' H' σ' ρ'} s => by
      refine ⟨by rw [← zF]; exact s.zf, s.fb.trans s.bh, fun a o e hm => s.zh a o (by rw [zH]; exact e) fun i hi => ?_, fun a ha => s.zk a (by rw [zH]; exact ha), fun a ha => by rw [← zF]; exact (s.zo a (by rw [zH]; exact ha)).1⟩
      rw [zM] at hi
      exact hm (mAt_mem hi)
    have mus : ∀ {F' B' H' σ' ρ' ms}, SR G Z F' B' H' σ' ρ' → musE ks ρ' = some ms → MusR G F' H' (muA ks vs) ms := fun {F' B' H' σ' ρ' ms} s e => mus_end hlv e fun i d ed => by
      obtain ⟨p, _, e2, _, e3⟩ := s.sl i _ ed
      rw [zM] at e2
      exact ⟨p, e2, e3⟩
    unfold outB at ho
    split at ho
    · rename_i ρ' e
      cases em : musE ks ρ' with
      | none => rw [em] at ho; cases ho
      | some ms =>
        rw [em] at ho
        have e2 := Option.some.inj ho
        subst e2
        refine hb Z F _ H _ _ s0 _ e _ fun F' B' H' σ' s' _ => q F' H' .non (aft s') ?_ (mus s' em)
        unfold RetV
        rw [if_neg (fun z => nomatch z.2)]
        rfl
    · rename_i kd d ρ' e
      cases em : musE ks ρ' with
      | none => rw [em] at ho; cases ho
      | some ms =>
        rw [em] at ho
        have e2 := Option.some.inj ho
        subst e2
        refine hb Z F _ H _ _ s0 _ e _ fun F' B' H' σ' v s' _ rv => q F' H' v (aft s') ?_ (mus s' em)
        unfold RetV
        have noB : ∀ {p : Addr}, B' p = none → F' p = none := fun {p} hb => by
          cases z : F' p with
          | none => rfl
          | some u => rw [s'.fb p u z] at hb; cases hb
        cases kd with
        | fresh =>
          have rv : (if d.isMut = true then ∃ p, v = .ref p ∧ Z.H p = none ∧ B' p = none ∧ OwnO G F' H' p d else Rep G F' d v) := rv
          by_cases hm : d.isMut = true
          · rw [if_pos hm] at rv
            rw [if_pos ⟨rfl, hm⟩]
            obtain ⟨p, e1, e2, e3, e4⟩ := rv
            exact ⟨p, e1, by rw [← zH]; exact e2, noB e3, e4⟩
          · rw [if_neg hm] at rv
            rw [if_neg (fun z => hm z.2)]
            exact rv
        | shared =>
          rw [if_neg (fun z => nomatch z.1)]
          exact rv
        | peek =>
          rw [if_neg (fun z => nomatch z.1)]
          exact rv
        | borrow =>
          rw [if_neg (fun z => nomatch z.1)]
          exact rv
    · rename_i x ρ' e
      cases em : musE ks ρ' with
      | none => rw [em] at ho; cases ho
      | some ms =>
        rw [em] at ho
        have e2 := Option.some.inj ho
        subst e2
        exact hb Z F _ H _ _ s0 _ e _ fun F' B' H' σ' cls dx s' _ xr => q F' H' cls dx (aft s') xr (mus s' em)
    · cases ho
  · cases ho
/-- a def of the text is the function that its body denotes -/
theorem fn_ok {x qual : Str} {st : Stmt} {f : Addr} {fd : FuncData} {ps : List Str} {ks : List PK} (Fn : Fun G.K x qual st f fd) (S : FnScope N ps (defScope st)) (hps : ps.length = ks.length) (hN : ks.length ≤ N.length) (hb : ∀ W, JB G k W N (defScope st) (defBody st) g) :
    FnOk G.P G.w G.K G.mg G.base (L2N.CX G.P G.w) (k + 1) f fd ps (spD G ks (runF ks N.length g)) := by
  obtain ⟨oc, od, kV, doc, pm, an, cdv, ct, osl, rfl, lk, hcd⟩ := Fn.ex
  refine fn_of lk hcd S (fun vs H Q E h => ?_) fun A outer s H vs Q E hr hsp => ?_
  · obtain ⟨F, ds, _, _, pr, _⟩ := h
    rw [pr.length, hps]
  · obtain ⟨ts, t1, t2⟩ := hb (fun cls d _ H => E cls d H)
    refine ⟨ts, t1 _ ⟨⟨rfl, rfl, rfl, rfl, rfl, rfl, rfl, rfl, S.nd, hr, ?_⟩, fun _ => rfl, PassesOwn.leaving⟩, body_ok t2 hN hsp⟩
    exact L2N.takes_of rfl rfl rfl rfl
end
end DL

namespace DL
open PySem PySem.Spec L2
section
variable {G : Gm} {k : Nat} {W : WX} {N : List Str} {sc : Scope} {e a b c o : Expr} {es : List Expr} {f fa fb fc : En → M D} {fs : En → M (List D)} {ga gb : En → M Bool} {pos apos cpos : Pos} {kd : Kd} {F B H : Hp} {Z : Zn} {σ : L2.St} {ρ : En}
/-! ### xs.append(e) and the like -/
/-- how a method changes a list -/
def LMut (G : Gm) (r : V → List V → Hp → VK → Prop) (u : List D → List D → Option (List D)) : Prop :=
  ∀ F H p xs l ys zs l', H p = some (.lst xs) → RepL G F l xs → RepL G F zs ys → u zs l = some l' → ∃ xs', RepL G F l' xs' ∧ ∀ Q : VK, Q .non (upd H p (.lst xs')) → r (.ref p) ys H Q
def onL (u : List D → List D → Option (List D)) (zs : List D) : D → Option D
  | .lst l => (u zs l).map .lst
  | _ => none
def isOwL : Option Sl → Bool
  | some (.ow (.lst _)) => true
  | some (.mu (.lst _)) => true
  | _ => false
theorem isOwL_some {o : Option Sl} (h : isOwL o = true) : ∃ l, o = some (.ow (.lst l)) ∨ o = some (.mu (.lst l)) := by
  unfold isOwL at h
  split at h
  · rename_i l
    exact ⟨l, .inl rfl⟩
  · rename_i l
    exact ⟨l, .inr rfl⟩
  · cases h
def gMut (i : Nat) (fs : En → M (List D)) (u : List D → List D → Option (List D)) : SO := fun ρ => if isOwL ρ[i]? = true then gBnd fs (fun zs ρ => (onSlot i (onL u zs) ρ).map .nx) ρ else none
theorem PostS.erA {ks : List Arg} {E : Ends} {x : Xc} (s : SR G Z F B H σ ρ) (q : PostS G W Z F B E (.er x ρ)) {R : List V → Hp → Prop} : PostA G W ks F B H σ R (.error x) := fun F' B' H' cls dx u hx => q F' B' H' σ cls dx (s.up u) u.gro hx
def MFew (o : Expr) (name : Str) (apos cpos : Pos) (args : List Expr) : Prop :=
  ∀ env : Env, attributeBase o name env (eval o env) = eval o env ∧ ((backTo cpos (starEach args env)).all (fun x => !x.1) && (backToKw cpos (keywordEach [] env)).all (fun x => x.1.isSome)
      && decide (args.length + ([] : List Keyword).length + (if ([] : List Keyword).isEmpty then 0 else 1) < 30)) = true ∧ (apos.endLine == cpos.line) = true
theorem js_mut {i n : Nat} {y name : Str} {id : String} {p1 : Pos} {r : V → List V → Hp → VK → Prop} {u : List D → List D → Option (List D)} (slot : Slot "list" name id) (hty : typeOf (.builtin id) = pure (.type "method_descriptor")) (hm : ∀ X : Cx, MtR X id r) (hu : LMut G r u)
    (hy : N[i]? = some y) (hv : visB sc y = true) (hd : (y == ("__debug__" : Str)) = false) (hcd : (y == ("__classdict__" : Str)) = false) (hs : ∀ X : Cx, swapsWith (.Call (.Attribute (.Name y p1) name apos) (e :: es) [] cpos) none pos.line X.env = pure false)
    (hp : PlainArg e) (hpl : NoStar cpos es) (hw : MFew (.Name y p1) name apos cpos (e :: es)) (ha : JA G k W N sc (shs n) (e :: es) fs) : JS G k W N sc (.Expr (.Call (.Attribute (.Name y p1) name apos) (e :: es) [] cpos) pos) (gMut i fs u) := by
  obtain ⟨ta, a1, a2⟩ := ha
  refine ⟨tDrop (tBM G.K "list" r (tVar i) ta), fun X c => ps_expr (by
    rw [← c.ce.hK]
    exact pe_bm PySem.F.plainAttrs_list slot hty (hm X) (pe_var (by rw [c.ce.hN]; exact hy) (by rw [c.ce.hsc]; exact vis_of hv) hd hcd) (a1 X c.ce) (hw X.env).1 (hw X.env).2.1 (hw X.env).2.2 (hp _ _) (hpl _)) (hs X), fun Z F B H σ ρ s o ho E q => ?_⟩
  unfold gMut at ho
  split at ho
  · rename_i hown
    obtain ⟨l, hor⟩ := isOwL_some hown
    obtain ⟨pa, b1, b2, b3, b4⟩ := s.own_at hor
    obtain ⟨xs, h1, h2⟩ := b3
    refine ⟨.ref pa, b1, .inl ⟨rfl, xs, SqL.of h1⟩, ?_⟩
    rcases gBnd_some ho with ⟨zs, ed, ho⟩ | ⟨x, ex, rfl⟩
    · cases e1 : onSlot i (onL u zs) ρ with
      | none => rw [e1] at ho; cases ho
      | some ρ' =>
        rw [e1] at ho
        have e2 := Option.some.inj (show some (Out.nx ρ') = some o from ho)
        subst e2
        obtain ⟨d0, d1, eu, hq⟩ := onSlot_some e1
        have ed0 : d0 = .lst l := by
          rcases hq with ⟨h, _⟩ | ⟨h, _⟩ <;> rcases hor with h' | h' <;> rw [h] at h' <;> injection h' with h' <;> injection h'
        subst ed0
        have eu : (u zs l).map D.lst = some d1 := eu
        cases e3 : u zs l with
        | none => rw [e3] at eu; cases eu
        | some l' =>
          rw [e3] at eu
          have e4 := Option.some.inj eu
          subst e4
          refine a2 Z F B H σ ρ s _ ed _ fun F1 B1 H1 vs u1 k1 => ?_
          have h1' := u1.h _ _ h1
          obtain ⟨xs', g1, g2⟩ := hu F1 H1 pa xs l vs zs l' h1' (h2.mono u1.f) k1.shs e3
          have s1 := s.up u1
          obtain ⟨pa2, c1, c2, c3, c4⟩ := s1.own_at hor
          have ep : pa2 = pa := by
            rw [b1] at c1
            injection c1 with c1
            injection c1 with c1
            injection c1 with c1
            exact c1.symm
          subst ep
          have ho' : OwnO G F1 (upd H1 pa2 (.lst xs')) pa2 (.lst l') := ⟨xs', upd_same, g1⟩
          refine g2 _ ?_
          rcases hq with ⟨h, rfl⟩ | ⟨h, rfl⟩
          · exact q F1 B1 _ σ (s1.own_upd c4 c2 ho' _ (.inl ⟨h, rfl⟩)) u1.gro
          · exact q F1 B1 _ σ (s1.own_upd c4 c2 ho' _ (.inr ⟨h, rfl⟩)) u1.gro
    · exact a2 Z F B H σ ρ s _ ex _ (PostS.erA s q)
  · cases ho
def uApp : List D → List D → Option (List D)
  | [y], l => if l.length < LIM then some (l ++ [y]) else none
  | _, _ => none
theorem lm_app : LMut G rAppend uApp := by
  intro F H p xs l ys zs l' hp hl hz hu
  unfold uApp at hu
  split at hu
  · rename_i y
    split at hu
    · rename_i hlim
      have e := Option.some.inj hu
      subst e
      obtain ⟨v, vs', rfl, r1, r2⟩ := hz
      rw [show vs' = [] from r2]
      exact ⟨xs ++ [v], hl.app (RepL.one r1), fun Q q => ⟨p, xs, v, rfl, rfl, hp, by rw [hl.length]; exact lim_lt (Nat.le_of_lt hlim), q⟩⟩
    · cases hu
  · cases hu
theorem mt_app (X : Cx) : MtR X "list.append" rAppend := fun pins s σ H x xs v us Q I rx rxs h => mt_append pins s σ H x xs v us Q I rx rxs h
def rIns : V → List V → Hp → VK → Prop := fun x vs H Q => ∃ (l : Addr) (xs : List V) (i : Int) (y : V), x = .ref l ∧ vs = [.int i, y] ∧ H l = some (.lst xs) ∧ xs.length < sizeLine ∧ 0 ≤ i ∧ i < 2 ^ 63 ∧
    Q .non (upd H l (.lst (xs.take i.toNat ++ [y] ++ xs.drop i.toNat)))
theorem mt_ins (X : Cx) : MtR X "list.insert" rIns := L2.mt_insert
def uIns : List D → List D → Option (List D)
  | [.int i, y], l => if l.length < LIM ∧ 0 ≤ i ∧ i ≤ 16000000 then some (l.take i.toNat ++ [y] ++ l.drop i.toNat) else none
  | _, _ => none
theorem lm_ins : LMut G rIns uIns := by
  intro F H p xs l ys zs l' hp hl hz hu
  unfold uIns at hu
  split at hu
  · rename_i i y
    split at hu
    · rename_i hlim
      have e := Option.some.inj hu
      subst e
      obtain ⟨v, vs', rfl, r1, v2, vs2, rfl, r2, r3⟩ := hz
      rw [show vs2 = [] from r3, show v = .int i from r1]
      exact ⟨xs.take i.toNat ++ [v2] ++ xs.drop i.toNat, ((hl.take _).app (RepL.one r2)).app (hl.drop _), fun Q q => ⟨p, xs, i, v2, rfl, rfl, hp, by rw [hl.length]; exact lim_lt (Nat.le_of_lt hlim.1), hlim.2.1, by omega, q⟩⟩
    · cases hu
  · cases hu
/-! ### xs[i] = e -/
def uSet : D → D → D → Option D
  | y, .int i, .lst l => (ixN l.length i).map fun j => .lst (l.set j y)
  | _, _, _ => none
theorem uSet_some {y i d d1 : D} (h : uSet y i d = some d1) : ∃ iv l j, i = .int iv ∧ d = .lst l ∧ ixN l.length iv = some j ∧ d1 = .lst (l.set j y) := by
  unfold uSet at h
  split at h
  · rename_i iv l
    cases e : ixN l.length iv with
    | none => rw [e] at h; cases h
    | some j =>
      rw [e] at h
      exact ⟨iv, l, j, rfl, rfl, e, (Option.some.inj h).symm⟩
  · cases h
def gSetIx (s : Nat) (fi f : En → M D) : SO := gBnd f fun y ρ => if isOwL ρ[s]? = true then gBnd fi (fun i ρ => (onSlot s (uSet y i) ρ).map .nx) ρ else none
def SetPlain (y : Str) (p1 : Pos) (i : Expr) (tpos : Pos) (e : Expr) (spos : Pos) (sc : Scope) : Prop := ∀ X : Cx, X.env.scope = sc →
  (∀ v, assign (.Subscript (.Name y p1) i tpos) X.env v = (do
      let ov ← holding [v] (eval (.Name y p1) X.env)
      let iv ← holding [v, ov] (eval i X.env)
      standAt tpos
      holding [v, ov, iv] (setItem ov iv v)
      release [v, ov, iv] [])) ∧ swapsWithSole [.Subscript (.Name y p1) i tpos] e spos.line X.env = pure false ∧ swappedStores [.Subscript (.Name y p1) i tpos] e X.env = pure none ∧
    (assignEach [.Subscript (.Name y p1) i tpos] X.env).map (·.2) = [assign (.Subscript (.Name y p1) i tpos) X.env]
theorem js_setix {s : Nat} {y : Str} {i : Expr} {fi : En → M D} {p1 tpos : Pos} (hy : N[s]? = some y) (hv : visB sc y = true) (hd : (y == ("__debug__" : Str)) = false) (hcd : (y == ("__classdict__" : Str)) = false)
    (hsp : SetPlain y p1 i tpos e pos sc) (ha : JE G k W N sc .shared e f) (hi : JE G k W N sc .peek i fi) : JS G k W N sc (.Assign [.Subscript (.Name y p1) i tpos] e pos) (gSetIx s fi f) := by
  obtain ⟨ta, a1, a2⟩ := ha
  obtain ⟨ti, i1, i2⟩ := hi
  refine ⟨tAsg ta (gSub (tVar s) ti rSetL), fun X c => ps_asg (a1 X c.ce) (pg_sub (pe_var (by rw [c.ce.hN]; exact hy) (by rw [c.ce.hsc]; exact vis_of hv) hd hcd) (i1 X c.ce) set_list (hsp X c.ce.hsc).1) (hsp X c.ce.hsc).2.1 (hsp X c.ce.hsc).2.2.1 (hsp X c.ce.hsc).2.2.2, fun Z F B H σ ρ st o ho E q => ?_⟩
  rcases gBnd_some ho with ⟨d, ed, ho⟩ | ⟨x, ex, rfl⟩
  · refine a2 Z F B H σ ρ st _ ed _ fun F1 B1 H1 v1 u1 k1 => ?_
    split at ho
    · rename_i hown
      obtain ⟨l, hor⟩ := isOwL_some hown
      obtain ⟨pa, b1, _⟩ := st.own_at hor
      refine ⟨.ref pa, b1, ?_⟩
      rcases gBnd_some ho with ⟨di, edi, ho⟩ | ⟨x, ex, rfl⟩
      · cases e1 : onSlot s (uSet d di) ρ with
        | none => rw [e1] at ho; cases ho
        | some ρ' =>
          rw [e1] at ho
          have e2 := Option.some.inj (show some (Out.nx ρ') = some o from ho)
          subst e2
          obtain ⟨d0, d1, eu, hq⟩ := onSlot_some e1
          obtain ⟨iv, l0, j, rfl, e5, e3, rfl⟩ := uSet_some eu
          have ed0 : d0 = .lst l := by
            rcases hq with ⟨h, _⟩ | ⟨h, _⟩ <;> rcases hor with h' | h' <;> rw [h] at h' <;> injection h' with h' <;> injection h'
          subst ed0
          have el : l0 = l := by injection e5 with e5; exact e5.symm
          subst el
          refine i2 Z F1 B1 H1 σ ρ (st.up u1) _ edi _ fun F2 B2 H2 v2 u2 k2 => ?_
          have u12 := u1.trans u2
          have s1 := st.up u12
          obtain ⟨pa2, c1, c2, ⟨xs, h1, h2⟩, c4⟩ := s1.own_at hor
          have ep : pa2 = pa := by
            rw [b1] at c1
            injection c1 with c1
            injection c1 with c1
            injection c1 with c1
            exact c1.symm
          subst ep
          refine ⟨pa2, xs, iv, j, rfl, k2, h1, by rw [h2.length]; exact e3, ?_⟩
          have ho' : OwnO G F2 (upd H2 pa2 (.lst (xs.set j v1))) pa2 (.lst (l0.set j d)) := ⟨_, upd_same, h2.set j (Rep.mono u2.f _ _ k1)⟩
          rcases hq with ⟨h, rfl⟩ | ⟨h, rfl⟩
          · exact q F2 B2 _ σ (s1.own_upd c4 c2 ho' _ (.inl ⟨h, rfl⟩)) u12.gro
          · exact q F2 B2 _ σ (s1.own_upd c4 c2 ho' _ (.inr ⟨h, rfl⟩)) u12.gro
      · exact i2 Z F1 B1 H1 σ ρ (st.up u1) _ ex _ (fun F' B' H' cls dx u hx => q F' B' H' σ cls dx (st.up (u1.trans u)) (u1.gro.trans u.gro) hx)
    · cases ho
  · exact a2 Z F B H σ ρ st _ ex _ (PostS.er st q)
end
end DL

namespace DL
open PySem PySem.Spec L2
section
variable {G : Gm} {k : Nat} {W : WX} {N : List Str} {sc : Scope} {e a b c o : Expr} {es : List Expr} {f fa fb fc : En → M D} {fs : En → M (List D)} {ga gb : En → M Bool} {pos apos cpos : Pos} {kd : Kd} {F B H : Hp} {Z : Zn} {σ : L2.St} {ρ : En}
/-! ### [.. for .. in .. for .. in ..] -/
theorem walk_in {J : It} {n : Nat} {Gd : Hp → Prop} {Y : Nat → Hp → V → Hp → Prop} (w : Walk J n Gd Y) {g : TG} {tt : TT} {te : TE} {vs : List Nat} {τ : L2.St} {H1 : Hp} {A : Addr} {Qd : Hp → Prop} (Pv : Nat → Hp → Prop) (h0 : Pv 0 H1) (hG : ∀ i H, i ≤ n → Pv i H → Gd H)
    (hs : ∀ i x H H', i < n → Pv i H → Y i H x H' → g x (wipe τ vs) H' fun σ2 H2 => wipe σ2 vs = wipe τ vs ∧ tt σ2 H2 fun b H3 =>
      if b = true then te σ2 H3 fun y H4 => ∃ acc, H4 A = some (.lst acc) ∧ acc.length < sizeLine ∧ Pv (i + 1) (upd H4 A (.lst (acc ++ [y]))) else Pv (i + 1) H3) (hd : ∀ H, Pv n H → Qd H) :
    ∃ W : Nat → Nat → Hp → Prop, (∃ m, W 0 m H1) ∧ ∀ i m H, W i m H →
      (J.stop i H ∧ Qd H) ∨ (J.go i H ∧ ∃ Nx : Hp → Prop, (∀ H', Nx H' → ∃ m', m' < m ∧ W (i + 1) m' H') ∧ ∀ x H', J.yld i H x H' → g x (wipe τ vs) H' fun σ2 H2 => wipe σ2 vs = wipe τ vs ∧ tt σ2 H2 fun b H3 =>
        if b = true then te σ2 H3 fun y H4 => ∃ acc, H4 A = some (.lst acc) ∧ acc.length < sizeLine ∧ Nx (upd H4 A (.lst (acc ++ [y]))) else Nx H3) := by
  refine ⟨fun i m H => m + i = n ∧ Pv i H, ⟨n, by omega, h0⟩, ?_⟩
  rintro i m H ⟨hm, p⟩
  have hi : i ≤ n := by omega
  have gd := hG i H hi p
  by_cases hlt : i < n
  · exact .inr ⟨w.goes i H hlt gd, Pv (i + 1), fun H' p' => ⟨n - (i + 1), by omega, by omega, p'⟩, fun x H' y => hs i x H H' hlt p (w.yields i H x H' hlt gd y)⟩
  · have e : i = n := by omega
    subst e
    exact .inl ⟨w.stops H gd, hd H p⟩
def comp2G (h : D → En → Option En) (gc : En → M Bool) (fi1 : En → M (List D)) (h1 : D → En → Option En) (gc1 : En → M Bool) (fe : En → M D) (vs1 : List Nat) (ρ : En) : List D → Option (List D)
  | [] => some []
  | d :: ds => (h d ρ).bind fun ρ1 => match gc ρ1 with
    | some (.ok true) => (match fi1 ρ1 with
      | some (.ok items1) => (compG h1 gc1 fe (wipeE ρ1 vs1) items1).bind fun l1 => (comp2G h gc fi1 h1 gc1 fe vs1 ρ ds).map (l1 ++ ·)
      | _ => none)
    | some (.ok false) => comp2G h gc fi1 h1 gc1 fe vs1 ρ ds
    | _ => none
def fLc2 (fi : En → M (List D)) (h : D → En → Option En) (gc : En → M Bool) (fi1 : En → M (List D)) (h1 : D → En → Option En) (gc1 : En → M Bool) (fe : En → M D) (vs vs1 : List Nat) : En → M D :=
  fun ρ => (fi ρ).bnd fun items => limL (comp2G h gc fi1 h1 gc1 fe vs1 (wipeE ρ vs) items)
/-- what stands in the new list at A, what is left of l -/
def Mid (G : Gm) (F1 B1 H1 : Hp) (A : Addr) (l : List D) (left : List D → Prop) (H' : Hp) : Prop :=
  ∃ F' B' acc l' done, Up F1 B1 H1 F' B' H' ∧ H' A = some (.lst acc) ∧ B' A = none ∧ RepL G F' done acc ∧ left l' ∧ done ++ l' = l
theorem up_app {F1 B1 H1 F' B' H' : Hp} {A : Addr} {x : HO} (u : Up F1 B1 H1 F' B' H') (hA : H1 A = none) (hB : B' A = none) : Up F1 B1 H1 F' B' (upd H' A x) :=
  ⟨u.f, u.b, fun b o e => by rw [upd_ne (ne_of_none e hA)]; exact u.h b o e, u.fb, fun b o e => by rw [upd_ne (ne_of_none e hB)]; exact u.bh b o e, u.old⟩
theorem spec_lc2 {wi wi1 : TI} {t t1 : TG} {tt tt1 : TT} {te : TE} {fi fi1 : En → M (List D)} {is is1 vs vs1 : List Nat} {h h1 : D → En → Option En} {gc gc1 : En → M Bool} {fe : En → M D}
    (hi : ∀ Z F B H σ ρ, SR G Z F B H σ ρ → ∀ r, fi ρ = some r → ∀ R, PostI G W F B H σ R r → wi σ H R)
    (ht : ∀ Z F B H σ ρ, SR G Z F B H σ ρ → ∀ d v, Rep G F d v → ∀ ρ', h d ρ = some ρ' → ∀ Q : L2.St → Hp → Prop, (∀ σ', SR G Z F B H σ' ρ' → (∀ vs, (∀ i ∈ is, i ∈ vs) → wipe σ' vs = wipe σ vs) → (∀ j p, OwnAt σ' ρ' j p → OwnAt σ ρ j p) → Q σ' H) → t v σ H Q)
    (hc : SpecT G W0 tt gc)
    (hi1 : ∀ Z F B H σ ρ, SR G Z F B H σ ρ → ∀ r, fi1 ρ = some r → ∀ R, PostI G W0 F B H σ R r → wi1 σ H R)
    (ht1 : ∀ Z F B H σ ρ, SR G Z F B H σ ρ → ∀ d v, Rep G F d v → ∀ ρ', h1 d ρ = some ρ' → ∀ Q : L2.St → Hp → Prop, (∀ σ', SR G Z F B H σ' ρ' → (∀ vs, (∀ i ∈ is1, i ∈ vs) → wipe σ' vs = wipe σ vs) → (∀ j p, OwnAt σ' ρ' j p → OwnAt σ ρ j p) → Q σ' H) → t1 v σ H Q)
    (hc1 : SpecT G W0 tt1 gc1) (he : SpecE G W0 .shared te fe) (his : ∀ i ∈ is, i ∈ vs) (his1 : ∀ i ∈ is1, i ∈ vs1) : SpecE G W .fresh (tLc2 wi t tt wi1 t1 tt1 te vs vs1) (fLc2 fi h gc fi1 h1 gc1 fe vs vs1) := by
  intro Z F B H σ ρ s r hr Q q
  rcases bnd_some hr with ⟨items, ei, hr⟩ | ⟨x, ex, rfl⟩
  · obtain ⟨l, el, hlim, rfl⟩ := limL_some hr
    refine hi Z F B H σ ρ s _ ei _ fun F1 B1 H1 J u1 it A hA => ?_
    generalize hρ : wipeE ρ vs = ρw at el
    refine ⟨fun i m H' => m + i = items.length ∧ Mid G F1 B1 H1 A l (fun l' => comp2G h gc fi1 h1 gc1 fe vs1 ρw (items.drop i) = some l') H', ⟨items.length, by omega, F1, B1, [], l, [], Up.new u1.fb u1.bh hA, upd_same, u1.bh.free hA, rfl, el, rfl⟩, ?_⟩
    rintro i m H' ⟨hm, F', B', acc, l', done, u, hA', hB', rl, hl, hd⟩
    by_cases hlt : i < items.length
    · refine .inr ⟨it.goes i H' hlt (u.b.trans u.bh), Mid G F1 B1 H1 A l (fun l' => comp2G h gc fi1 h1 gc1 fe vs1 ρw (items.drop (i + 1)) = some l'), fun H2 p => ⟨items.length - (i + 1), by omega, by omega, p⟩, fun x H2 y => ?_⟩
      obtain ⟨F2, B2, d, ed, u2, rd⟩ := it.yields i H' x H2 hlt (u.b.trans u.bh) y F' B' u.gro u.fb u.bh
      have hdr : items.drop i = d :: items.drop (i + 1) := by
        obtain ⟨hi', e⟩ := List.getElem?_eq_some_iff.mp ed
        rw [List.drop_eq_getElem_cons hi', e]
      rw [hdr] at hl
      have hl : ((h d ρw).bind fun ρ1 => match gc ρ1 with
        | some (.ok true) => (match fi1 ρ1 with
          | some (.ok items1) => (compG h1 gc1 fe (wipeE ρ1 vs1) items1).bind fun l1 => (comp2G h gc fi1 h1 gc1 fe vs1 ρw (items.drop (i + 1))).map (l1 ++ ·)
          | _ => none)
        | some (.ok false) => comp2G h gc fi1 h1 gc1 fe vs1 ρw (items.drop (i + 1))
        | _ => none) = some l' := hl
      have s2 : SR G Z F2 B2 H2 (wipe σ vs) ρw := by
        rw [← hρ]
        exact (s.up (u1.trans (u.trans u2))).wiped vs
      cases e1 : h d ρw with
      | none => rw [e1] at hl; cases hl
      | some ρ1 =>
        rw [e1] at hl
        have hl : (match gc ρ1 with
          | some (.ok true) => (match fi1 ρ1 with
            | some (.ok items1) => (compG h1 gc1 fe (wipeE ρ1 vs1) items1).bind fun l1 => (comp2G h gc fi1 h1 gc1 fe vs1 ρw (items.drop (i + 1))).map (l1 ++ ·)
            | _ => none)
          | some (.ok false) => comp2G h gc fi1 h1 gc1 fe vs1 ρw (items.drop (i + 1))
          | _ => none) = some l' := hl
        refine ht Z F2 B2 H2 _ ρw s2 d x rd ρ1 e1 _ fun σ2 s3 w2 ob => ⟨by rw [w2 vs his, wipe_idem], ?_⟩
        cases e2 : gc ρ1 with
        | none => rw [e2] at hl; cases hl
        | some r =>
          rw [e2] at hl
          cases r with
          | error z => cases hl
          | ok bb =>
            refine hc Z F2 B2 H2 σ2 ρ1 s3 _ e2 _ fun F3 B3 H3 u3 => ?_
            have hne : H' A ≠ none := by rw [hA']; intro z; cases z
            have u23 := u2.trans u3
            have hA3 : H3 A = some (.lst acc) := u23.h _ _ hA'
            have hB3 : B3 A = none := by rw [(u23.old A hne).2]; exact hB'
            have rl3 : RepL G F3 done acc := rl.mono u23.f
            cases bb with
            | false => exact ⟨F3, B3, acc, l', done, u.trans u23, hA3, hB3, rl3, hl, hd⟩
            | true =>
              have hl : (match fi1 ρ1 with
                | some (.ok items1) => (compG h1 gc1 fe (wipeE ρ1 vs1) items1).bind fun l1 => (comp2G h gc fi1 h1 gc1 fe vs1 ρw (items.drop (i + 1))).map (l1 ++ ·)
                | _ => none) = some l' := hl
              cases e3 : fi1 ρ1 with
              | none => rw [e3] at hl; cases hl
              | some r3 =>
                rw [e3] at hl
                cases r3 with
                | error z => cases hl
                | ok items1 =>
                  have hl : ((compG h1 gc1 fe (wipeE ρ1 vs1) items1).bind fun l1 => (comp2G h gc fi1 h1 gc1 fe vs1 ρw (items.drop (i + 1))).map (l1 ++ ·)) = some l' := hl
                  cases e4 : compG h1 gc1 fe (wipeE ρ1 vs1) items1 with
                  | none => rw [e4] at hl; cases hl
                  | some l1 =>
                    rw [e4] at hl
                    have hl : (comp2G h gc fi1 h1 gc1 fe vs1 ρw (items.drop (i + 1))).map (l1 ++ ·) = some l' := hl
                    cases e5 : comp2G h gc fi1 h1 gc1 fe vs1 ρw (items.drop (i + 1)) with
                    | none => rw [e5] at hl; cases hl
                    | some l2 =>
                      rw [e5] at hl
                      have el' : l1 ++ l2 = l' := Option.some.inj hl
                      show wi1 σ2 H3 _
                      refine hi1 Z F3 B3 H3 σ2 ρ1 (s3.up u3) _ e3 _ fun F4 B4 H4 J1 u4 it1 => ?_
                      have uu4 := u.trans (u23.trans u4)
                      have hne3 : H3 A ≠ none := by rw [hA3]; intro z; cases z
                      have hA4 : H4 A = some (.lst acc) := u4.h _ _ hA3
                      have hB4 : B4 A = none := by rw [(u4.old A hne3).2]; exact hB3
                      refine walk_in (vs := vs1) it1 (fun j H5 => ∃ F5 B5 acc5 l5 done5, Up F1 B1 H1 F5 B5 H5 ∧ Gro F4 B4 F5 B5 ∧ SR G Z F5 B5 H5 σ2 ρ1 ∧ H5 A = some (.lst acc5) ∧ B5 A = none ∧ RepL G F5 done5 acc5 ∧ compG h1 gc1 fe (wipeE ρ1 vs1) (items1.drop j) = some l5 ∧ done5 ++ l5 = done ++ l1) ?_ ?_ ?_ ?_
                      · exact ⟨F4, B4, acc, l1, done, uu4, Gro.refl, s3.up (u3.trans u4), hA4, hB4, rl3.mono u4.f, e4, rfl⟩
                      · rintro j H5 hj ⟨F5, B5, acc5, l5, done5, u5, g5, _⟩
                        exact g5.b.trans u5.bh
                      · rintro j x5 H5 H6 hj ⟨F5, B5, acc5, l5, done5, u5, g5, s5, hA5, hB5, rl5, hl5, hd5⟩ y5
                        obtain ⟨F6, B6, d6, ed6, u6, rd6⟩ := y5 F5 B5 g5 u5.fb u5.bh
                        have hdr5 : items1.drop j = d6 :: items1.drop (j + 1) := by
                          obtain ⟨hi', e⟩ := List.getElem?_eq_some_iff.mp ed6
                          rw [List.drop_eq_getElem_cons hi', e]
                        rw [hdr5] at hl5
                        have s6 : SR G Z F6 B6 H6 (wipe σ2 vs1) (wipeE ρ1 vs1) := (s5.up u6).wiped vs1
                        have hne5 : H5 A ≠ none := by rw [hA5]; intro z; cases z
                        have hA6 : H6 A = some (.lst acc5) := u6.h _ _ hA5
                        have hB6 : B6 A = none := by rw [(u6.old A hne5).2]; exact hB5
                        have hlen : acc5.length + l5.length ≤ LIM := by
                          rw [rl5.length, ← List.length_append, hd5]
                          have : (done ++ l1).length ≤ l.length := by
                            rw [← hd, ← el', List.length_append, List.length_append, List.length_append]
                            omega
                          exact Nat.le_trans this hlim
                        have main := comp_turn (vs := vs1) ht1 hc1 he his1 s6 rd6 hl5 hA6 hB6 hlen (Nx := fun H5 => ∃ F5 B5 acc5 l5 done5, Up F1 B1 H1 F5 B5 H5 ∧ Gro F4 B4 F5 B5 ∧ SR G Z F5 B5 H5 σ2 ρ1 ∧ H5 A = some (.lst acc5) ∧ B5 A = none ∧ RepL G F5 done5 acc5 ∧ compG h1 gc1 fe (wipeE ρ1 vs1) (items1.drop (j + 1)) = some l5 ∧ done5 ++ l5 = done ++ l1) fun F7 B7 H7 u7 l7 e7 => ?_
                        · rw [wipe_idem] at main
                          exact main
                        · have hne6 : H6 A ≠ none := by rw [hA6]; intro z; cases z
                          have hB7 : B7 A = none := by rw [(u7.old A hne6).2]; exact hB6
                          have u67 := u6.trans u7
                          have rl7 : RepL G F7 done5 acc5 := rl5.mono u67.f
                          have s7 := s5.up u67
                          refine ⟨fun ⟨e, e'⟩ => ⟨F7, B7, acc5, l7, done5, u5.trans u67, g5.trans u67.gro, s7, e', hB7, rl7, e7, by rw [← e]; exact hd5⟩, fun y v e rv hA7 => ?_⟩
                          refine ⟨F7, B7, acc5 ++ [v], l7, done5 ++ [y], up_app (u5.trans u67) hA hB7, g5.trans u67.gro, ?_, upd_same, hB7, rl7.app (RepL.one rv), e7, by rw [List.append_assoc, List.singleton_append, ← e]; exact hd5⟩
                          refine s7.newUpd hB7 ?_ fun i p ho => ?_
                          · cases zz : Z.H A with
                            | none => rfl
                            | some oo => exact absurd (u1.h.free hA) (s.zk A (by rw [zz]; intro z; cases z))
                          · have ho2 := ob i p ho
                            rw [← hρ] at ho2
                            obtain ⟨⟨o1, ho1⟩, _⟩ := s.own_there (own_back ho2)
                            exact ne_of_none ho1 (u1.h.free hA)
                      · rintro H5 ⟨F5, B5, acc5, l5, done5, u5, g5, s5, hA5, hB5, rl5, hl5, hd5⟩
                        rw [List.drop_length] at hl5
                        have e := Option.some.inj (show some [] = some l5 from hl5)
                        subst e
                        rw [List.append_nil] at hd5
                        subst hd5
                        exact ⟨F5, B5, acc5, l2, done ++ l1, u5, hA5, hB5, rl5, rfl, by rw [List.append_assoc, el']; exact hd⟩
    · have e : i = items.length := by omega
      subst e
      refine .inl ⟨it.stops H' (u.b.trans u.bh), ?_⟩
      rw [List.drop_length] at hl
      have e := Option.some.inj (show some [] = some l' from hl)
      subst e
      rw [List.append_nil] at hd
      subst hd
      exact q F' B' H' _ (u1.trans u) ⟨A, rfl, u1.h.free hA, hB', acc, hA', rl⟩
  · exact hi Z F B H σ ρ s _ ex _ q
theorem je_lc2 {elt tg iter tg1 iter1 : Expr} {ifs ifs1 : List Expr} {scope : Scope} (own : List (Str × Nat)) (vs1 : List Nat) {fi fi1 : En → M (List D)} {is is1 : List Nat} {h h1 : D → En → Option En} {gc gc1 : En → M Bool} {fe : En → M D} (hb : blkC N sc scope own = true) (his : ∀ i ∈ is, i ∈ own.map (·.2)) (his1 : ∀ i ∈ is1, i ∈ vs1) (hv : ∀ i ∈ vs1, i ∈ own.map (·.2))
    (hi : JI G k W N sc tg iter fi) (ht : JG G (CnE G k W0 N (relS scope sc)) tg is h) (hc : JTs G k W0 N (relS scope sc) ifs gc)
    (hi1 : JI G k W0 N (relS scope sc) tg1 iter1 fi1) (ht1 : JG G (CnE G k W0 N (relS scope sc)) tg1 is1 h1) (hc1 : JTs G k W0 N (relS scope sc) ifs1 gc1) (he : JE G k W0 N (relS scope sc) .shared elt fe) (hs : ∀ (env : Env) x, foldedSetIterable iter env x = pure x) (hs1 : ∀ (env : Env) x, foldedSetIterable iter1 env x = pure x) :
    JE G k W N sc .fresh (.ListComp elt [⟨tg, iter, ifs, 0⟩, ⟨tg1, iter1, ifs1, 0⟩] scope pos) (fLc2 fi h gc fi1 h1 gc1 fe (own.map (·.2)) vs1) := by
  obtain ⟨wi, a1, a2⟩ := hi
  obtain ⟨t, b1, b2⟩ := ht
  obtain ⟨tt, c1, c2⟩ := hc
  obtain ⟨wi1, a3, a4⟩ := hi1
  obtain ⟨t1, b3, b4⟩ := ht1
  obtain ⟨tt1, c3, c4⟩ := hc1
  obtain ⟨te, e1, e2⟩ := he
  exact ⟨_, fun X c => pe_lc2 (own := own) (vs1 := vs1) c.calm (by rw [c.hN]; exact c.nd) (a1 X c) (by rw [c.hN, c.hsc]; exact blkOk_by hb) hv (fun _ _ _ _ _ => b1 _ c.blk) (fun _ _ _ _ _ => c1 _ c.blk) (fun _ _ _ _ _ => a3 _ c.blk) (fun _ _ _ _ _ => b3 _ c.blk) (fun _ _ _ _ _ => c3 _ c.blk) (fun _ _ _ _ _ => e1 _ c.blk) (hs _) hs1, spec_lc2 a2 b2 c2 a4 b4 c4 e2 his his1⟩
theorem js_setLc2 {i : Nat} {y : Str} {py spos : Pos} {elt tg iter tg1 iter1 : Expr} {ifs ifs1 : List Expr} {scope : Scope} (own : List (Str × Nat)) (vs1 : List Nat) {fi fi1 : En → M (List D)} {is is1 : List Nat} {h h1 : D → En → Option En} {gc gc1 : En → M Bool} {fe : En → M D} (hy : N[i]? = some y) (hyl : sc.names.lookup y = some .local)
    (hsw : (py.line == pos.line) = true) (hsy : (scope.names.any fun (n, k) => n == y && (k == .local || k == .cell)) = false) (hkind : sc.kind = .function) (hb : blkC N sc scope own = true) (his : ∀ i ∈ is, i ∈ own.map (·.2)) (his1 : ∀ i ∈ is1, i ∈ vs1) (hv : ∀ i ∈ vs1, i ∈ own.map (·.2))
    (hi : JI G k W N sc tg iter fi) (ht : JG G (CnE G k W0 N (relS scope sc)) tg is h) (hc : JTs G k W0 N (relS scope sc) ifs gc)
    (hi1 : JI G k W0 N (relS scope sc) tg1 iter1 fi1) (ht1 : JG G (CnE G k W0 N (relS scope sc)) tg1 is1 h1) (hc1 : JTs G k W0 N (relS scope sc) ifs1 gc1) (he : JE G k W0 N (relS scope sc) .shared elt fe) (hs : ∀ (env : Env) x, foldedSetIterable iter env x = pure x) (hs1 : ∀ (env : Env) x, foldedSetIterable iter1 env x = pure x) :
    JS G k W N sc (.Assign [.Name y py] (.ListComp elt [⟨tg, iter, ifs, 0⟩, ⟨tg1, iter1, ifs1, 0⟩] scope pos) spos) (gSetF i (fLc2 fi h gc fi1 h1 gc1 fe (own.map (·.2)) vs1)) := by
  obtain ⟨wi, a1, a2⟩ := hi
  obtain ⟨t, b1, b2⟩ := ht
  obtain ⟨tt, c1, c2⟩ := hc
  obtain ⟨wi1, a3, a4⟩ := hi1
  obtain ⟨t1, b3, b4⟩ := ht1
  obtain ⟨tt1, c3, c4⟩ := hc1
  obtain ⟨te, e1, e2⟩ := he
  refine ⟨_, fun X c => ps_setLc2 (own := own) (vs1 := vs1) c.ce.calm (by rw [c.ce.hN]; exact c.ce.nd) (by rw [c.ce.hN]; exact hy) (by rw [c.ce.hsc]; exact hyl) (sw_true (by rw [c.ce.hsc]; exact hkind) (by rw [c.ce.hsc]; exact hyl) hsw hsy) (a1 X c.ce) (by rw [c.ce.hN, c.ce.hsc]; exact blkOk_by hb) hv (fun _ _ _ _ _ => b1 _ c.ce.blk) (fun _ _ _ _ _ => c1 _ c.ce.blk) (fun _ _ _ _ _ => a3 _ c.ce.blk) (fun _ _ _ _ _ => b3 _ c.ce.blk) (fun _ _ _ _ _ => c3 _ c.ce.blk) (fun _ _ _ _ _ => e1 _ c.ce.blk) (hs _) hs1, fun Z F B H σ ρ s o ho E q => ?_⟩
  rcases gBnd_some ho with ⟨d, ed, ho⟩ | ⟨x, ex, rfl⟩
  · refine spec_lc2 (W := W) a2 b2 c2 a4 b4 c4 e2 his his1 Z F B H σ ρ s _ ed _ fun F1 B1 H1 v1 u1 k1 => ?_
    obtain ⟨hl, rfl⟩ := gPut_some ho
    exact q F1 B1 H1 _ (s.putF u1 k1 hl) u1.gro
  · exact spec_lc2 (W := W) a2 b2 c2 a4 b4 c4 e2 his his1 Z F B H σ ρ s _ ex _ (PostS.er s q)
end
end DL

namespace DL
open PySem PySem.Spec L2

/-! ### C.m(a, ..), m a staticmethod -/
/-- m is a staticmethod of the class at C: its record at p, its def at g -/
structure SMet (K : PySem.W.Frag) (C : Addr) (m : Str) (p g : Addr) : Prop where
  rd : ClX.CRead K C (.type "type")
  at_ : PySem.W.findCls K (.ref C) (.type "type") m = some (.get (.builtin "staticmethod.__get__") (.ref p) .none (.ref C))
  rc : ∃ rest, PySem.W.recIn K p "staticmethod" = some (.ref g :: rest)
  kp : PySem.W.keepIn K (.ref g) = true
/-- .. through an instance -/
structure SIns (K : PySem.W.Frag) (C : Addr) (m : Str) (p g : Addr) : Prop where
  pg : PySem.W.plainGet K C Str.empty = true
  ic : PySem.W.isClsIn K C = true
  at_ : PySem.W.findIn K (.ref C) m = some (some (.ref p))
  ty : PySem.W.typeIn K (.ref p) = some (.type "staticmethod")
  get : PySem.W.specialIn K (.ref p) "__get__" = some (some (.builtin "staticmethod.__get__"))
  tk : PySem.W.takesIn K (.ref p) = some false
  cp : PySem.W.copiedNames.contains m = false
  rc : ∃ rest, PySem.W.recIn K p "staticmethod" = some (.ref g :: rest)
  kp : PySem.W.keepIn K (.ref g) = true
section
variable {X : Cx} {pp : List (Addr × Obj)} {σ : L2.St} {H : Hp} {s : Shared} {A : Around} {E : Value → Shared → Prop} {C p g a : Addr} {m : Str} {pl : Sem Bool}
theorem getsm_ok {Q : Value × List Value → Shared → Prop} (J : Inv X pp σ H s) (c : SMet X.K C m p g) (h : ∀ s', Inv X pp σ H s' → Q (.ref g, []) s') : wpAny (model X.prog X.w) A (getMethod (.ref C) m pl) Q E s := by
  obtain ⟨rest, hp⟩ := c.rc
  refine PySem.W.method_cls J.kIn c.rd.ga (PySem.W.cls_bind J.kIn c.rd.rd c.at_ (wpAny_call (PySem.W.sm_get (s := { s with toks := s.toks + 1 }) J.kIn hp (PySem.W.handed_on rfl ?_))))
  exact h _ (J.tok _)
theorem getsmI_ok {ox od : Obj} {Q : Value × List Value → Shared → Prop} (J : Inv X pp σ H s) (I : PySem.W.InstAt s.heap a ox C (some od)) (hl : PySem.W.lookIn m od = some none) (c : SIns X.K C m p g) (h : ∀ s', Inv X pp σ H s' → Q (.ref g, []) s') :
    wpAny (model X.prog X.w) A (getMethod (.ref a) m pl) Q E s := by
  obtain ⟨rest, hp⟩ := c.rc
  have pg : PySem.W.plainGet X.K C m = true := c.pg
  refine PySem.W.method_usual (r := some (.ref p)) J.kIn I (PySem.W.plainGet_of pg).1 (PySem.W.plainGet_of pg).2 c.at_ ?_ ?_
  · show ((PySem.W.typeIn X.K (.ref p)).any fun t => t != .type "function" && t != .type "method_descriptor" && t != .type "wrapper_descriptor") = true
    rw [c.ty]
    decide +kernel
  · refine PySem.W.get_bind J.kIn I (PySem.W.plainGet_of pg).1 (ClX.find_cm c.ic c.at_ c.get c.tk c.cp hl) (PySem.W.plainGet_of pg).2 ?_
    refine wpAny_call (PySem.W.sm_get (s := { s with toks := s.toks + 1 }) J.kIn hp (PySem.W.handed_on rfl ?_))
    exact h _ (J.tok _)
end
def tSm (C : Addr) (sp : Sp) (E : L2.St → XK) (ta : TE) (t : TA) : TE := fun σ H Q => ta σ H fun x H1 => x = .ref C ∧ t σ H1 fun vs H2 => sp vs H2 Q (E σ)
def tSmI (C : Addr) (m : Str) (sp : Sp) (E : L2.St → XK) (ta : TE) (t : TA) : TE := fun σ H Q => ta σ H fun x H1 => ∃ a dx fs, x = .ref a ∧ H1 a = some (.ins C dx fs) ∧ fs.lookup m = none ∧ t σ H1 fun vs H2 => sp vs H2 Q (E σ)
section
variable {X : Cx} {Ct : CXT} {k : Nat} {f C p : Addr} {fd : FuncData} {ps : List Str} {sp : Sp} {E : L2.St → XK} {m : Str} {pos apos : Pos} {e o : Expr} {es : List Expr} {ta : TE} {t : TA}
theorem pe_sm {pl : Sem Bool} (he : PE X o ta) (c : SMet X.K C m p f) (ok : FnOk X.prog X.w X.K X.mg X.base Ct k f fd ps sp) (rm : Room k X.A) (bi : Binds X.K fd ps []) (pa : ∀ σ, PassesAt Ct X σ (E σ)) (ha : PA X (e :: es) t)
    (hst : starEach (e :: es) X.env = (false, eval e X.env) :: starEach es X.env) (hpl : (backTo pos (starEach es X.env)).any (·.1) = false)
    (ht : eval (.Call (.Attribute o m apos) (e :: es) [] pos) X.env = (do
      let z ← eval o X.env
      standAt apos.atName
      let (g, fst) ← holding [z] (getMethod z m pl)
      callWith pos g fst (backTo pos (starEach (e :: es) X.env)) (backToKw pos (keywordEach [] X.env)))) :
    PE X (.Call (.Attribute o m apos) (e :: es) [] pos) (tSm C sp E ta t) := by
  refine ⟨fun pp s σ H Q J h => PySem.W.methodCall_KW (pl := pl) (thn (he.run pp s σ H _ J h) fun u s1 ⟨x, H1, J1, rx, ex, q⟩ => ?_) ht⟩
  subst ex
  obtain rfl : u = Value.ref C := rx
  refine getsm_ok J1 c fun s2 J2 => PySem.W.callWith_K (first := []) (h₀ := X.base) J2.ok.mod.kin c.kp (thn (ha.run pos pp s2 σ H1 _ J2 q) fun us s3 ⟨vs, H2, J3, r, q2⟩ => ⟨J3.kIn, ?_⟩) hst hpl
  have z := run_fnSD (us := us) (vs := vs) ok rm bi (.nil) (pa σ) J3 r (by rw [List.append_nil]; exact q2)
  exact z
theorem pe_smI {pl : Sem Bool} (he : PE X o ta) (c : SIns X.K C m p f) (ok : FnOk X.prog X.w X.K X.mg X.base Ct k f fd ps sp) (rm : Room k X.A) (bi : Binds X.K fd ps []) (pa : ∀ σ, PassesAt Ct X σ (E σ)) (ha : PA X (e :: es) t)
    (hst : starEach (e :: es) X.env = (false, eval e X.env) :: starEach es X.env) (hpl : (backTo pos (starEach es X.env)).any (·.1) = false)
    (ht : eval (.Call (.Attribute o m apos) (e :: es) [] pos) X.env = (do
      let z ← eval o X.env
      standAt apos.atName
      let (g, fst) ← holding [z] (getMethod z m pl)
      callWith pos g fst (backTo pos (starEach (e :: es) X.env)) (backToKw pos (keywordEach [] X.env)))) :
    PE X (.Call (.Attribute o m apos) (e :: es) [] pos) (tSmI C m sp E ta t) := by
  refine ⟨fun pp s σ H Q J h => PySem.W.methodCall_KW (pl := pl) (thn (he.run pp s σ H _ J h) fun u s1 ⟨x, H1, J1, rx, a, dx, fs, ex, ea, l, q⟩ => ?_) ht⟩
  subst ex
  obtain rfl : u = Value.ref a := rx
  obtain ⟨mA, O, rr, _, _, _⟩ := ins_get J1.hok ea
  have hn : mA m = none := RelO.none_of (by rw [← l]; exact rr m)
  obtain ⟨od, I, hl⟩ := O.look
  refine getsmI_ok J1 I (by rw [hl m, hn]) c fun s2 J2 => PySem.W.callWith_K (first := []) (h₀ := X.base) J2.ok.mod.kin c.kp (thn (ha.run pos pp s2 σ H1 _ J2 q) fun us s3 ⟨vs, H2, J3, r, q2⟩ => ⟨J3.kIn, ?_⟩) hst hpl
  exact run_fnSD (us := us) (vs := vs) ok rm bi (.nil) (pa σ) J3 r (by rw [List.append_nil]; exact q2)
end
section
variable {G : Gm} {k j : Nat} {W : WX} {N : List Str} {sc : Scope} {e o : Expr} {es : List Expr} {fa : En → M D} {fs : En → M (List D)} {pos apos : Pos} {ad p : Addr} {fd : FuncData} {ps : List Str} {ks : List PK} {Fn : List D → Option FOut} {m : Str}
/-- o is a class -/
def isCls (c : Nat) : D → Bool
  | .cls c' => c' == c
  | _ => false
def fSm (ok : D → Bool) (Fn : List D → Option FOut) (fa : En → M D) (fs : En → M (List D)) : En → M D := fun ρ => (fa ρ).bnd fun x => if ok x = true then (fs ρ).bnd fun xs => outF (Fn xs) else none
theorem je_smF {c : Nat} {C : Addr} {ns : List Str} {pl : Env → Sem Bool} (hct : G.ct c = some (C, ns)) (sm : SMet G.K C m p ad) (ok : FnG G j ad fd ps ks Fn) (hj : j ≤ k) (hks : ks.all PK.still = true) (hb : Binds G.K fd ps [])
    (hp : PlainArg e) (hpl : NoStar pos es) (ht : MethEval o m apos (e :: es) pos pl) (ho : JE G k W N sc .peek o fa) (ha : JA G k W N sc (ks.map argK) (e :: es) fs) : JE G k W N sc .fresh (.Call (.Attribute o m apos) (e :: es) [] pos) (fSm (isCls c) Fn fa fs) := by
  obtain ⟨ta, a1, a2⟩ := ho
  obtain ⟨tr, r1, r2⟩ := ha
  refine ⟨_, fun X c => pe_sm (pl := pl X.env) (a1 X c) (by rw [c.hK]; exact sm) (c.fn ok) (c.room.mono hj) (by rw [c.hK]; exact hb) c.pass (r1 X c) (hp _ _) (hpl _) (ht _), ?_⟩
  intro Z F B H σ ρ s r hr0 Q q
  rcases bnd_some hr0 with ⟨d, ed, hr⟩ | ⟨x, ex, rfl⟩
  · split at hr
    · rename_i hob
      refine a2 Z F B H σ ρ s _ ed _ fun F1 B1 H1 v1 u1 k1 => ?_
      cases d <;> first | cases hob | skip
      rename_i c'
      obtain rfl : c' = c := by simpa [isCls] using hob
      obtain ⟨C', ns', h1, rfl⟩ := k1
      rw [hct] at h1
      cases h1
      refine ⟨rfl, ?_⟩
      rcases bnd_some hr with ⟨ds, eds, hr⟩ | ⟨x, ex, rfl⟩
      · exact r2 Z F1 B1 H1 σ ρ (s.up u1) _ eds _ fun F2 B2 H2 ws u2 k2 => sp_callF hks u2.fb u2.bh (par_of hks k2) hr (q.weak (u1.trans u2))
      · exact r2 Z F1 B1 H1 σ ρ (s.up u1) _ ex _ (fun F' B' H' cls dx u hx => q F' B' H' cls dx (u1.trans u) hx)
    · cases hr
  · exact a2 Z F B H σ ρ s _ ex _ q
theorem je_smIF {c : Nat} {C : Addr} {ns : List Str} {pl : Env → Sem Bool} (hct : G.ct c = some (C, ns)) (sm : SIns G.K C m p ad) (ok : FnG G j ad fd ps ks Fn) (hj : j ≤ k) (hks : ks.all PK.still = true) (hmn : m ∉ ns) (hb : Binds G.K fd ps [])
    (hp : PlainArg e) (hpl : NoStar pos es) (ht : MethEval o m apos (e :: es) pos pl) (ho : JE G k W N sc .peek o fa) (ha : JA G k W N sc (ks.map argK) (e :: es) fs) : JE G k W N sc .fresh (.Call (.Attribute o m apos) (e :: es) [] pos) (fSm (isObj c) Fn fa fs) := by
  obtain ⟨ta, a1, a2⟩ := ho
  obtain ⟨tr, r1, r2⟩ := ha
  refine ⟨_, fun X c => pe_smI (pl := pl X.env) (a1 X c) (by rw [c.hK]; exact sm) (c.fn ok) (c.room.mono hj) (by rw [c.hK]; exact hb) c.pass (r1 X c) (hp _ _) (hpl _) (ht _), ?_⟩
  intro Z F B H σ ρ s r hr Q q
  rcases bnd_some hr with ⟨d, ed, hr⟩ | ⟨x, ex, rfl⟩
  · split at hr
    · rename_i hob
      obtain ⟨gs, rfl⟩ := isObj_eq hob
      refine a2 Z F B H σ ρ s _ ed _ fun F1 B1 H1 v1 u1 k1 => ?_
      obtain ⟨pa, rfl, C', ns', dx, vs, h1, h2, h3⟩ := k1
      rw [hct] at h1
      cases h1
      refine ⟨pa, dx, _, rfl, h2, zipF_lookup hmn, ?_⟩
      rcases bnd_some hr with ⟨ds, eds, hr⟩ | ⟨x, ex, rfl⟩
      · exact r2 Z F1 B1 H1 σ ρ (s.up u1) _ eds _ fun F2 B2 H2 ws u2 k2 => sp_callF hks u2.fb u2.bh (par_of hks k2) hr (q.weak (u1.trans u2))
      · exact r2 Z F1 B1 H1 σ ρ (s.up u1) _ ex _ (fun F' B' H' cls dx u hx => q F' B' H' cls dx (u1.trans u) hx)
    · cases hr
  · exact a2 Z F B H σ ρ s _ ex _ q
end
end DL

namespace DL
open PySem PySem.Spec L2

/-! ### a def of the text -/
theorem fn_okD {G : Gm} {k : Nat} {N : List Str} {g : SO} {x qual : Str} {params : Arguments} {body : List Stmt} {scope : Scope} {dvs : List V} {kws : List (Str × V)} {f : Addr} {fd : FuncData} {ps : List Str} {ks : List PK}
    (Fn : FunD G.K x qual params body scope dvs kws f fd) (S : FnScope N ps scope) (hps : ps.length = ks.length) (hN : ks.length ≤ N.length) (hb : ∀ W, JB G k W N scope body g) :
    FnG G (k + 1) f fd ps ks (runF ks N.length g) := by
  refine Fn.ok S (fun vs H Q E h => ?_) fun cdv A outer s H vs Q E hr hsp => ?_
  · obtain ⟨F, ds, _, _, pr, _⟩ := h
    rw [pr.length, hps]
  · obtain ⟨ts, t1, t2⟩ := hb (fun cls d _ H => E cls d H)
    refine ⟨ts, t1 _ ⟨⟨rfl, rfl, rfl, rfl, rfl, rfl, rfl, rfl, S.nd, hr, ?_⟩, fun _ => rfl, PassesOwn.leaving⟩, body_ok t2 hN hsp⟩
    exact L2N.takes_of rfl rfl rfl rfl

/-! ### the classes -/
abbrev CL : Type := List (Nat × Addr × List Str)
def ctOf (l : CL) : CT := fun n => l.lookup n
def tyNs : List String := ["NoneType", "bool", "int", "str", "list", "tuple", "dict"]
def clNs : List String := ["bool", "int", "str", "list", "tuple", "dict"]
def tys (l : CL) : List (Ty × Value) := tyNs.map (fun n => (Ty.b n, Value.type n)) ++ l.map fun q => (Ty.o q.1, Value.ref q.2.1)
def clB (K : PySem.W.Frag) (C : Addr) (ns : List Str) : Bool :=
  (PySem.W.plainGet K C Str.empty && (PySem.W.hasDictIn K C && (PySem.W.plainOver K C && He.eqO (PySem.W.findIn K (.ref C) "__setattr__") (some (some (.builtin "object.__setattr__")))))) &&
    ((ns.all fun f => He.eqO (PySem.W.findIn K (.ref C) f) (some none)) && (decide ns.Nodup && decide (ns.length < 1000)) &&
      (He.eqO (PySem.W.findIn K (.ref C) "__class__") (some (some (.builtin "object.__class__"))) && decide (PySem.W.mroIn K C (.type "object") = some true)))
def gB (K : PySem.W.Frag) (l : CL) : Bool :=
  (l.all fun q => if q.1 < 100 then clB K q.2.1 q.2.2 else true) && (He.eqO (PySem.W.specialIn K (.builtin "object.__class__") "__get__") (some (some (.builtin "getset_descriptor.__get__"))) &&
    decide (PySem.W.takesIn K (.builtin "object.__class__") = some true) &&
    (tys l).all fun t => (tys l).all fun c => match isiT t.1 c.1 with
      | some b => decide (PySem.W.kitOne K t.2 c.2 = some b)
      | none => true)
theorem look_mem {c : Nat} {q : Addr × List Str} : ∀ {l : CL}, l.lookup c = some q → (c, q) ∈ l
  | [], h => nomatch h
  | (d, r) :: l, h => by
    rw [List.lookup_cons] at h
    cases e : (c == d) with
    | true =>
      rw [e] at h
      have e2 : c = d := eq_of_beq e
      have e3 : r = q := Option.some.inj h
      subst e2 e3
      exact List.mem_cons_self
    | false =>
      rw [e] at h
      exact List.mem_cons_of_mem _ (look_mem h)
theorem tys_mem {G : Gm} {l : CL} (hl : G.ct = ctOf l) : ∀ {t : Ty} {v : Value}, (∀ n, t = .b n → n ∈ tyNs) → t.val G v → (t, v) ∈ tys l
  | .b n, v, hn, h => by
    rw [show v = .type n from h]
    exact List.mem_append_left _ (List.mem_map.mpr ⟨n, hn n rfl, rfl⟩)
  | .o c, v, _, h => by
    obtain ⟨C, ns, e, rfl⟩ := h
    rw [hl] at e
    exact List.mem_append_right _ (List.mem_map.mpr ⟨(c, C, ns), look_mem e, rfl⟩)
theorem cont_ty {n : String} (h : clNs.contains n = true) : n ∈ tyNs := by
  have h3 := List.contains_iff_mem.mp h
  exact List.mem_cons_of_mem _ h3
theorem isiT_l {t c : Ty} {b : Bool} (h : isiT t c = some b) : (∀ n, t = .b n → n ∈ tyNs) ∧ ∀ n, c = .b n → n ∈ tyNs := by
  cases t with
  | b a =>
    cases c with
    | b d =>
      have h : (if (tyNs.contains a && clNs.contains d) = true then some (a == d || (a == "bool" && d == "int")) else none) = some b := h
      by_cases hc : (tyNs.contains a && clNs.contains d) = true
      · obtain ⟨h1, h2⟩ := Bool.and_eq_true_iff.mp hc
        exact ⟨fun n e => by cases e; exact List.contains_iff_mem.mp h1, fun n e => by cases e; exact cont_ty h2⟩
      · rw [if_neg hc] at h
        cases h
    | o d =>
      have h : (if tyNs.contains a = true then some false else none) = some b := h
      by_cases hc : tyNs.contains a = true
      · exact ⟨fun n e => by cases e; exact List.contains_iff_mem.mp hc, fun n e => by cases e⟩
      · rw [if_neg hc] at h
        cases h
  | o a =>
    cases c with
    | b d =>
      have h : (if clNs.contains d = true then some false else none) = some b := h
      by_cases hc : clNs.contains d = true
      · exact ⟨fun n e => (by cases e), fun n e => by cases e; exact cont_ty hc⟩
      · rw [if_neg hc] at h
        cases h
    | o d => exact ⟨fun n e => (by cases e), fun n e => (by cases e)⟩
theorem gok_of {G : Gm} {l : CL} (hl : G.ct = ctOf l) (h : gB G.K l = true) : GOk G := by
  obtain ⟨h1, h2⟩ := Bool.and_eq_true_iff.mp h
  obtain ⟨h2, h4⟩ := Bool.and_eq_true_iff.mp h2
  obtain ⟨h2, h3⟩ := Bool.and_eq_true_iff.mp h2
  have key : ∀ c C ns, G.ct c = some (C, ns) → c < 100 → clB G.K C ns = true := fun c C ns e hc => by
    rw [hl] at e
    have z := List.all_eq_true.mp h1 _ (look_mem e)
    rw [if_pos hc] at z
    exact z
  refine ⟨fun c C ns e hc => ?_, fun c C ns e hc => ?_, He.eqO_ok h2, of_decide_eq_true h3, fun t c b tv cv e ht hc => ?_⟩
  · obtain ⟨a, b⟩ := Bool.and_eq_true_iff.mp (key c C ns e hc)
    obtain ⟨b, _⟩ := Bool.and_eq_true_iff.mp b
    obtain ⟨b1, b2⟩ := Bool.and_eq_true_iff.mp b
    obtain ⟨b2, b3⟩ := Bool.and_eq_true_iff.mp b2
    obtain ⟨a1, a2⟩ := Bool.and_eq_true_iff.mp a
    obtain ⟨a2, a3⟩ := Bool.and_eq_true_iff.mp a2
    obtain ⟨a3, a4⟩ := Bool.and_eq_true_iff.mp a3
    exact ⟨⟨a1, a2, a3, He.eqO_ok a4⟩, fun f hf => He.eqO_ok (List.all_eq_true.mp b1 f hf), of_decide_eq_true b2, of_decide_eq_true b3⟩
  · obtain ⟨a, b⟩ := Bool.and_eq_true_iff.mp (key c C ns e hc)
    obtain ⟨_, b⟩ := Bool.and_eq_true_iff.mp b
    obtain ⟨b1, b2⟩ := Bool.and_eq_true_iff.mp b
    exact ⟨He.eqO_ok b1, of_decide_eq_true b2⟩
  · obtain ⟨n1, n2⟩ := isiT_l e
    have z := List.all_eq_true.mp (List.all_eq_true.mp h4 _ (tys_mem hl n1 ht)) _ (tys_mem hl n2 hc)
    rw [show isiT (t, tv).1 (c, cv).1 = some b from e] at z
    exact of_decide_eq_true z

/-! ### staticmethods -/
def smAt (K : PySem.W.Frag) (C : Str) (m : Str) : Addr := He5.wf K (He.ga K C) "staticmethod" m
def smB (K : PySem.W.Frag) (C m : Str) : Bool := (PySem.W.readsIn K (He.ga K C) (.type "type") && He.eqO (PySem.W.specialIn K (.ref (He.ga K C)) "__getattribute__") (some (some (.builtin "type.__getattribute__")))) &&
  (He5.wrapB K (He.ga K C) "staticmethod" "staticmethod.__get__" m && PySem.W.keepIn K (.ref (smAt K C m)))
theorem smB_ok {K : PySem.W.Frag} {C m : Str} (h : smB K C m = true) : SMet K (He.ga K C) m (He.ma K (He.ga K C) m) (smAt K C m) := by
  obtain ⟨h1, h2⟩ := Bool.and_eq_true_iff.mp h
  obtain ⟨h1, h3⟩ := Bool.and_eq_true_iff.mp h1
  obtain ⟨h2, h4⟩ := Bool.and_eq_true_iff.mp h2
  obtain ⟨w1, w2⟩ := He5.wrapB_ok h2
  exact ⟨⟨h1, He.eqO_ok h3⟩, w1, w2, h4⟩
def siB (K : PySem.W.Frag) (C m : Str) : Bool := (PySem.W.plainGet K (He.ga K C) Str.empty && PySem.W.isClsIn K (He.ga K C)) && ((He.eqO (PySem.W.findIn K (.ref (He.ga K C)) m) (some (some (.ref (He.ma K (He.ga K C) m)))) &&
  (decide (PySem.W.typeIn K (.ref (He.ma K (He.ga K C) m)) = some (.type "staticmethod")) && He.eqO (PySem.W.specialIn K (.ref (He.ma K (He.ga K C) m)) "__get__") (some (some (.builtin "staticmethod.__get__"))))) &&
  (decide (PySem.W.takesIn K (.ref (He.ma K (He.ga K C) m)) = some false) && !PySem.W.copiedNames.contains m))
theorem siB_ok {K : PySem.W.Frag} {C m : Str} (h : siB K C m = true) (h' : smB K C m = true) : SIns K (He.ga K C) m (He.ma K (He.ga K C) m) (smAt K C m) := by
  have s := smB_ok h'
  obtain ⟨h1, h2⟩ := Bool.and_eq_true_iff.mp h
  obtain ⟨a1, a2⟩ := Bool.and_eq_true_iff.mp h1
  obtain ⟨h2, h3⟩ := Bool.and_eq_true_iff.mp h2
  obtain ⟨b1, b2⟩ := Bool.and_eq_true_iff.mp h2
  obtain ⟨b2, b3⟩ := Bool.and_eq_true_iff.mp b2
  obtain ⟨c1, c2⟩ := Bool.and_eq_true_iff.mp h3
  exact ⟨a1, a2, He.eqO_ok b1, of_decide_eq_true b2, He.eqO_ok b3, of_decide_eq_true c1, by simpa using c2, s.rc, s.kp⟩

/-! ### a default that is an empty tuple -/
def et0 (K : PySem.W.Frag) (a : Addr) : Bool := match K.lookup a with
  | some ⟨.type c, none, .seq its _, _⟩ => decide (c = "tuple") && decide (its = #[])
  | _ => false
theorem et0_ok {K : PySem.W.Frag} {a : Addr} (h : et0 K a = true) : ∃ (o0 : Obj) (its : Array Value) (n0 : Nat), K.lookup a = some o0 ∧ o0.cls = .type "tuple" ∧ o0.dict = none ∧ o0.data = .seq its n0 ∧ its = #[] := by
  unfold et0 at h
  split at h
  · rename_i c its n sl e
    obtain ⟨h1, h2⟩ := Bool.and_eq_true_iff.mp h
    exact ⟨_, its, n, e, congrArg Value.type (of_decide_eq_true h1), rfl, rfl, of_decide_eq_true h2⟩
  · cases h

/-! ### the Hook: facts, tests, defs -/
def obsH (fa : List He.Fa) (ex : List (PySem.W.Frag → Bool)) (fn : List He5.DefA) (K : PySem.W.Frag) : He.AlD :=
  (((fa.all fun q => q.ok K) && ex.all fun t => t K) && fn.all fun q => q.ok K, fn.map fun q => He5.fnA K (q.at_ K))
def valH (fn : List He5.DefA) : He.AlD := (true, fn.map He5.DefA.val)
def SaysH (fa : List He.Fa) (ex : List (PySem.W.Frag → Bool)) (fn : List He5.DefA) (K : PySem.W.Frag) : Prop := obsH fa ex fn K = valH fn
def obsHG (n : Nat) (fa : List He.Fa) (ex : List (PySem.W.Frag → Bool)) (fn : List He5.DefA) (g : Addr → Option Obj) : He.AlD := obsH fa ex fn (He.frG g (He5.asA g n))
def hookH (n : Nat) (fa : List He.Fa) (ex : List (PySem.W.Frag → Bool)) (fn : List He5.DefA) : PySem.W.Hook where
  α := He.AlD
  obs := fun st => obsHG n fa ex fn st.heap.get?
  val := fun _ => valH fn
  says := fun _ hp => ∃ K : PySem.W.Frag, K.In hp ∧ SaysH fa ex fn K
  of := fun _ _ q => ⟨_, He.frG_in, q⟩
  keeps := fun _ _ _ ⟨K, hK, q⟩ kk => ⟨K, PySem.W.Frag.In.keeps hK kk, q⟩
theorem obsHG_eq {n : Nat} {fa : List He.Fa} {ex : List (PySem.W.Frag → Bool)} {fn : List He5.DefA} {g : Addr → Option Obj} {st : Shared} (h : ∀ a, g a = st.heap.get? a) : obsHG n fa ex fn g = (hookH n fa ex fn).obs st := by
  rw [show g = st.heap.get? from funext h] <;> rfl
section
variable {fa : List He.Fa} {ex : List (PySem.W.Frag → Bool)} {fn : List He5.DefA} {K : PySem.W.Frag}
theorem SaysH.bits (c : SaysH fa ex fn K) : ((fa.all fun q => q.ok K) = true ∧ (ex.all fun t => t K) = true) ∧ (fn.all fun q => q.ok K) = true := by
  have z : (((fa.all fun q => q.ok K) && ex.all fun t => t K) && fn.all fun q => q.ok K) = true := congrArg (fun z : He.AlD => z.1) c
  obtain ⟨z1, z2⟩ := Bool.and_eq_true_iff.mp z
  exact ⟨Bool.and_eq_true_iff.mp z1, z2⟩
theorem SaysH.fact (c : SaysH fa ex fn K) (i : Nat) {q : He.Fa} (h : fa[i]? = some q := by rfl) : q.ok K = true := List.all_eq_true.mp c.bits.1.1 q (List.mem_of_getElem? h)
theorem SaysH.test (c : SaysH fa ex fn K) (i : Nat) {q : PySem.W.Frag → Bool} (h : ex[i]? = some q := by rfl) : q K = true := List.all_eq_true.mp c.bits.1.2 q (List.mem_of_getElem? h)
theorem SaysH.def_ (c : SaysH fa ex fn K) (i : Nat) {q : He5.DefA} (h : fn[i]? = some q := by rfl) : ∃ fd, L2.FunD K q.name q.qual q.params q.body q.scope (q.dvs K) (q.kws K) (q.at_ K) fd := by
  have e : fn.map (fun q => He5.fnA K (q.at_ K)) = fn.map He5.DefA.val := congrArg (fun z : He.AlD => z.2) c
  have e2 : (fn.map fun q => He5.fnA K (q.at_ K))[i]? = (fn.map He5.DefA.val)[i]? := by rw [e]
  rw [List.getElem?_map, List.getElem?_map, h] at e2
  exact He5.DefA.funD (Option.some.inj e2) (List.all_eq_true.mp c.bits.2 q (List.mem_of_getElem? h))
end

/-! ### the end -/
theorem cx_end {P : Program} {w : World} {H : Hp} {st : Shared} {e : Value} {st' : Shared} (h : L2N.CX P w [] H st (fun _ _ _ => False) e st') : False := by
  obtain ⟨_, _, _, _, _, _, _, _, _, _, _, _, z⟩ := h
  exact z
theorem walkD {l : PySem.W.OpenLaw} {n k : Nat} {q : Program} {loose : List Str} {XP : (Str → Option Value) → Heap → Prop} {YP : World → Heap → Prop} {d : DefRec} {x : Str}
    (hn : l.most = some n) (hn2 : n ≤ sizeLine) (hdf : d.params.defaults = []) (hr : Room k callerA)
    (F : ∀ (w : World) (mg : Str → Option Value) (fa : Addr) (h : Heap), YP w h → h.Ns mainGlobals mg → mg d.name = some (.ref fa) →
      ∃ (K : PySem.W.Frag) (fd : FuncData) (sp : Sp), K.In h ∧ (∀ (s : Shared) (u : Value), BindsTo s fd ⟨[u], []⟩ [(x, u)]) ∧
        (∀ (H : Hp) (a : Addr) (ns : List Int), ns.length ≤ n → Only H → SqL K H a (ns.map V.int) → sp [.ref a] H (fun v _ => v = .bl true) fun _ _ _ => False) ∧
        ∀ base : Heap, K.In base → base.Ns mainGlobals mg → FnOk l.prog w K mg base (L2N.CX l.prog w) k fa fd [x] sp) :
    PySem.W.WalkO q loose XP YP l.row.toRowW d [] (fun f vs => PySem.call f vs) := by
  refine Att.attach_call hn hdf fun w s0 s1 mg mb fa o pm cd doc a vs ns GG Y ho hd hcd hmg hobj hints hlen hg => ?_
  obtain ⟨K, fd, sp, KX, hb, hsp, hF⟩ := F w mg fa _ Y GG.T.g hmg
  exact law_call KX GG.T.g GG.T.b GG.T.builtins GG.T.nolimit hg hobj hints (Nat.le_trans hlen hn2) hr hF hb (fun H hO hS => hsp H a ns hlen hO hS) fun H e s' => cx_end
/-- the law's own promise, from its denotation -/
theorem law_sp {G : Gm} {Fn : List D → Option FOut} {H : Hp} {a : Addr} {ns : List Int} {E : XK} (hS : SqL G.K H a (ns.map V.int)) (h : ∃ fr, Fn [.scr ns] = some (.ret fr (.bl true) [])) :
    spD G [.bo] Fn [.ref a] H (fun v _ => v = .bl true) E := by
  obtain ⟨fr, h⟩ := h
  have e : muA [PK.bo] [V.ref a] = [] := rfl
  refine ⟨H, [.scr ns], ?_, ?_, ?_, _, h, ?_⟩
  · rw [e, hid_nil]; exact Same.refl _
  · rw [e]; exact List.nodup_nil
  · rw [e, hid_nil]
    refine ⟨_, _, rfl, ?_, rfl⟩
    show Top G H H (.scr ns) (.ref a)
    unfold Top
    rw [if_neg (by simp [D.isMut])]
    exact ⟨a, rfl, hS⟩
  · intro F' H' v _ hv _
    have hv : (if fr = true ∧ (D.bl true).isMut = true then ∃ p, v = .ref p ∧ H p = none ∧ F' p = none ∧ OwnO G F' H' p (.bl true) else Rep G F' (.bl true) v) := hv
    rw [if_neg (by simp [D.isMut])] at hv
    exact hv
end DL

namespace DL
open PySem PySem.Spec L2

/-! ### an own list is lent while a statement runs -/
def unLn (i : Nat) (c : D → Sl) (ρ : En) : Option En := match ρ[i]? with
  | some (.ln d) => some (ρ.set i (c d))
  | _ => none
def Out.upE (f : En → Option En) : Out → Option Out
  | .nx ρ => (f ρ).map .nx
  | .rt k d ρ => (f ρ).map (.rt k d)
  | .bk ρ => (f ρ).map .bk
  | .ct ρ => (f ρ).map .ct
  | .er x ρ => (f ρ).map (.er x)
def gLend (i : Nat) (g : SO) : SO := fun ρ => match ρ[i]? with
  | some (.ow d) => (g (ρ.set i (.ln d))).bind (Out.upE (unLn i .ow))
  | some (.mu d) => (g (ρ.set i (.ln d))).bind (Out.upE (unLn i .mu))
  | _ => g ρ
section
variable {G : Gm} {k : Nat} {W : WX} {N : List Str} {sc : Scope} {st : Stmt} {g : SO} {F B H : Hp} {Z : Zn} {σ : L2.St} {ρ : En}
def lendZ (Z : Zn) (i : Nat) (p : Addr) : Zn := { Z with L := fun j => if j = i then some p else Z.L j, LA := p :: Z.LA }
def hide (B : Hp) (p : Addr) : Hp := fun a => if a = p then none else B a
theorem hide_self {B : Hp} {p : Addr} : hide B p p = none := if_pos rfl
theorem hide_ne {B : Hp} {p a : Addr} (h : a ≠ p) : hide B p a = B a := if_neg h
/-- the list is lent -/
theorem SR.lend (s : SR G Z F B H σ ρ) {i : Nat} {p : Addr} {d : D} {o : HO} (hi : i < ρ.length) (hv : (σ[i]?).join = some (.ref p)) (hb : B p = none) (ho : H p = some o) (hd : OwnO G F H p d)
    (other : ∀ j d' p', j ≠ i → ρ[j]? = some (.ow d') ∨ ρ[j]? = some (.mu d') → (σ[j]?).join = some (.ref p') → (ρ[j]? = some (.ow d') → OwnAt σ ρ j p') → (ρ[j]? = some (.mu d') → Z.M j = some p') → p' ≠ p) :
    SR G (lendZ Z i p) F (upd B p o) H σ (ρ.set i (.ln d)) where
  fb := fun a u e => by
    have : a ≠ p := by rintro rfl; rw [s.fb a u e] at hb; cases hb
    rw [upd_ne this]; exact s.fb a u e
  bh := fun a u e => by
    by_cases h : a = p
    · subst h; rw [upd_same] at e; cases e; exact ho
    · rw [upd_ne h] at e; exact s.bh a u e
  zf := s.zf
  zb := fun a u e => by
    have z := s.zb a u e
    have : a ≠ p := by rintro rfl; rw [z] at hb; cases hb
    rw [upd_ne this]; exact z
  zo := fun a ha => ⟨(s.zo a ha).1, fun hq => by
    have h1 : a ≠ p := fun z => hq (by rw [z]; exact List.mem_cons_self)
    rw [upd_ne h1]
    exact (s.zo a ha).2 fun z => hq (List.mem_cons_of_mem _ z)⟩
  zh := s.zh
  zk := s.zk
  mm := s.mm
  md := s.md
  len := by rw [List.length_set]; exact s.len
  sl := fun j t ht => by
    by_cases hj : j = i
    · subst hj
      rw [List.getElem?_set_self hi] at ht
      cases ht
      exact ⟨p, hv, if_pos rfl, hd.mono (Same.refl _) fun o' e => by rw [ho] at e; rw [upd_same]; exact e⟩
    · rw [List.getElem?_set_ne (Ne.symm hj)] at ht
      have h := s.sl j t ht
      cases t with
      | un => trivial
      | sh d' => exact h
      | bo d' => exact h
      | ow d' =>
        obtain ⟨p', e1, e2, e3, e4⟩ := h
        have := other j d' p' hj (.inl ht) e1 (fun _ => ⟨⟨d', ht⟩, s.at ht e1⟩) (fun z => by rw [ht] at z; cases z)
        exact ⟨p', e1, e2, by rw [upd_ne this]; exact e3, e4⟩
      | mu d' =>
        obtain ⟨p', e1, e2, e3, e4⟩ := h
        have := other j d' p' hj (.inr ht) e1 (fun z => by rw [ht] at z; cases z) (fun _ => e2)
        exact ⟨p', e1, e2, by rw [upd_ne this]; exact e3, e4⟩
      | ln d' =>
        obtain ⟨p', e1, e2, e4⟩ := h
        refine ⟨p', e1, (if_neg hj).trans e2, e4.mono (Same.refl _) fun o' e => ?_⟩
        have : p' ≠ p := by rintro rfl; rw [e] at hb; cases hb
        rw [upd_ne this]; exact e
  nd := fun j l p' hj hl => by
    have back : ∀ l, OwnAt σ (ρ.set i (.ln d)) l p' → OwnAt σ ρ l p' := fun l hl => by
      obtain ⟨⟨d', h1⟩, h2⟩ := hl
      by_cases hli : l = i
      · subst hli
        rw [List.getElem?_set_self hi] at h1
        cases h1
      · rw [List.getElem?_set_ne (Ne.symm hli)] at h1
        exact ⟨⟨d', h1⟩, h2⟩
    exact s.nd j l p' (back j hj) (back l hl)
  lt := fun q hq => by
    rcases List.mem_cons.mp hq with rfl | hq
    · refine ⟨?_, o, upd_same⟩
      cases z : F q with
      | none => rfl
      | some u => rw [s.fb q u z] at hb; cases hb
    · obtain ⟨h1, o1, h2⟩ := s.lt q hq
      have : q ≠ p := by rintro rfl; rw [h2] at hb; cases hb
      exact ⟨h1, o1, by rw [upd_ne this]; exact h2⟩
  la := fun j q e => by
    by_cases hj : j = i
    · have e : (if j = i then some p else Z.L j) = some q := e
      rw [if_pos hj] at e
      cases e
      exact List.mem_cons_self
    · have e : (if j = i then some p else Z.L j) = some q := e
      rw [if_neg hj] at e
      exact List.mem_cons_of_mem _ (s.la j q e)
theorem hide_none {B : Hp} {p a : Addr} (h : B a = none) : hide B p a = none := by
  by_cases e : a = p
  · exact if_pos e
  · rw [hide_ne e]; exact h
/-- .. and taken back -/
theorem SR.back {i : Nat} {p : Addr} {d : D} {c : Sl} (s : SR G (lendZ Z i p) F B H σ ρ) (hi : ρ[i]? = some (.ln d)) (hzb : Z.B p = none) (hla : ∀ q ∈ Z.LA, q ≠ p) (hL : ∀ j q, Z.L j = some q → q ∈ Z.LA)
    (hc : (c = .ow d ∧ Z.H p = none) ∨ (c = .mu d ∧ Z.M i = some p)) : SR G Z F (hide B p) H σ (ρ.set i c) := by
  have hp : F p = none ∧ ∃ o, B p = some o := s.lt p List.mem_cons_self
  obtain ⟨hf, o, hb⟩ := hp
  have hlt : i < ρ.length := (List.getElem?_eq_some_iff.mp hi).1
  obtain ⟨p1, v1, v2, v3⟩ := s.sl i _ hi
  have v2 : (if i = i then some p else Z.L i) = some p1 := v2
  rw [if_pos rfl] at v2
  cases v2
  refine ⟨fun a u e => ?_, fun a u e => ?_, s.zf, fun a u e => ?_, fun a ha => ⟨(s.zo a ha).1, fun hq => ?_⟩, s.zh, s.zk, s.mm, s.md, by rw [List.length_set]; exact s.len, fun j t ht => ?_, fun j l p' hj hl => ?_, fun q hq => ?_, hL⟩
  · have : a ≠ p := by rintro rfl; rw [e] at hf; cases hf
    rw [hide_ne this]; exact s.fb a u e
  · by_cases h : a = p
    · subst h; rw [hide_self] at e; cases e
    · rw [hide_ne h] at e; exact s.bh a u e
  · have : a ≠ p := by rintro rfl; rw [e] at hzb; cases hzb
    rw [hide_ne this]; exact s.zb a u e
  · by_cases h : a = p
    · rw [h, hide_self, hzb]
    · rw [hide_ne h]
      refine (s.zo a ha).2 fun z => ?_
      rcases List.mem_cons.mp z with z | z
      · exact h z
      · exact hq z
  · by_cases hj : j = i
    · subst hj
      rw [List.getElem?_set_self hlt] at ht
      cases ht
      rcases hc with ⟨rfl, hz⟩ | ⟨rfl, hz⟩
      · exact ⟨p, v1, hz, hide_self, v3.mono (Same.refl _) (s.bh p)⟩
      · exact ⟨p, v1, hz, hide_self, v3.mono (Same.refl _) (s.bh p)⟩
    · rw [List.getElem?_set_ne (Ne.symm hj)] at ht
      have h := s.sl j t ht
      cases t with
      | un => trivial
      | sh d' => exact h
      | bo d' => exact h
      | ow d' =>
        obtain ⟨p', e1, e2, e3, e4⟩ := h
        exact ⟨p', e1, e2, hide_none e3, e4⟩
      | mu d' =>
        obtain ⟨p', e1, e2, e3, e4⟩ := h
        exact ⟨p', e1, e2, hide_none e3, e4⟩
      | ln d' =>
        obtain ⟨p', e1, e2, e4⟩ := h
        have e2 : (if j = i then some p else Z.L j) = some p' := e2
        rw [if_neg hj] at e2
        refine ⟨p', e1, e2, e4.mono (Same.refl _) fun o' e => ?_⟩
        rw [hide_ne (hla p' (hL j p' e2))]; exact e
  · have key : ∀ l, OwnAt σ (ρ.set i c) l p' → (l = i ∧ p' = p) ∨ (l ≠ i ∧ OwnAt σ ρ l p') := fun l hl => by
      obtain ⟨⟨d', h1⟩, h2⟩ := hl
      by_cases hli : l = i
      · refine .inl ⟨hli, ?_⟩
        subst hli
        rw [h2] at v1
        injection v1 with v1
        injection v1
      · rw [List.getElem?_set_ne (Ne.symm hli)] at h1
        exact .inr ⟨hli, ⟨d', h1⟩, h2⟩
    have no : ∀ l, OwnAt σ ρ l p' → p' ≠ p := fun l hl z => by
      have := (s.own_there hl).2
      rw [z, hb] at this
      cases this
    rcases key j hj with ⟨a1, a2⟩ | ⟨a1, a2⟩
    · rcases key l hl with ⟨b1, b2⟩ | ⟨b1, b2⟩
      · rw [a1, b1]
      · exact absurd a2 (no l b2)
    · rcases key l hl with ⟨b1, b2⟩ | ⟨b1, b2⟩
      · exact absurd b2 (no j a2)
      · exact s.nd j l p' a2 b2
  · obtain ⟨h1, o1, h2⟩ := s.lt q (List.mem_cons_of_mem _ hq)
    exact ⟨h1, o1, by rw [hide_ne (hla q hq)]; exact h2⟩
theorem unLn_some {i : Nat} {c : D → Sl} {ρ ρ' : En} (h : unLn i c ρ = some ρ') : ∃ d, ρ[i]? = some (.ln d) ∧ ρ' = ρ.set i (c d) := by
  unfold unLn at h
  split at h
  · rename_i d e
    exact ⟨d, e, (Option.some.inj h).symm⟩
  · cases h
theorem lend_post {i : Nat} {p : Addr} {o : HO} {E : Ends} {c : D → Sl} (hb : B p = none) (hzb : Z.B p = none) (hla : ∀ q ∈ Z.LA, q ≠ p) (hL : ∀ j q, Z.L j = some q → q ∈ Z.LA)
    (hc : ∀ d, (c d = .ow d ∧ Z.H p = none) ∨ (c d = .mu d ∧ Z.M i = some p)) : ∀ {r r' : Out}, Out.upE (unLn i c) r = some r' → PostS G W Z F B E r' → PostS G W (lendZ Z i p) F (upd B p o) E r := by
  have gr : ∀ {F1 B1 : Hp}, Gro F (upd B p o) F1 B1 → Gro F B F1 (hide B1 p) := fun {F1 B1} y => ⟨y.f, fun a u e => by
    have h : a ≠ p := by rintro rfl; rw [e] at hb; cases hb
    rw [hide_ne h]
    exact y.b a u (by rw [upd_ne h]; exact e)⟩
  intro r r' hr q
  cases r with
  | nx ρ1 =>
    obtain ⟨ρ2, e1, rfl⟩ := Option.map_eq_some_iff.mp hr
    obtain ⟨d, e2, rfl⟩ := unLn_some e1
    exact fun F1 B1 H1 σ1 s1 y => q F1 _ H1 σ1 (s1.back e2 hzb hla hL (hc d)) (gr y)
  | bk ρ1 =>
    obtain ⟨ρ2, e1, rfl⟩ := Option.map_eq_some_iff.mp hr
    obtain ⟨d, e2, rfl⟩ := unLn_some e1
    exact fun F1 B1 H1 σ1 s1 y => q F1 _ H1 σ1 (s1.back e2 hzb hla hL (hc d)) (gr y)
  | ct ρ1 =>
    obtain ⟨ρ2, e1, rfl⟩ := Option.map_eq_some_iff.mp hr
    obtain ⟨d, e2, rfl⟩ := unLn_some e1
    exact fun F1 B1 H1 σ1 s1 y => q F1 _ H1 σ1 (s1.back e2 hzb hla hL (hc d)) (gr y)
  | er x ρ1 =>
    obtain ⟨ρ2, e1, rfl⟩ := Option.map_eq_some_iff.mp hr
    obtain ⟨d, e2, rfl⟩ := unLn_some e1
    exact fun F1 B1 H1 σ1 cls dx s1 y xr => q F1 _ H1 σ1 cls dx (s1.back e2 hzb hla hL (hc d)) (gr y) xr
  | rt kd dd ρ1 =>
    obtain ⟨ρ2, e1, rfl⟩ := Option.map_eq_some_iff.mp hr
    obtain ⟨d, e2, rfl⟩ := unLn_some e1
    refine fun F1 B1 H1 σ1 v s1 y rv => q F1 _ H1 σ1 v (s1.back e2 hzb hla hL (hc d)) (gr y) ?_
    cases kd with
    | fresh =>
      have rv : (if dd.isMut = true then ∃ p', v = .ref p' ∧ Z.H p' = none ∧ B1 p' = none ∧ OwnO G F1 H1 p' dd else Rep G F1 dd v) := rv
      show (if dd.isMut = true then ∃ p', v = .ref p' ∧ Z.H p' = none ∧ hide B1 p p' = none ∧ OwnO G F1 H1 p' dd else Rep G F1 dd v)
      by_cases hm : dd.isMut = true
      · rw [if_pos hm] at rv ⊢
        obtain ⟨p', e1, e2, e3, e4⟩ := rv
        exact ⟨p', e1, e2, hide_none e3, e4⟩
      · rw [if_neg hm] at rv ⊢
        exact rv
    | shared => exact rv
    | peek => exact rv
    | borrow => exact rv
theorem js_lend (i : Nat) (h : JS G k W N sc st g) : JS G k W N sc st (gLend i g) := by
  obtain ⟨t, a1, a2⟩ := h
  refine ⟨t, a1, fun Z F B H σ ρ s o ho E q => ?_⟩
  unfold gLend at ho
  split at ho
  · rename_i d e
    obtain ⟨r, er, eo⟩ := Option.bind_eq_some_iff.mp ho
    obtain ⟨p, e1, e2, e3, e4⟩ := s.sl i _ e
    obtain ⟨ob, hob⟩ := e4.there
    have hat : OwnAt σ ρ i p := ⟨⟨d, e⟩, s.at e e1⟩
    have hzb : Z.B p = none := by
      cases z : Z.B p with
      | none => rfl
      | some u => rw [s.zb p u z] at e3; cases e3
    have hla : ∀ q ∈ Z.LA, q ≠ p := fun q hq z => by
      obtain ⟨_, o1, h2⟩ := s.lt q hq
      rw [z, e3] at h2
      cases h2
    refine a2 (lendZ Z i p) F (upd B p ob) H σ _ (s.lend (List.getElem?_eq_some_iff.mp e).1 e1 e3 hob e4 fun j d' p' hj hk hv h1 h2 => ?_) r er E (lend_post e3 hzb hla s.la (fun _ => .inl ⟨rfl, e2⟩) eo q)
    rintro rfl
    rcases hk with hk | hk
    · exact hj (s.nd j i p' (h1 hk) hat)
    · exact (s.mm j p' (h2 hk)).1 e2
  · rename_i d e
    obtain ⟨r, er, eo⟩ := Option.bind_eq_some_iff.mp ho
    obtain ⟨p, e1, e2, e3, e4⟩ := s.sl i _ e
    obtain ⟨ob, hob⟩ := e4.there
    have hzb : Z.B p = none := (s.mm i p e2).2
    have hla : ∀ q ∈ Z.LA, q ≠ p := fun q hq z => by
      obtain ⟨_, o1, h2⟩ := s.lt q hq
      rw [z, e3] at h2
      cases h2
    refine a2 (lendZ Z i p) F (upd B p ob) H σ _ (s.lend (List.getElem?_eq_some_iff.mp e).1 e1 e3 hob e4 fun j d' p' hj hk hv h1 h2 => ?_) r er E (lend_post e3 hzb hla s.la (fun _ => .inr ⟨rfl, e2⟩) eo q)
    rintro rfl
    rcases hk with hk | hk
    · obtain ⟨p3, f1, f2, _⟩ := s.sl j _ hk
      rw [hv] at f1
      cases f1
      exact (s.mm i p' e2).1 f2
    · exact hj (s.md j i p' (h2 hk) e2)
  · exact a2 Z F B H σ ρ s o ho E q
end
end DL

namespace DL
open PySem PySem.Spec L2
theorem slot_app : Slot "list" "append" "list.append" :=
  .of (owner := "list") (n := "append") (by rw [typeLookup_type, builtinLookup_eq_fast]; kernel_rfl) (by decide +kernel) (by decide +kernel) (by decide +kernel) (by first | exact .inl (by decide +kernel) | exact .inr (by decide +kernel)) (by rw [isSubtype_type]; kernel_rfl)
theorem ty_app : typeOf (.builtin "list.append") = pure (.type "method_descriptor") := by
  show builtinType _ = _
  rw [builtinType_eq_fast]
  kernel_rfl
theorem slot_ins : Slot "list" "insert" "list.insert" :=
  .of (owner := "list") (n := "insert") (by rw [typeLookup_type, builtinLookup_eq_fast]; kernel_rfl) (by decide +kernel) (by decide +kernel) (by decide +kernel) (by first | exact .inl (by decide +kernel) | exact .inr (by decide +kernel)) (by rw [isSubtype_type]; kernel_rfl)
theorem ty_ins : typeOf (.builtin "list.insert") = pure (.type "method_descriptor") := by
  show builtinType _ = _
  rw [builtinType_eq_fast]
  kernel_rfl
theorem boot_int : bootBuiltins "int" = some (.type "int") := by decide +kernel
theorem boot_bool : bootBuiltins "bool" = some (.type "bool") := by decide +kernel
theorem boot_str : bootBuiltins "str" = some (.type "str") := by decide +kernel
theorem boot_list : bootBuiltins "list" = some (.type "list") := by decide +kernel
theorem boot_tuple : bootBuiltins "tuple" = some (.type "tuple") := by decide +kernel
theorem boot_dict : bootBuiltins "dict" = some (.type "dict") := by decide +kernel
/-- a def with defaults, all parameters written -/
theorem bindsAll {K : PySem.W.Frag} {x qual : Str} {params : Arguments} {body : List Stmt} {scope : Scope} {dvs : List V} {kws : List (Str × V)} {f : Addr} {fd : FuncData} {ps : List Str} (F : FunD K x qual params body scope dvs kws f fd) (hd : dvs ≠ [])
    (h : ∀ (T : Addr) (kV doc pm : Value) (an : Option Addr) (cdv ct : Value) (us its : List Value), us.length = ps.length → its.length = dvs.length →
      ∃ k, bindArgs (PySem.W.fnOf x qual params body scope (.ref T) kV doc pm an cdv ct) ⟨us, []⟩ = seqItems? (.ref T) >>= k ∧ k (some its.toArray) = pure (ps.zip us)) : Binds K fd ps [] := by
  obtain ⟨ds, hv, hb⟩ := F.binds1 (ps := ps) ps.length dvs.length hd (by omega) fun T kV doc pm an cdv ct us its hu hi => by
    obtain ⟨k, e1, e2⟩ := h T kV doc pm an cdv ct us its hu hi
    refine ⟨k, e1, ?_⟩
    rw [e2, show its.drop dvs.length = [] by rw [← hi]; exact List.drop_length, List.append_nil]
  rw [List.drop_length] at hv
  cases hv
  exact hb
/-- what a law promises -/
def spLw (K : PySem.W.Frag) : Sp := fun vs H Q _ => ∃ (a : Addr) (ns : List Int), vs = [.ref a] ∧ SqL K H a (ns.map V.int) ∧ ns.length ≤ 63 ∧ ∀ H', Q (.bl true) H'
theorem law_imp {G : Gm} {Fn : List D → Option FOut} (h : ∀ ns : List Int, ns.length ≤ 63 → ∃ fr, Fn [.scr ns] = some (.ret fr (.bl true) [])) (vs : List V) (H : Hp) (Q : VK) (E : XK) (q : spLw G.K vs H Q E) : spD G [.bo] Fn vs H Q E := by
  obtain ⟨a, ns, rfl, hS, hl, hQ⟩ := q
  obtain ⟨F, ds, h1, h2, h3, o, h4, h5⟩ := law_sp (E := E) hS (h ns hl)
  refine ⟨F, ds, h1, h2, h3, o, h4, ?_⟩
  cases o with
  | ret fr d ms =>
    intro F' H' v ha hv hm
    have e : v = .bl true := h5 F' H' v ha hv hm
    rw [e]
    exact hQ H'
  | exc x ms =>
    intro F' H' cls dx ha hv hm
    have := h5 F' H' cls dx ha hv hm
    obtain ⟨fr, e⟩ := h ns hl
    obtain ⟨F2, ds2, _, _, p2, _⟩ := law_sp (G := G) (E := E) hS ⟨fr, e⟩
    exact this
end DL

namespace DL
open PySem PySem.Spec L2

/-! ### reckoning with denotations -/
theorem loop_inv {h : D → En → Option En} {g : SO} (P : Nat → En → Prop) : ∀ (items : List D) (n : Nat) (ρ : En), P n ρ →
    (∀ i d ρ, items[i]? = some d → P (n + i) ρ → ∃ ρ1 ρ2, h d ρ = some ρ1 ∧ (g ρ1 = some (.nx ρ2) ∨ g ρ1 = some (.ct ρ2)) ∧ P (n + i + 1) ρ2) →
    ∃ ρ', loopG h g items ρ = some (.nx ρ') ∧ P (n + items.length) ρ'
  | [], n, ρ, h0, _ => ⟨ρ, rfl, h0⟩
  | d :: ds, n, ρ, h0, st => by
    obtain ⟨ρ1, ρ2, e1, e2, p⟩ := st 0 d ρ rfl h0
    obtain ⟨ρ', e, q⟩ := loop_inv (h := h) (g := g) P ds (n + 1) ρ2 p fun i d' ρ hi hp => by
      have := st (i + 1) d' ρ hi (by rw [show n + (i + 1) = n + 1 + i by omega]; exact hp)
      rw [show n + (i + 1) + 1 = n + 1 + i + 1 by omega] at this
      exact this
    refine ⟨ρ', ?_, ?_⟩
    · unfold loopG
      rw [e1]
      rcases e2 with e2 | e2 <;> (simp only [e2]; exact e)
    · rw [List.length_cons, show n + (ds.length + 1) = n + 1 + ds.length by omega]
      exact q
theorem loop_inv0 {h : D → En → Option En} {g : SO} (P : Nat → En → Prop) (items : List D) (ρ : En) (h0 : P 0 ρ)
    (st : ∀ i d ρ, items[i]? = some d → P i ρ → ∃ ρ1 ρ2, h d ρ = some ρ1 ∧ (g ρ1 = some (.nx ρ2) ∨ g ρ1 = some (.ct ρ2)) ∧ P (i + 1) ρ2) :
    ∃ ρ', loopG h g items ρ = some (.nx ρ') ∧ P items.length ρ' := by
  have := loop_inv (h := h) (g := g) P items 0 ρ h0 (by simpa using st)
  simpa using this
theorem rngD_len (lo hi : Int) : (rngD lo hi).length = (hi - lo).toNat := by simp [rngD]
theorem rngD_at {lo hi : Int} {i : Nat} {d : D} (h : (rngD lo hi)[i]? = some d) : d = .int (lo + i) ∧ i < (hi - lo).toNat := by
  unfold rngD at h
  rw [List.getElem?_map] at h
  cases e : (List.range (hi - lo).toNat)[i]? with
  | none => rw [e] at h; cases h
  | some j =>
    rw [e] at h
    obtain ⟨hj, e2⟩ := List.getElem?_eq_some_iff.mp e
    rw [List.length_range] at hj
    rw [List.getElem_range] at e2
    subst e2
    exact ⟨(Option.some.inj h).symm, hj⟩
/-- the whole result is True -/
def isT : Option FOut → Bool
  | some (.ret _ (.bl true) []) => true
  | _ => false
theorem isT_ok {o : Option FOut} (h : isT o = true) : ∃ fr, o = some (.ret fr (.bl true) []) := by
  unfold isT at h
  split at h
  · rename_i fr
    exact ⟨fr, rfl⟩
  · cases h
theorem two64 : (2 : Int) ^ 64 = 18446744073709551616 := by decide +kernel
theorem cMul_a {i j : Int} (h1 : -18446744073709551616 < i) (h2 : i < 18446744073709551616) : cMul i j = true := by
  unfold cMul
  rw [two64]
  simp [h1, h2]
theorem cMul_b {i j : Int} (h1 : -18446744073709551616 < j) (h2 : j < 18446744073709551616) : cMul i j = true := by
  unfold cMul
  rw [two64]
  simp [h1, h2]
theorem pow1018 : D.pow (.int 10) (.int 18) = some (.int 1000000000000000000) := by kernel_rfl
theorem gSeq_nx {g h : SO} {ρ ρ' : En} (e : g ρ = some (.nx ρ')) : gSeq g h ρ = h ρ' := by
  unfold gSeq
  rw [e]
theorem gSeq_rt {g h : SO} {ρ ρ' : En} {k : Kd} {d : D} (e : g ρ = some (.rt k d ρ')) : gSeq g h ρ = some (.rt k d ρ') := by
  unfold gSeq
  rw [e]
theorem seq_assoc (a b c : SO) : gSeq (gSeq a b) c = gSeq a (gSeq b c) := by
  funext ρ
  unfold gSeq
  cases h : a ρ with
  | none => rfl
  | some o => cases o <;> rfl
theorem seq_nx (k : SO) : gSeq gNx k = k := rfl
theorem seq_if (ga : En → M Bool) (g h k : SO) : gSeq (gIf ga g h) k = gIf ga (gSeq g k) (gSeq h k) := by
  funext ρ
  unfold gSeq gIf gBnd
  cases e : ga ρ with
  | none => rfl
  | some r =>
    cases r with
    | error x => rfl
    | ok t => cases t <;> rfl
theorem seq_ret (kd : Kd) (f : En → M D) (k : SO) : gSeq (gRet kd f) k = gRet kd f := by
  funext ρ
  unfold gSeq gRet gBnd
  cases e : f ρ with
  | none => rfl
  | some r => cases r <;> rfl
theorem if_and (a b : En → M Bool) (g h : SO) : gIf (fAnd a b) g h = gIf a (gIf b g h) h := by
  funext ρ
  unfold gIf gBnd fAnd M.bnd
  cases e : a ρ with
  | none => rfl
  | some r =>
    cases r with
    | error x => rfl
    | ok t => cases t <;> rfl
theorem if_or (a b : En → M Bool) (g h : SO) : gIf (fOr a b) g h = gIf a g (gIf b g h) := by
  funext ρ
  unfold gIf gBnd fOr M.bnd
  cases e : a ρ with
  | none => rfl
  | some r =>
    cases r with
    | error x => rfl
    | ok t => cases t <;> rfl
theorem if_not (a : En → M Bool) (g h : SO) : gIf (fNot a) g h = gIf a h g := by
  funext ρ
  unfold gIf gBnd fNot M.bnd
  cases e : a ρ with
  | none => rfl
  | some r =>
    cases r with
    | error x => rfl
    | ok t => cases t <;> rfl
theorem if_at {ga : En → M Bool} {g h : SO} {ρ : En} {t : Bool} (e : ga ρ = some (.ok t)) : gIf ga g h ρ = if t = true then g ρ else h ρ := by
  unfold gIf gBnd
  rw [e]
  cases t <;> rfl
theorem atI_nat {α : Type} {l : List α} {k : Nat} (h : k < l.length) : atI l (k : Int) = some l[k] := by
  unfold atI
  have h1 : ixN l.length (k : Int) = some k := by
    unfold ixN
    rw [if_pos (by omega)]
    simp [h]
  rw [h1]
  exact List.getElem?_eq_getElem h
theorem add_ii (i j : Int) : D.add (.int i) (.int j) = some (.int (i + j)) := by exact id rfl
theorem add_ll {x y : List D} (h : x.length + y.length ≤ 16000000) : D.add (.lst x) (.lst y) = some (.lst (x ++ y)) := by
  show ((none : Option D).or ((none : Option D).or ((if x.length + y.length ≤ LIM then some (D.lst (x ++ y)) else none).or none))) = _
  rw [if_pos h]
  rfl
theorem add_tt {x y : List D} (h : x.length + y.length ≤ 16000000) : D.add (.tup x) (.tup y) = some (.tup (x ++ y)) := by
  show ((none : Option D).or ((if x.length + y.length ≤ LIM then some (D.tup (x ++ y)) else none).or _)) = _
  rw [if_pos h]
  rfl
theorem sub_ii (i j : Int) : D.sub (.int i) (.int j) = some (.int (i - j)) := by exact id rfl
theorem mod_ii {i j : Int} (h : 0 < j) : D.mod (.int i) (.int j) = some (.int (i % j)) := by
  show (if cMod i j = true then some (D.int (i % j)) else none) = _
  rw [if_pos (by unfold cMod; exact decide_eq_true h)]
theorem div_ii {i j : Int} (h : 0 < j) (h2 : j < 1073741824) : D.div (.int i) (.int j) = some (.int (i / j)) := by
  show (if cDiv i j = true then some (D.int (i / j)) else none) = _
  rw [if_pos (by unfold cDiv; rw [decide_eq_true h, decide_eq_true h2]; rfl)]
theorem mul_ii {i j : Int} (h : cMul i j = true) : D.mul (.int i) (.int j) = some (.int (i * j)) := by
  show (if cMul i j = true then some (D.int (i * j)) else none).or _ = _
  rw [if_pos h]
  rfl
theorem mul_ia {i j : Int} (h1 : -18446744073709551616 < i) (h2 : i < 18446744073709551616) : D.mul (.int i) (.int j) = some (.int (i * j)) := mul_ii (cMul_a h1 h2)
theorem mul_ib {i j : Int} (h1 : -18446744073709551616 < j) (h2 : j < 18446744073709551616) : D.mul (.int i) (.int j) = some (.int (i * j)) := mul_ii (cMul_b h1 h2)
theorem lt_ii (i j : Int) : D.lt (.int i) (.int j) = some (.bl (decide (i < j))) := by exact id rfl
theorem le_ii (i j : Int) : D.le (.int i) (.int j) = some (.bl (decide (i ≤ j))) := by exact id rfl
theorem gt_ii (i j : Int) : D.gt (.int i) (.int j) = some (.bl (decide (j < i))) := by exact id rfl
theorem ge_ii (i j : Int) : D.ge (.int i) (.int j) = some (.bl (decide (j ≤ i))) := by exact id rfl
theorem neg_i (i : Int) : D.neg (.int i) = some (.int (-i)) := by exact id rfl
theorem abs_i (i : Int) : D.abs [.int i] = some (.int (if i < 0 then -i else i)) := by exact id rfl
theorem int_i (i : Int) : D.int1 [.int i] = some (.int i) := by exact id rfl
theorem items_l (l : List D) : itemsD (.lst l) = some l := by exact id rfl
theorem items_t (l : List D) : itemsD (.tup l) = some l := by exact id rfl
/-! comprehensions -/
theorem compG_map {α : Type} {h : D → En → Option En} {gc : En → M Bool} {fe : En → M D} {ρ : En} (enc : α → D) (p : α → Bool) (f : α → D) : ∀ (items : List α),
    (∀ a ∈ items, ∃ ρ1, h (enc a) ρ = some ρ1 ∧ gc ρ1 = some (.ok (p a)) ∧ (p a = true → fe ρ1 = some (.ok (f a)))) → compG h gc fe ρ (items.map enc) = some ((items.filter p).map f)
  | [], _ => rfl
  | a :: as, H => by
    obtain ⟨ρ1, e1, e2, e3⟩ := H a List.mem_cons_self
    have ih := compG_map enc p f as fun b hb => H b (List.mem_cons_of_mem _ hb)
    rw [List.map_cons]
    unfold compG
    rw [e1, Option.bind_some]
    simp only [e2]
    cases hp : p a with
    | true => simp only [e3 hp, ih, List.filter_cons_of_pos hp, List.map_cons, Option.map_some]
    | false =>
      have hn : ¬ p a = true := by rw [hp]; decide
      simp only [ih, List.filter_cons_of_neg hn]
theorem compG_all {α : Type} {h : D → En → Option En} {fe : En → M D} {ρ : En} (enc : α → D) (f : α → D) (items : List α) (H : ∀ a ∈ items, ∃ ρ1, h (enc a) ρ = some ρ1 ∧ fe ρ1 = some (.ok (f a))) : compG h fYes fe ρ (items.map enc) = some (items.map f) := by
  have := compG_map (h := h) (gc := fYes) (fe := fe) (ρ := ρ) enc (fun _ => true) f items fun a ha => by
    obtain ⟨ρ1, e1, e2⟩ := H a ha
    exact ⟨ρ1, e1, rfl, fun _ => e2⟩
  rw [this, List.filter_eq_self.mpr (fun _ _ => rfl)]
theorem comp2G_map {α β : Type} {h h1 : D → En → Option En} {gc gc1 : En → M Bool} {fi1 : En → M (List D)} {fe : En → M D} {vs1 : List Nat} {ρ : En} (enc : α → D) (enc1 : β → D) (p : α → Bool) (sub : α → List β) (q : α → β → Bool) (f : α → β → D) : ∀ (items : List α),
    (∀ a ∈ items, ∃ ρ1, h (enc a) ρ = some ρ1 ∧ gc ρ1 = some (.ok (p a)) ∧ (p a = true → fi1 ρ1 = some (.ok ((sub a).map enc1)) ∧
      ∀ b ∈ sub a, ∃ ρ2, h1 (enc1 b) (wipeE ρ1 vs1) = some ρ2 ∧ gc1 ρ2 = some (.ok (q a b)) ∧ (q a b = true → fe ρ2 = some (.ok (f a b))))) →
    comp2G h gc fi1 h1 gc1 fe vs1 ρ (items.map enc) = some ((items.filter p).flatMap fun a => ((sub a).filter (q a)).map (f a))
  | [], _ => rfl
  | a :: as, H => by
    obtain ⟨ρ1, e1, e2, e3⟩ := H a List.mem_cons_self
    have ih := comp2G_map enc enc1 p sub q f as fun b hb => H b (List.mem_cons_of_mem _ hb)
    rw [List.map_cons]
    unfold comp2G
    rw [e1, Option.bind_some]
    simp only [e2]
    cases hp : p a with
    | true =>
      obtain ⟨e4, e5⟩ := e3 hp
      simp only [e4, compG_map enc1 (q a) (f a) (sub a) e5, ih, List.filter_cons_of_pos hp, List.flatMap_cons, Option.bind_some, Option.map_some]
    | false =>
      have hn : ¬ p a = true := by rw [hp]; decide
      simp only [ih, List.filter_cons_of_neg hn]
theorem limL_ok {l : List D} (h : l.length ≤ 16000000) : limL (some l) = some (.ok (.lst l)) := by
  unfold limL
  exact if_pos h
theorem rngD_map (n : Nat) : rngD 0 (n : Int) = (List.range n).map fun (i : Nat) => D.int (i : Int) := by
  unfold rngD
  rw [show ((n : Int) - 0).toNat = n by omega]
  refine List.map_congr_left fun i _ => ?_
  rw [Int.zero_add]
end DL

namespace DL
open PySem PySem.Spec L2

/-! ### == over typed data -/
structure EqEnc {α : Type} [DecidableEq α] (enc : α → D) (n : Nat) : Prop where
  ex : ∀ a, ∃ p, toP (enc a) = some p ∧ PyData.canLay0 p = true ∧ PyData.depth p ≤ n
  eq : ∀ a b p q, toP (enc a) = some p → toP (enc b) = some q → PyData.eqv p q = decide (a = b)
section
variable {α β : Type} [DecidableEq α] [DecidableEq β] {enc : α → D} {enc2 : β → D} {n n2 : Nat}
theorem EqEnc.int : EqEnc D.int 1 where
  ex := fun a => ⟨.int a, by unfold toP; rfl, by unfold PyData.canLay0; rfl, by unfold PyData.depth; omega⟩
  eq := fun a b p q hp hq => by
    unfold toP at hp hq
    cases hp
    cases hq
    unfold PyData.eqv
    rfl
theorem EqEnc.alls (h : EqEnc enc n) : ∀ l : List α, ∃ ps, toPs (l.map enc) = some ps ∧ PyData.canLayAll0 ps = true ∧ PyData.depthAll ps ≤ n
  | [] => ⟨[], by unfold toPs; rfl, by unfold PyData.canLayAll0; rfl, by unfold PyData.depthAll; omega⟩
  | a :: l => by
    obtain ⟨p, e1, e2, e3⟩ := h.ex a
    obtain ⟨ps, f1, f2, f3⟩ := h.alls l
    refine ⟨p :: ps, ?_, ?_, ?_⟩
    · rw [List.map_cons]
      unfold toPs
      rw [e1, f1]
    · unfold PyData.canLayAll0
      rw [e2, f2]
      rfl
    · unfold PyData.depthAll
      omega
theorem toPs_cons {d : D} {ds : List D} {qs : List PyData} (h : toPs (d :: ds) = some qs) : ∃ p ps, toP d = some p ∧ toPs ds = some ps ∧ qs = p :: ps := by
  unfold toPs at h
  cases e : toP d with
  | none => rw [e] at h; cases h
  | some p =>
    rw [e] at h
    cases e2 : toPs ds with
    | none => rw [e2] at h; cases h
    | some ps => rw [e2] at h; exact ⟨p, ps, rfl, rfl, (Option.some.inj h).symm⟩
theorem EqEnc.allEq (h : EqEnc enc n) : ∀ (l m : List α) (ps qs : List PyData), toPs (l.map enc) = some ps → toPs (m.map enc) = some qs → PyData.eqvAll ps qs = decide (l = m)
  | [], [], ps, qs, hp, hq => by
    unfold List.map toPs at hp hq
    cases hp
    cases hq
    unfold PyData.eqvAll
    rfl
  | [], b :: m, ps, qs, hp, hq => by
    obtain ⟨q, qs', _, _, rfl⟩ := toPs_cons hq
    unfold List.map toPs at hp
    cases hp
    unfold PyData.eqvAll
    simp
  | a :: l, [], ps, qs, hp, hq => by
    obtain ⟨q, qs', _, _, rfl⟩ := toPs_cons hp
    unfold List.map toPs at hq
    cases hq
    unfold PyData.eqvAll
    simp
  | a :: l, b :: m, ps, qs, hp, hq => by
    obtain ⟨p, ps', e1, e2, rfl⟩ := toPs_cons hp
    obtain ⟨q, qs', f1, f2, rfl⟩ := toPs_cons hq
    unfold PyData.eqvAll
    rw [h.eq a b p q e1 f1, h.allEq l m ps' qs' e2 f2]
    by_cases h1 : a = b <;> by_cases h2 : l = m <;> simp [h1, h2]
theorem EqEnc.tup (h : EqEnc enc n) : EqEnc (fun l : List α => D.tup (l.map enc)) (n + 1) where
  ex := fun l => by
    obtain ⟨ps, e1, e2, e3⟩ := h.alls l
    refine ⟨.tuple ps, ?_, ?_, ?_⟩
    · unfold toP
      rw [e1]
      rfl
    · unfold PyData.canLay0
      exact e2
    · unfold PyData.depth
      omega
  eq := fun a b p q hp hq => by
    unfold toP at hp hq
    obtain ⟨ps, e1, rfl⟩ := Option.map_eq_some_iff.mp hp
    obtain ⟨qs, e2, rfl⟩ := Option.map_eq_some_iff.mp hq
    unfold PyData.eqv
    exact h.allEq a b ps qs e1 e2
theorem EqEnc.lst (h : EqEnc enc n) : EqEnc (fun l : List α => D.lst (l.map enc)) (n + 1) where
  ex := fun l => by
    obtain ⟨ps, e1, e2, e3⟩ := h.alls l
    refine ⟨.list ps, ?_, ?_, ?_⟩
    · unfold toP
      rw [e1]
      rfl
    · unfold PyData.canLay0
      exact e2
    · unfold PyData.depth
      omega
  eq := fun a b p q hp hq => by
    unfold toP at hp hq
    obtain ⟨ps, e1, rfl⟩ := Option.map_eq_some_iff.mp hp
    obtain ⟨qs, e2, rfl⟩ := Option.map_eq_some_iff.mp hq
    unfold PyData.eqv
    exact h.allEq a b ps qs e1 e2
theorem EqEnc.pair (h : EqEnc enc n) (h2 : EqEnc enc2 n2) : EqEnc (fun q : α × β => D.tup [enc q.1, enc2 q.2]) (max n n2 + 1) where
  ex := fun q => by
    obtain ⟨p, e1, e2, e3⟩ := h.ex q.1
    obtain ⟨p2, f1, f2, f3⟩ := h2.ex q.2
    refine ⟨.tuple [p, p2], ?_, ?_, ?_⟩
    · simp only [toP, toPs, e1, f1, Option.map_some]
    · simp only [PyData.canLay0, PyData.canLayAll0, e2, f2, Bool.and_self]
    · simp only [PyData.depth, PyData.depthAll]
      omega
  eq := fun a b p q hp hq => by
    unfold toP at hp hq
    obtain ⟨ps, e1, rfl⟩ := Option.map_eq_some_iff.mp hp
    obtain ⟨qs, e2, rfl⟩ := Option.map_eq_some_iff.mp hq
    obtain ⟨p1, ps1, a1, a2, rfl⟩ := toPs_cons e1
    obtain ⟨p2, ps2, a3, a4, rfl⟩ := toPs_cons a2
    obtain ⟨q1, qs1, b1, b2, rfl⟩ := toPs_cons e2
    obtain ⟨q2, qs2, b3, b4, rfl⟩ := toPs_cons b2
    unfold toPs at a4 b4
    cases a4
    cases b4
    simp only [PyData.eqv, PyData.eqvAll, h.eq a.1 b.1 p1 q1 a1 b1, h2.eq a.2 b.2 p2 q2 a3 b3, Bool.and_true]
    obtain ⟨x, y⟩ := a
    obtain ⟨z, w⟩ := b
    by_cases h1 : x = z <;> by_cases h2 : y = w <;> simp [h1, h2]
theorem EqEnc.shaped (h : EqEnc enc n) (hn : n ≤ 64) (a : α) : ∃ p, toP (enc a) = some p ∧ SeqAt.shaped p = true := by
  obtain ⟨p, e1, e2, e3⟩ := h.ex a
  refine ⟨p, e1, ?_⟩
  unfold SeqAt.shaped
  rw [e2, decide_eq_true (Nat.le_trans e3 hn)]
  rfl
theorem EqEnc.eqd (h : EqEnc enc n) (hn : n ≤ 64) (a b : α) : D.eqd (enc a) (enc b) = some (decide (a = b)) := by
  obtain ⟨p, e1, e2⟩ := h.shaped hn a
  obtain ⟨q, f1, f2⟩ := h.shaped hn b
  unfold D.eqd
  rw [e1, f1]
  show (if SeqAt.shaped p = true ∧ SeqAt.shaped q = true then some (PyData.eqv p q) else none) = _
  rw [if_pos ⟨e2, f2⟩, h.eq a b p q e1 f1]
theorem EqEnc.deq (h : EqEnc enc n) (hn : n ≤ 64) (a b : α) : D.eq (enc a) (enc b) = some (.bl (decide (a = b))) := by
  unfold D.eq
  rw [h.eqd hn a b]
  rfl
theorem EqEnc.dne (h : EqEnc enc n) (hn : n ≤ 64) (a b : α) : D.ne (enc a) (enc b) = some (.bl (!decide (a = b))) := by
  unfold D.ne
  rw [h.eqd hn a b]
  rfl
theorem EqEnc.any (h : EqEnc enc n) (a : α) {p : PyData} (hp : toP (enc a) = some p) : ∀ (l : List α) (qs : List PyData), toPs (l.map enc) = some qs → (qs.any fun z => PyData.eqv z p) = decide (a ∈ l)
  | [], qs, hq => by
    unfold List.map toPs at hq
    cases hq
    simp
  | b :: l, qs, hq => by
    obtain ⟨q, qs', e1, e2, rfl⟩ := toPs_cons hq
    rw [List.any_cons, h.eq b a q p e1 hp, h.any a hp l qs' e2]
    by_cases h1 : b = a
    · subst h1; simp
    · have h2 : ¬ a = b := fun e => h1 e.symm
      by_cases h3 : a ∈ l <;> simp [h1, h2, h3]
theorem EqEnc.inn (h : EqEnc enc n) (hn : n < 64) (a : α) (l : List α) : D.inn (enc a) (.lst (l.map enc)) = some (.bl (decide (a ∈ l))) := by
  obtain ⟨p, e1, e2⟩ := h.shaped (Nat.le_of_lt hn) a
  obtain ⟨ps, f1, f2, f3⟩ := h.alls l
  have hs : SeqAt.shaped (.list ps) = true := by
    unfold SeqAt.shaped PyData.canLay0 PyData.depth
    rw [f2, decide_eq_true (show _ ≤ 64 by omega)]
    rfl
  show (((inD (enc a) (l.map enc)).or _).map D.bl) = _
  unfold inD
  rw [e1, f1]
  show (((if SeqAt.shaped p = true ∧ SeqAt.shaped (.list ps) = true then some (ps.any fun z => PyData.eqv z p) else none).or _).map D.bl) = _
  rw [if_pos ⟨e2, hs⟩, h.any a e1 l ps f1]
  rfl
end
theorem eq_ii (i j : Int) : D.eq (.int i) (.int j) = some (.bl (decide (i = j))) := EqEnc.int.deq (by decide) i j
theorem ne_ii (i j : Int) : D.ne (.int i) (.int j) = some (.bl (!decide (i = j))) := EqEnc.int.dne (by decide) i j
theorem eq_tI (x y : List Int) : D.eq (.tup (x.map D.int)) (.tup (y.map D.int)) = some (.bl (decide (x = y))) := EqEnc.int.tup.deq (by decide) x y
theorem lt_tI (x y : List Int) : D.lt (.tup (x.map D.int)) (.tup (y.map D.int)) = some (.bl (HT.lexLt x y)) := by
  show ((none : Option D).or (ltT (.tup (x.map D.int)) (.tup (y.map D.int)))) = _
  have e : ltT (.tup (x.map D.int)) (.tup (y.map D.int)) = some (.bl (HT.lexLt x y)) := by
    show (match ints? (x.map D.int), ints? (y.map D.int) with
      | some ns, some ms => some (D.bl (HT.lexLt ns ms))
      | _, _ => none) = _
    rw [ints?_map, ints?_map]
  rw [e]
  rfl
theorem ix_l {l : List D} {i : Int} : ixL (.lst l) (.int i) = atI l i := by exact id rfl
theorem ix_t {l : List D} {i : Int} : ixL (.tup l) (.int i) = atI l i := by exact id rfl
theorem atI_at {α : Type} {l : List α} {k : Int} {x : α} (h0 : 0 ≤ k) (h : l[k.toNat]? = some x) : atI l k = some x := by
  have hk := (List.getElem?_eq_some_iff.mp h).1
  have e : k = (k.toNat : Int) := by omega
  rw [e, atI_nat hk]
  exact (List.getElem?_eq_getElem hk).symm.trans h
def isB (d : D) (n : String) : Bool := match tyOf d with
  | some (.b m) => m == n || (m == "bool" && n == "int")
  | _ => false
end DL

namespace DL
open PySem PySem.Spec L2
/-! ### the text by places -/
def top (i : Nat) : Stmt := PySem.Challenge.pw_notedepth_k05_crowd_every.main.body.getD i (.Pass ⟨0, 0, 0, 0⟩)
abbrev s__law_draws : Stmt := top 9
abbrev s__law_cell : Stmt := top 8
abbrev s_Crowd___init__ : Stmt := inClass (top 5) 0
abbrev s_Crowd_every : Stmt := inClass (top 5) 14
abbrev s__law_count : Stmt := top 10
abbrev s__law_is_integer : Stmt := top 7
abbrev s_law : Stmt := top 11
/-! ### what each def computes -/
def b1__law_draws : SO := (gSeq (gMut 2 (fCons (fBin D.mod (fCa D.int1 (fCons (fVarP 3) fNil)) (fC (.int 1000))) fNil) uApp)
  (gSetS 3 (fBin D.div (fVarP 3) (fC (.int 1000)))))
def b2__law_draws : SO := (gSeq (gSetS 5 (fBin D.mod (fCa D.int1 (fCons (fBin D.add (fBin D.add (fBin D.mul (fVarP 0) (fC (.int 7919))) (fBin D.mul (fVarP 4) (fC (.int 131)))) (fC (.int 7))) fNil)) (fC (.int 1009))))
  (gMut 2 (fCons (fBin D.mod (fCa D.int1 (fCons (fBin D.add (fBin D.add (fBin D.mul (fVarP 5) (fVarP 5)) (fBin D.mul (fVarP 4) (fC (.int 17)))) (fVarP 0)) fNil)) (fC (.int 997))) fNil) uApp))
def s5__law_draws : SO := (gRetO 2)
def r5__law_draws : SO := s5__law_draws
def s4__law_draws : SO := (gFor (fRng rng1 (fCons (fVarP 1) fNil)) (hNm 4) b2__law_draws)
def r4__law_draws : SO := gSeq s4__law_draws r5__law_draws
def s3__law_draws : SO := (gIf (fTst (fBin D.ge (fVarP 0) (fBin D.pow (fC (.int 10)) (fC (.int 18))))) (gSeq (gSetS 3 (fBin D.sub (fVarP 0) (fBin D.pow (fC (.int 10)) (fC (.int 18)))))
  (gSeq (gFor (fRng rng1 (fCons (fVarP 1) fNil)) (hNm 4) b1__law_draws)
  (gRetO 2))) gNx)
def r3__law_draws : SO := gSeq s3__law_draws r4__law_draws
def s2__law_draws : SO := (gSetF 2 (fLst fNil))
def r2__law_draws : SO := gSeq s2__law_draws r3__law_draws
def s1__law_draws : SO := (gSetS 0 (fCa D.abs (fCons (fCa D.int1 (fCons (fVarP 0) fNil)) fNil)))
def r1__law_draws : SO := gSeq s1__law_draws r2__law_draws
def g__law_draws : SO := r1__law_draws
def Fn__law_draws : List D → Option FOut := runF [.bo, .bo] 6 g__law_draws
def s2__law_cell : SO := (gRet .fresh (fC (.int 0)))
def r2__law_cell : SO := s2__law_cell
def s1__law_cell : SO := (gIf (fTst (fBin D.lt (fVarP 1) (fCa D.len (fCons (fVarP 0) fNil)))) (gRet .fresh (fCa D.int1 (fCons (fBin ixL (fVarP 0) (fVarP 1)) fNil))) gNx)
def r1__law_cell : SO := gSeq s1__law_cell r2__law_cell
def g__law_cell : SO := r1__law_cell
def Fn__law_cell : List D → Option FOut := runF [.bo, .bo] 2 g__law_cell
def b1_Crowd___init__ : SO := (gIf (fTst (fBin D.lt (fVarP 2) (fC (.int 0)))) (fun _ => none) gNx)
def e1_Crowd___init__ : En → M D := (fCa D.int1 (fCons (fVarP 2) fNil))
def s2_Crowd___init__ : SO := (gOn 0 (fCa D.tupl (fCons (fCa D.sorted (fCons (fLc (fIt (fVarB 1)) (hNm 2) fYes e1_Crowd___init__ [2]) fNil)) fNil)) (setFld 0 0))
def r2_Crowd___init__ : SO := s2_Crowd___init__
def s1_Crowd___init__ : SO := (gFor (fIt (fVarB 1)) (hNm 2) b1_Crowd___init__)
def r1_Crowd___init__ : SO := gSeq s1_Crowd___init__ r2_Crowd___init__
def g_Crowd___init__ : SO := r1_Crowd___init__
def Fn_Crowd___init__ : List D → Option FOut := runF [.mu, .bo] 3 g_Crowd___init__
def i1_Crowd_every : En → M (List D) := (fRng rng1 (fCons (fVarP 0) fNil))
def c1_Crowd_every : En → M Bool := (fOr (fTst (fBin D.eq (fVarP 4) (fTup fNil))) (fTst (fBin D.le (fBin ixL (fVarP 4) (fUn D.neg (fC (.int 1)))) (fVarP 5))))
def e1_Crowd_every : En → M D := (fBin D.add (fVarP 4) (fTup (fCons (fVarS 5) fNil)))
def b1_Crowd_every : SO := (gFrz 2 (gSetF 2 (fLc2 (fIt (fVarB 2)) (hNm 4) fYes i1_Crowd_every (hNm 5) c1_Crowd_every e1_Crowd_every [4, 5] [5])))
def e2_Crowd_every : En → M D := (fMk 0 Fn_Crowd___init__ (fCons (fVarP 4) fNil))
def s3_Crowd_every : SO := (gLend 2 (gRet .fresh (fLc (fIt (fVarB 2)) (hNm 4) fYes e2_Crowd_every [4])))
def r3_Crowd_every : SO := s3_Crowd_every
def s2_Crowd_every : SO := (gFor (fRng rng1 (fCons (fVarP 1) fNil)) (hNm 3) b1_Crowd_every)
def r2_Crowd_every : SO := gSeq s2_Crowd_every r3_Crowd_every
def s1_Crowd_every : SO := (gSetS 2 (fLst (fCons (fTup fNil) fNil)))
def r1_Crowd_every : SO := gSeq s1_Crowd_every r2_Crowd_every
def g_Crowd_every : SO := r1_Crowd_every
def Fn_Crowd_every : List D → Option FOut := runF [.bo, .bo] 6 g_Crowd_every
def b1__law_count : SO := (gSetIx 2 (fBin D.add (fVarP 4) (fC (.int 1))) (fBin D.add (fBin ixL (fVarP 2) (fBin D.add (fVarP 4) (fC (.int 1)))) (fBin ixL (fVarP 2) (fVarP 4))))
def b2__law_count : SO := (gFor (fRng rng1 (fCons (fVarP 1) fNil)) (hNm 4) b1__law_count)
def s3__law_count : SO := (gRet .shared (fBin ixL (fVarP 2) (fVarP 1)))
def r3__law_count : SO := s3__law_count
def s2__law_count : SO := (gFor (fRng rng1 (fCons (fVarP 0) fNil)) (hNm 3) b2__law_count)
def r2__law_count : SO := gSeq s2__law_count r3__law_count
def s1__law_count : SO := (gSetF 2 (fBin D.add (fLst (fCons (fC (.int 1)) fNil)) (fBin D.mul (fLst (fCons (fC (.int 0)) fNil)) (fVarP 1))))
def r1__law_count : SO := gSeq s1__law_count r2__law_count
def g__law_count : SO := r1__law_count
def Fn__law_count : List D → Option FOut := runF [.bo, .bo] 5 g__law_count
def s1__law_is_integer : SO := (gRet .fresh (fAndV (fIsi (fVarP 0) (fC (.typ "int"))) (fNotV (fIsi (fVarP 0) (fC (.typ "bool"))))))
def r1__law_is_integer : SO := s1__law_is_integer
def g__law_is_integer : SO := r1__law_is_integer
def Fn__law_is_integer : List D → Option FOut := runF [.bo] 1 g__law_is_integer
def b1_law : SO := (gIf (fOr (fNot (fTst (fCallF Fn__law_is_integer (fCons (fBin ixL (fVarP 7) (fVarP 8)) fNil)))) (fOr (fTst (fBin D.lt (fBin ixL (fVarP 7) (fVarP 8)) (fC (.int 0)))) (fOr (fTst (fBin D.ge (fBin ixL (fVarP 7) (fVarP 8)) (fVarP 2))) (fAnd (fTst (fBin D.gt (fVarP 8) (fC (.int 0)))) (fTst (fBin D.gt (fBin ixL (fVarP 7) (fBin D.sub (fVarP 8) (fC (.int 1)))) (fBin ixL (fVarP 7) (fVarP 8)))))))) (gRet .fresh (fC (.bl false))) gNx)
def b2_law : SO := (gSeq (gIf (fOr (fNot (fTst (fIsi (fVarP 6) (fC (.cls 0))))) (fOr (fNot (fTst (fIsi (fUn (fldD 0 0) (fVarP 6)) (fC (.typ "tuple"))))) (fTst (fBin D.ne (fCa D.len (fCons (fUn (fldD 0 0) (fVarP 6)) fNil)) (fVarP 3))))) (gRet .fresh (fC (.bl false))) gNx)
  (gSeq (gSetS 7 (fUn (fldD 0 0) (fVarP 6)))
  (gSeq (gFor (fRng rng1 (fCons (fVarP 3) fNil)) (hNm 8) b1_law)
  (gSeq (gIf (fAnd (fTst (fBin D.isNot (fVarP 5) (fC .non))) (fNot (fTst (fBin D.lt (fVarP 5) (fVarP 7))))) (gRet .fresh (fC (.bl false))) gNx)
  (gSetS 5 (fVarS 7))))))
def e1_law : En → M D := (fUn (fldD 0 0) (fVarP 6))
def e2_law : En → M D := (fUn (fldD 0 0) (fVarP 6))
def s11_law : SO := (gRet .fresh (fAndV (fBin D.eq (fCa D.len (fCons (fVarP 9) fNil)) (fBin D.sub (fCa D.len (fCons (fVarP 4) fNil)) (fC (.int 1)))) (fAndV (fIsi (fVarP 10) (fC (.typ "list"))) (fBin D.eq (fLc (fIt (fVarB 10)) (hNm 6) fYes e1_law [6]) (fLc (fIt (fVarB 9)) (hNm 6) fYes e2_law [6])))))
def r11_law : SO := s11_law
def s10_law : SO := (gSetS 10 (fSm (isObj 0) Fn_Crowd_every (fMk 0 Fn_Crowd___init__ (fCons (fLst (fCons (fVarS 2) (fCons (fVarS 3) fNil))) fNil)) (fCons (fVarP 2) (fCons (fVarP 3) fNil))))
def r10_law : SO := gSeq s10_law r11_law
def s9_law : SO := (gSetS 9 (fSm (isCls 0) Fn_Crowd_every (fC (.cls 0)) (fCons (fVarP 2) (fCons (fVarP 3) fNil))))
def r9_law : SO := gSeq s9_law r10_law
def s8_law : SO := (gMut 4 (fCons (fMk 0 Fn_Crowd___init__ (fun _ => some (.ok [.tup []]))) fNil) uApp)
def r8_law : SO := gSeq s8_law r9_law
def s7_law : SO := (gLend 4 (gFor (fIt (fVarB 4)) (hNm 6) b2_law))
def r7_law : SO := gSeq s7_law r8_law
def s6_law : SO := (gSetS 5 (fC .non))
def r6_law : SO := gSeq s6_law r7_law
def s5_law : SO := (gIf (fOr (fNot (fTst (fIsi (fVarP 4) (fC (.typ "list"))))) (fTst (fBin D.ne (fCa D.len (fCons (fVarP 4) fNil)) (fCallF Fn__law_count (fCons (fVarP 2) (fCons (fVarP 3) fNil)))))) (gRet .fresh (fC (.bl false))) gNx)
def r5_law : SO := gSeq s5_law r6_law
def s4_law : SO := (gSetF 4 (fSm (isCls 0) Fn_Crowd_every (fC (.cls 0)) (fCons (fVarP 2) (fCons (fVarP 3) fNil))))
def r4_law : SO := gSeq s4_law r5_law
def s3_law : SO := (gSetS 3 (fBin D.mod (fCa D.int1 (fCons (fBin D.add (fBin ixL (fVarP 1) (fC (.int 1))) (fC (.int 3))) fNil)) (fC (.int 7))))
def r3_law : SO := gSeq s3_law r4_law
def s2_law : SO := (gSetS 2 (fBin D.mod (fCa D.int1 (fCons (fBin D.add (fBin ixL (fVarP 1) (fC (.int 0))) (fC (.int 4))) fNil)) (fC (.int 7))))
def r2_law : SO := gSeq s2_law r3_law
def s1_law : SO := (gSetS 1 (fCallF Fn__law_draws (fCons (fCallF Fn__law_cell (fCons (fVarP 0) (fCons (fC (.int 0)) fNil))) (fCons (fC (.int 2)) fNil))))
def r1_law : SO := gSeq s1_law r2_law
def g_law : SO := r1_law
def Fn_law : List D → Option FOut := runF [.bo] 11 g_law
/-! ### what of the text is needed -/
structure Txt (G : Gm) where
  gok : GOk G
  C_Crowd : Addr
  ct_Crowd : G.ct 0 = some (C_Crowd, (["members"] : List Str))
  mg_Crowd : G.mg "Crowd" = some (.ref C_Crowd)
  m_abs : G.mg "abs" = none
  m_bool : G.mg "bool" = none
  m_int : G.mg "int" = none
  m_isinstance : G.mg "isinstance" = none
  m_len : G.mg "len" = none
  m_list : G.mg "list" = none
  m_range : G.mg "range" = none
  m_sorted : G.mg "sorted" = none
  m_tuple : G.mg "tuple" = none
  f__law_draws : Addr
  fd__law_draws : FuncData
  F__law_draws : FunD G.K "_law_draws" "_law_draws" (defArgs s__law_draws) (defBody s__law_draws) (defScope s__law_draws) [] [] f__law_draws fd__law_draws
  b__law_draws : Binds G.K fd__law_draws (["_law_cell_here", "_law_many"] : List Str) []
  g__law_draws : G.mg "_law_draws" = some (.ref f__law_draws)
  f__law_cell : Addr
  fd__law_cell : FuncData
  F__law_cell : FunD G.K "_law_cell" "_law_cell" (defArgs s__law_cell) (defBody s__law_cell) (defScope s__law_cell) [] [] f__law_cell fd__law_cell
  b__law_cell : Binds G.K fd__law_cell (["_law_script", "_law_k"] : List Str) []
  g__law_cell : G.mg "_law_cell" = some (.ref f__law_cell)
  f_Crowd___init__ : Addr
  fd_Crowd___init__ : FuncData
  t_Crowd___init___0 : Addr
  F_Crowd___init__ : FunD G.K "__init__" "Crowd.__init__" (defArgs s_Crowd___init__) (defBody s_Crowd___init__) (defScope s_Crowd___init__) [.ref t_Crowd___init___0] [] f_Crowd___init__ fd_Crowd___init__
  b_Crowd___init__ : Binds G.K fd_Crowd___init__ (["self", "locations"] : List Str) []
  f_Crowd_every : Addr
  fd_Crowd_every : FuncData
  F_Crowd_every : FunD G.K "every" "Crowd.every" (defArgs s_Crowd_every) (defBody s_Crowd_every) (defScope s_Crowd_every) [] [] f_Crowd_every fd_Crowd_every
  b_Crowd_every : Binds G.K fd_Crowd_every (["locations", "size"] : List Str) []
  f__law_count : Addr
  fd__law_count : FuncData
  F__law_count : FunD G.K "_law_count" "_law_count" (defArgs s__law_count) (defBody s__law_count) (defScope s__law_count) [] [] f__law_count fd__law_count
  b__law_count : Binds G.K fd__law_count (["_law_places", "_law_size"] : List Str) []
  g__law_count : G.mg "_law_count" = some (.ref f__law_count)
  f__law_is_integer : Addr
  fd__law_is_integer : FuncData
  F__law_is_integer : FunD G.K "_law_is_integer" "_law_is_integer" (defArgs s__law_is_integer) (defBody s__law_is_integer) (defScope s__law_is_integer) [] [] f__law_is_integer fd__law_is_integer
  b__law_is_integer : Binds G.K fd__law_is_integer (["_law_x"] : List Str) []
  g__law_is_integer : G.mg "_law_is_integer" = some (.ref f__law_is_integer)
  f_law : Addr
  fd_law : FuncData
  F_law : FunD G.K "law" "law" (defArgs s_law) (defBody s_law) (defScope s_law) [] [] f_law fd_law
  b_law : Binds G.K fd_law (["_law_script"] : List Str) []
  g_law : G.mg "law" = some (.ref f_law)
  mk_Crowd : Mk G.K C_Crowd f_Crowd___init__
  p_Crowd_every : Addr
  sm_Crowd_every : SMet G.K C_Crowd "every" p_Crowd_every f_Crowd_every
  b0_Crowd___init__ : Binds G.K fd_Crowd___init__ (["self", "locations"] : List Str) [.ref t_Crowd___init___0]
  o0_Crowd : Obj
  i0_Crowd : Array Value
  n0_Crowd : Nat
  e0_Crowd : G.K.lookup t_Crowd___init___0 = some o0_Crowd ∧ o0_Crowd.cls = .type "tuple" ∧ o0_Crowd.dict = none ∧ o0_Crowd.data = .seq i0_Crowd n0_Crowd ∧ i0_Crowd = #[]
  si_Crowd_every : SIns G.K C_Crowd "every" p_Crowd_every f_Crowd_every
/-! ### each def -/
theorem sc__law_draws : FnScope (["_law_cell_here", "_law_many", "_law_row", "_law_rest", "_law_k", "_law_once"] : List Str) (["_law_cell_here", "_law_many"] : List Str) (defScope s__law_draws) := ⟨rfl, rfl, rfl, by decide +kernel, rfl, by decide +kernel, by decide +kernel⟩
theorem jb__law_draws {G : Gm} (T : Txt G) (W : WX) : JB G 0 W (["_law_cell_here", "_law_many", "_law_row", "_law_rest", "_law_k", "_law_once"] : List Str) (defScope s__law_draws) (defBody s__law_draws) g__law_draws :=
  (jb_cons (js_setS (i := 0) rfl (by decide +kernel) (je_abs (by decide +kernel) T.m_abs (fun _ _ => rfl) (fun _ => rfl) (je_intC (by decide +kernel) T.m_int (fun _ _ => rfl) (fun _ => rfl) (je_varP (i := 0) rfl (by decide +kernel) rfl rfl))) (fun _ _ => rfl))
    (jb_cons (js_setF (i := 2) rfl (by decide +kernel) (je_lst (n := 0) ja_nil) (fun _ _ => rfl))
    (jb_cons (js_if (jt_ge (je_varP (i := 0) rfl (by decide +kernel) rfl rfl) (je_pow je_int je_int)) (jb_cons (js_setS (i := 3) rfl (by decide +kernel) (je_sub (je_varP (i := 0) rfl (by decide +kernel) rfl rfl) (je_pow je_int je_int)) (fun _ _ => rfl))
    (jb_cons (js_for (ji_rng1 (by decide +kernel) T.m_range (fun _ _ => rfl) (je_varP (i := 1) rfl (by decide +kernel) rfl rfl)) (jg_name (pgS (i := 4) rfl (by decide +kernel))) (jb_cons (js_mut (i := 2) (n := 1) slot_app ty_app mt_app lm_app rfl (by decide +kernel) rfl rfl (fun _ => rfl) (fun _ _ => rfl) (fun _ => rfl) (fun _ => ⟨rfl, rfl, rfl⟩) (ja_consS (fun _ _ => rfl) (je_mod (je_intC (by decide +kernel) T.m_int (fun _ _ => rfl) (fun _ => rfl) (je_varP (i := 3) rfl (by decide +kernel) rfl rfl)) je_int) ja_nil))
    (jb_one (js_setS (i := 3) rfl (by decide +kernel) (je_div (je_varP (i := 3) rfl (by decide +kernel) rfl rfl) je_int) (fun _ _ => rfl)))) (fun _ _ => rfl))
    (jb_one (js_retO (i := 2) rfl (by decide +kernel) rfl rfl)))) jb_nil)
    (jb_cons (js_for (ji_rng1 (by decide +kernel) T.m_range (fun _ _ => rfl) (je_varP (i := 1) rfl (by decide +kernel) rfl rfl)) (jg_name (pgS (i := 4) rfl (by decide +kernel))) (jb_cons (js_setS (i := 5) rfl (by decide +kernel) (je_mod (je_intC (by decide +kernel) T.m_int (fun _ _ => rfl) (fun _ => rfl) (je_add (je_add (je_mul (je_varP (i := 0) rfl (by decide +kernel) rfl rfl) je_int).pk_of_fresh (je_mul (je_varP (i := 4) rfl (by decide +kernel) rfl rfl) je_int).pk_of_fresh).pk_of_fresh je_int).pk_of_fresh) je_int) (fun _ _ => rfl))
    (jb_one (js_mut (i := 2) (n := 1) slot_app ty_app mt_app lm_app rfl (by decide +kernel) rfl rfl (fun _ => rfl) (fun _ _ => rfl) (fun _ => rfl) (fun _ => ⟨rfl, rfl, rfl⟩) (ja_consS (fun _ _ => rfl) (je_mod (je_intC (by decide +kernel) T.m_int (fun _ _ => rfl) (fun _ => rfl) (je_add (je_add (je_mul (je_varP (i := 5) rfl (by decide +kernel) rfl rfl) (je_varP (i := 5) rfl (by decide +kernel) rfl rfl)).pk_of_fresh (je_mul (je_varP (i := 4) rfl (by decide +kernel) rfl rfl) je_int).pk_of_fresh).pk_of_fresh (je_varP (i := 0) rfl (by decide +kernel) rfl rfl)).pk_of_fresh) je_int) ja_nil)))) (fun _ _ => rfl))
    (jb_one (js_retO (i := 2) rfl (by decide +kernel) rfl rfl))))))
theorem ok__law_draws {G : Gm} (T : Txt G) : FnG G 1 T.f__law_draws T.fd__law_draws (["_law_cell_here", "_law_many"] : List Str) [.bo, .bo] Fn__law_draws := fn_okD T.F__law_draws sc__law_draws rfl (by decide) (jb__law_draws T)
theorem sc__law_cell : FnScope (["_law_script", "_law_k"] : List Str) (["_law_script", "_law_k"] : List Str) (defScope s__law_cell) := ⟨rfl, rfl, rfl, by decide +kernel, rfl, by decide +kernel, by decide +kernel⟩
theorem jb__law_cell {G : Gm} (T : Txt G) (W : WX) : JB G 0 W (["_law_script", "_law_k"] : List Str) (defScope s__law_cell) (defBody s__law_cell) g__law_cell :=
  (jb_cons (js_if (jt_lt (je_varP (i := 1) rfl (by decide +kernel) rfl rfl) (je_len (by decide +kernel) T.m_len (fun _ _ => rfl) (fun _ => rfl) (je_varP (i := 0) rfl (by decide +kernel) rfl rfl))) (jb_one (js_retF (je_intC (by decide +kernel) T.m_int (fun _ _ => rfl) (fun _ => rfl) (je_ix (je_varP (i := 0) rfl (by decide +kernel) rfl rfl) (je_varP (i := 1) rfl (by decide +kernel) rfl rfl) (fun _ _ => rfl)).pk_of_sh))) jb_nil)
    (jb_one (js_retF je_int)))
theorem ok__law_cell {G : Gm} (T : Txt G) : FnG G 1 T.f__law_cell T.fd__law_cell (["_law_script", "_law_k"] : List Str) [.bo, .bo] Fn__law_cell := fn_okD T.F__law_cell sc__law_cell rfl (by decide) (jb__law_cell T)
theorem sc_Crowd___init__ : FnScope (["self", "locations", "location"] : List Str) (["self", "locations"] : List Str) (defScope s_Crowd___init__) := ⟨rfl, rfl, rfl, by decide +kernel, rfl, by decide +kernel, by decide +kernel⟩
theorem jb_Crowd___init__ {G : Gm} (T : Txt G) (W : WX) : JB G 0 W (["self", "locations", "location"] : List Str) (defScope s_Crowd___init__) (defBody s_Crowd___init__) g_Crowd___init__ :=
  (jb_cons (js_for (ji_sq (je_varB (i := 1) rfl (by decide +kernel) rfl rfl)) (jg_name (pgS (i := 2) rfl (by decide +kernel))) (jb_one (js_if (jt_lt (je_varP (i := 2) rfl (by decide +kernel) rfl rfl) je_int) (jb_one js_dead) jb_nil)) (fun _ _ => rfl))
    (jb_one (js_fld T.gok (c := 0) (i := 0) (sl := 0) T.ct_Crowd (by decide) rfl rfl (by decide +kernel) rfl rfl (fun _ _ => rfl) (je_tupl (by decide +kernel) T.m_tuple (fun _ _ => rfl) (fun _ => rfl) (je_sorted (by decide +kernel) T.m_sorted (fun _ _ => rfl) (fun _ => rfl) (je_lc (own := [("location", 2)]) (by decide +kernel) (by decide) (ji_sq (je_varB (i := 1) rfl (by decide +kernel) rfl rfl)) (jg_name (pgE (i := 2) rfl (by decide +kernel))) jts_nil (je_intC (by decide +kernel) T.m_int (fun _ _ => rfl) (fun _ => rfl) (je_varP (i := 2) rfl (by decide +kernel) rfl rfl)) (fun _ _ => rfl)).pk_of_fresh).pk_of_fresh))))
theorem ok_Crowd___init__ {G : Gm} (T : Txt G) : FnG G 1 T.f_Crowd___init__ T.fd_Crowd___init__ (["self", "locations"] : List Str) [.mu, .bo] Fn_Crowd___init__ := fn_okD T.F_Crowd___init__ sc_Crowd___init__ rfl (by decide) (jb_Crowd___init__ T)
theorem sc_Crowd_every : FnScope (["locations", "size", "rows", "turn", "row", "location"] : List Str) (["locations", "size"] : List Str) (defScope s_Crowd_every) := ⟨rfl, rfl, rfl, by decide +kernel, rfl, by decide +kernel, by decide +kernel⟩
theorem jb_Crowd_every {G : Gm} (T : Txt G) (W : WX) : JB G 2 W (["locations", "size", "rows", "turn", "row", "location"] : List Str) (defScope s_Crowd_every) (defBody s_Crowd_every) g_Crowd_every :=
  (jb_cons (js_setS (i := 2) rfl (by decide +kernel) (je_lst (n := 1) (ja_consS (fun _ _ => rfl) (je_tup (n := 0) ja_nil) ja_nil)).sh_of_fresh (fun _ _ => rfl))
    (jb_cons (js_for (ji_rng1 (by decide +kernel) T.m_range (fun _ _ => rfl) (je_varP (i := 1) rfl (by decide +kernel) rfl rfl)) (jg_name (pgS (i := 3) rfl (by decide +kernel))) (jb_one (js_frz 2 (js_setLc2 (i := 2) (own := [("row", 4), ("location", 5)]) (vs1 := [5]) rfl (by decide +kernel) rfl (by decide +kernel) rfl (by decide +kernel) (by decide) (by decide) (by decide) (ji_sq (je_varB (i := 2) rfl (by decide +kernel) rfl rfl)) (jg_name (pgE (i := 4) rfl (by decide +kernel))) jts_nil (ji_rng1 (by decide +kernel) T.m_range (fun _ _ => rfl) (je_varP (i := 0) rfl (by decide +kernel) rfl rfl)) (jg_name (pgE (i := 5) rfl (by decide +kernel))) (jts_one (jw_or (jt_eq (je_varP (i := 4) rfl (by decide +kernel) rfl rfl) (je_tup (n := 0) ja_nil)) (jw_or1 (jt_le (je_ix (je_varP (i := 4) rfl (by decide +kernel) rfl rfl) (je_neg je_int) (fun _ _ => rfl)).pk_of_sh (je_varP (i := 5) rfl (by decide +kernel) rfl rfl)))).jt) (je_add (je_varP (i := 4) rfl (by decide +kernel) rfl rfl) (je_tup (n := 1) (ja_consS (fun _ _ => rfl) (je_varS (i := 5) rfl (by decide +kernel) rfl rfl) ja_nil))).sh_of_fresh (fun _ _ => rfl) (fun _ _ => rfl)))) (fun _ _ => rfl))
    (jb_one (js_lend 2 (js_retF (je_lc (own := [("row", 4)]) (by decide +kernel) (by decide) (ji_sq (je_varB (i := 2) rfl (by decide +kernel) rfl rfl)) (jg_name (pgE (i := 4) rfl (by decide +kernel))) jts_nil (je_mk (c := 0) T.ct_Crowd T.mk_Crowd (ok_Crowd___init__ T) (by decide) rfl (by decide +kernel) T.mg_Crowd T.b_Crowd___init__ rfl (fun _ _ => rfl) (fun _ => rfl) (ja_consP (fun _ _ => rfl) (je_varP (i := 4) rfl (by decide +kernel) rfl rfl) ja_nil)).sh_of_fresh (fun _ _ => rfl)))))))
theorem ok_Crowd_every {G : Gm} (T : Txt G) : FnG G 3 T.f_Crowd_every T.fd_Crowd_every (["locations", "size"] : List Str) [.bo, .bo] Fn_Crowd_every := fn_okD T.F_Crowd_every sc_Crowd_every rfl (by decide) (jb_Crowd_every T)
theorem sc__law_count : FnScope (["_law_places", "_law_size", "_law_ways", "_law_place", "_law_k"] : List Str) (["_law_places", "_law_size"] : List Str) (defScope s__law_count) := ⟨rfl, rfl, rfl, by decide +kernel, rfl, by decide +kernel, by decide +kernel⟩
theorem jb__law_count {G : Gm} (T : Txt G) (W : WX) : JB G 0 W (["_law_places", "_law_size", "_law_ways", "_law_place", "_law_k"] : List Str) (defScope s__law_count) (defBody s__law_count) g__law_count :=
  (jb_cons (js_setF (i := 2) rfl (by decide +kernel) (je_add (je_lst (n := 1) (ja_consS (fun _ _ => rfl) je_int ja_nil)).pk_of_fresh (je_mul (je_lst (n := 1) (ja_consS (fun _ _ => rfl) je_int ja_nil)).pk_of_fresh (je_varP (i := 1) rfl (by decide +kernel) rfl rfl)).pk_of_fresh) (fun _ _ => rfl))
    (jb_cons (js_for (ji_rng1 (by decide +kernel) T.m_range (fun _ _ => rfl) (je_varP (i := 0) rfl (by decide +kernel) rfl rfl)) (jg_name (pgS (i := 3) rfl (by decide +kernel))) (jb_one (js_for (ji_rng1 (by decide +kernel) T.m_range (fun _ _ => rfl) (je_varP (i := 1) rfl (by decide +kernel) rfl rfl)) (jg_name (pgS (i := 4) rfl (by decide +kernel))) (jb_one (js_setix (s := 2) rfl (by decide +kernel) rfl rfl (fun _ _ => ⟨fun _ => rfl, rfl, rfl, rfl⟩) (je_add (je_ix (je_varP (i := 2) rfl (by decide +kernel) rfl rfl) (je_add (je_varP (i := 4) rfl (by decide +kernel) rfl rfl) je_int).pk_of_fresh (fun _ _ => rfl)).pk_of_sh (je_ix (je_varP (i := 2) rfl (by decide +kernel) rfl rfl) (je_varP (i := 4) rfl (by decide +kernel) rfl rfl) (fun _ _ => rfl)).pk_of_sh).sh_of_fresh (je_add (je_varP (i := 4) rfl (by decide +kernel) rfl rfl) je_int).pk_of_fresh)) (fun _ _ => rfl))) (fun _ _ => rfl))
    (jb_one (js_retS (je_ix (je_varP (i := 2) rfl (by decide +kernel) rfl rfl) (je_varP (i := 1) rfl (by decide +kernel) rfl rfl) (fun _ _ => rfl))))))
theorem ok__law_count {G : Gm} (T : Txt G) : FnG G 1 T.f__law_count T.fd__law_count (["_law_places", "_law_size"] : List Str) [.bo, .bo] Fn__law_count := fn_okD T.F__law_count sc__law_count rfl (by decide) (jb__law_count T)
theorem sc__law_is_integer : FnScope (["_law_x"] : List Str) (["_law_x"] : List Str) (defScope s__law_is_integer) := ⟨rfl, rfl, rfl, by decide +kernel, rfl, by decide +kernel, by decide +kernel⟩
theorem jb__law_is_integer {G : Gm} (T : Txt G) (W : WX) : JB G 0 W (["_law_x"] : List Str) (defScope s__law_is_integer) (defBody s__law_is_integer) g__law_is_integer :=
  (jb_one (js_retF (je_and (je_isi T.gok (by decide +kernel) T.m_isinstance (fun _ _ => rfl) (fun _ _ => rfl) (fun _ => rfl) (je_varP (i := 0) rfl (by decide +kernel) rfl rfl) (je_typ (n := "int") (by decide +kernel) T.m_int boot_int (by decide) rfl)) (je_one (je_not (je_isi T.gok (by decide +kernel) T.m_isinstance (fun _ _ => rfl) (fun _ _ => rfl) (fun _ => rfl) (je_varP (i := 0) rfl (by decide +kernel) rfl rfl) (je_typ (n := "bool") (by decide +kernel) T.m_bool boot_bool (by decide) rfl)))))))
theorem ok__law_is_integer {G : Gm} (T : Txt G) : FnG G 1 T.f__law_is_integer T.fd__law_is_integer (["_law_x"] : List Str) [.bo] Fn__law_is_integer := fn_okD T.F__law_is_integer sc__law_is_integer rfl (by decide) (jb__law_is_integer T)
theorem sc_law : FnScope (["_law_script", "_law_draws_here", "_law_places", "_law_size", "_law_found", "_law_last", "_law_bag", "_law_row", "_law_k", "_law_again", "_law_other"] : List Str) (["_law_script"] : List Str) (defScope s_law) := ⟨rfl, rfl, rfl, by decide +kernel, rfl, by decide +kernel, by decide +kernel⟩
theorem jb_law {G : Gm} (T : Txt G) (W : WX) : JB G 3 W (["_law_script", "_law_draws_here", "_law_places", "_law_size", "_law_found", "_law_last", "_law_bag", "_law_row", "_law_k", "_law_again", "_law_other"] : List Str) (defScope s_law) (defBody s_law) g_law :=
  (jb_cons (js_setS (i := 1) rfl (by decide +kernel) (je_callF (ok__law_draws T) (by decide) rfl (by decide +kernel) T.g__law_draws T.F__law_draws.kp T.b__law_draws rfl (fun _ _ => rfl) (fun _ => rfl) (ja_consP (fun _ _ => rfl) (je_callF (ok__law_cell T) (by decide) rfl (by decide +kernel) T.g__law_cell T.F__law_cell.kp T.b__law_cell rfl (fun _ _ => rfl) (fun _ => rfl) (ja_consP (fun _ _ => rfl) (je_varP (i := 0) rfl (by decide +kernel) rfl rfl) (ja_consP (fun _ _ => rfl) je_int ja_nil))).pk_of_fresh (ja_consP (fun _ _ => rfl) je_int ja_nil))).sh_of_fresh (fun _ _ => rfl))
    (jb_cons (js_setS (i := 2) rfl (by decide +kernel) (je_mod (je_intC (by decide +kernel) T.m_int (fun _ _ => rfl) (fun _ => rfl) (je_add (je_ix (je_varP (i := 1) rfl (by decide +kernel) rfl rfl) je_int (fun _ _ => rfl)).pk_of_sh je_int).pk_of_fresh) je_int) (fun _ _ => rfl))
    (jb_cons (js_setS (i := 3) rfl (by decide +kernel) (je_mod (je_intC (by decide +kernel) T.m_int (fun _ _ => rfl) (fun _ => rfl) (je_add (je_ix (je_varP (i := 1) rfl (by decide +kernel) rfl rfl) je_int (fun _ _ => rfl)).pk_of_sh je_int).pk_of_fresh) je_int) (fun _ _ => rfl))
    (jb_cons (js_setF (i := 4) rfl (by decide +kernel) (je_smF (c := 0) T.ct_Crowd T.sm_Crowd_every (ok_Crowd_every T) (by decide) rfl T.b_Crowd_every (fun _ _ => rfl) (fun _ => rfl) (fun _ => rfl) (je_cls (i := 0) (by decide +kernel) T.mg_Crowd T.ct_Crowd rfl) (ja_consP (fun _ _ => rfl) (je_varP (i := 2) rfl (by decide +kernel) rfl rfl) (ja_consP (fun _ _ => rfl) (je_varP (i := 3) rfl (by decide +kernel) rfl rfl) ja_nil))) (fun _ _ => rfl))
    (jb_cons (js_if (jw_or (jt_not (jt_val (je_isi T.gok (by decide +kernel) T.m_isinstance (fun _ _ => rfl) (fun _ _ => rfl) (fun _ => rfl) (je_varP (i := 4) rfl (by decide +kernel) rfl rfl) (je_typ (n := "list") (by decide +kernel) T.m_list boot_list (by decide) rfl)) (fun _ _ => rfl))) (jw_or1 (jt_ne (je_len (by decide +kernel) T.m_len (fun _ _ => rfl) (fun _ => rfl) (je_varP (i := 4) rfl (by decide +kernel) rfl rfl)) (je_callF (ok__law_count T) (by decide) rfl (by decide +kernel) T.g__law_count T.F__law_count.kp T.b__law_count rfl (fun _ _ => rfl) (fun _ => rfl) (ja_consP (fun _ _ => rfl) (je_varP (i := 2) rfl (by decide +kernel) rfl rfl) (ja_consP (fun _ _ => rfl) (je_varP (i := 3) rfl (by decide +kernel) rfl rfl) ja_nil))).pk_of_fresh))).jt (jb_one (js_retF je_bl)) jb_nil)
    (jb_cons (js_setS (i := 5) rfl (by decide +kernel) je_non (fun _ _ => rfl))
    (jb_cons (js_lend 4 (js_for (ji_sq (je_varB (i := 4) rfl (by decide +kernel) rfl rfl)) (jg_name (pgS (i := 6) rfl (by decide +kernel))) (jb_cons (js_if (jw_or (jt_not (jt_val (je_isi T.gok (by decide +kernel) T.m_isinstance (fun _ _ => rfl) (fun _ _ => rfl) (fun _ => rfl) (je_varP (i := 6) rfl (by decide +kernel) rfl rfl) (je_cls (i := 0) (by decide +kernel) T.mg_Crowd T.ct_Crowd rfl)) (fun _ _ => rfl))) (jw_or (jt_not (jt_val (je_isi T.gok (by decide +kernel) T.m_isinstance (fun _ _ => rfl) (fun _ _ => rfl) (fun _ => rfl) (je_fld T.gok (c := 0) (i := 0) T.ct_Crowd (by decide) rfl (fun _ => rfl) (je_varP (i := 6) rfl (by decide +kernel) rfl rfl)).pk_of_sh (je_typ (n := "tuple") (by decide +kernel) T.m_tuple boot_tuple (by decide) rfl)) (fun _ _ => rfl))) (jw_or1 (jt_ne (je_len (by decide +kernel) T.m_len (fun _ _ => rfl) (fun _ => rfl) (je_fld T.gok (c := 0) (i := 0) T.ct_Crowd (by decide) rfl (fun _ => rfl) (je_varP (i := 6) rfl (by decide +kernel) rfl rfl)).pk_of_sh) (je_varP (i := 3) rfl (by decide +kernel) rfl rfl))))).jt (jb_one (js_retF je_bl)) jb_nil)
    (jb_cons (js_setS (i := 7) rfl (by decide +kernel) (je_fld T.gok (c := 0) (i := 0) T.ct_Crowd (by decide) rfl (fun _ => rfl) (je_varP (i := 6) rfl (by decide +kernel) rfl rfl)) (fun _ _ => rfl))
    (jb_cons (js_for (ji_rng1 (by decide +kernel) T.m_range (fun _ _ => rfl) (je_varP (i := 3) rfl (by decide +kernel) rfl rfl)) (jg_name (pgS (i := 8) rfl (by decide +kernel))) (jb_one (js_if (jw_or (jt_not (jt_val (je_callF (ok__law_is_integer T) (by decide) rfl (by decide +kernel) T.g__law_is_integer T.F__law_is_integer.kp T.b__law_is_integer rfl (fun _ _ => rfl) (fun _ => rfl) (ja_consP (fun _ _ => rfl) (je_ix (je_varP (i := 7) rfl (by decide +kernel) rfl rfl) (je_varP (i := 8) rfl (by decide +kernel) rfl rfl) (fun _ _ => rfl)).pk_of_sh ja_nil)).pk_of_fresh (fun _ _ => rfl))) (jw_or (jt_lt (je_ix (je_varP (i := 7) rfl (by decide +kernel) rfl rfl) (je_varP (i := 8) rfl (by decide +kernel) rfl rfl) (fun _ _ => rfl)).pk_of_sh je_int) (jw_or (jt_ge (je_ix (je_varP (i := 7) rfl (by decide +kernel) rfl rfl) (je_varP (i := 8) rfl (by decide +kernel) rfl rfl) (fun _ _ => rfl)).pk_of_sh (je_varP (i := 2) rfl (by decide +kernel) rfl rfl)) (jw_or1 (jw_and (jt_gt (je_varP (i := 8) rfl (by decide +kernel) rfl rfl) je_int) (jw_and1 (jt_gt (je_ix (je_varP (i := 7) rfl (by decide +kernel) rfl rfl) (je_sub (je_varP (i := 8) rfl (by decide +kernel) rfl rfl) je_int) (fun _ _ => rfl)).pk_of_sh (je_ix (je_varP (i := 7) rfl (by decide +kernel) rfl rfl) (je_varP (i := 8) rfl (by decide +kernel) rfl rfl) (fun _ _ => rfl)).pk_of_sh))).jt)))).jt (jb_one (js_retF je_bl)) jb_nil)) (fun _ _ => rfl))
    (jb_cons (js_if (jw_and (jt_isNot (je_varP (i := 5) rfl (by decide +kernel) rfl rfl) je_non) (jw_and1 (jt_not (jt_lt (je_varP (i := 5) rfl (by decide +kernel) rfl rfl) (je_varP (i := 7) rfl (by decide +kernel) rfl rfl))))).jt (jb_one (js_retF je_bl)) jb_nil)
    (jb_one (js_setS (i := 5) rfl (by decide +kernel) (je_varS (i := 7) rfl (by decide +kernel) rfl rfl) (fun _ _ => rfl))))))) (fun _ _ => rfl)))
    (jb_cons (js_mut (i := 4) (n := 1) slot_app ty_app mt_app lm_app rfl (by decide +kernel) rfl rfl (fun _ => rfl) (fun _ _ => rfl) (fun _ => rfl) (fun _ => ⟨rfl, rfl, rfl⟩) (ja_consS (fun _ _ => rfl) (je_mk0 (c := 0) T.ct_Crowd T.mk_Crowd (ok_Crowd___init__ T) (by decide) (by decide +kernel) T.mg_Crowd T.b0_Crowd___init__ T.e0_Crowd.1 T.e0_Crowd.2.1 T.e0_Crowd.2.2.1 T.e0_Crowd.2.2.2.1 T.e0_Crowd.2.2.2.2 rfl).sh_of_fresh ja_nil))
    (jb_cons (js_setS (i := 9) rfl (by decide +kernel) (je_smF (c := 0) T.ct_Crowd T.sm_Crowd_every (ok_Crowd_every T) (by decide) rfl T.b_Crowd_every (fun _ _ => rfl) (fun _ => rfl) (fun _ => rfl) (je_cls (i := 0) (by decide +kernel) T.mg_Crowd T.ct_Crowd rfl) (ja_consP (fun _ _ => rfl) (je_varP (i := 2) rfl (by decide +kernel) rfl rfl) (ja_consP (fun _ _ => rfl) (je_varP (i := 3) rfl (by decide +kernel) rfl rfl) ja_nil))).sh_of_fresh (fun _ _ => rfl))
    (jb_cons (js_setS (i := 10) rfl (by decide +kernel) (je_smIF (c := 0) T.ct_Crowd T.si_Crowd_every (ok_Crowd_every T) (by decide) rfl (by decide) T.b_Crowd_every (fun _ _ => rfl) (fun _ => rfl) (fun _ => rfl) (je_mk (c := 0) T.ct_Crowd T.mk_Crowd (ok_Crowd___init__ T) (by decide) rfl (by decide +kernel) T.mg_Crowd T.b_Crowd___init__ rfl (fun _ _ => rfl) (fun _ => rfl) (ja_consP (fun _ _ => rfl) (je_lst (n := 2) (ja_consS (fun _ _ => rfl) (je_varS (i := 2) rfl (by decide +kernel) rfl rfl) (ja_consS (fun _ _ => rfl) (je_varS (i := 3) rfl (by decide +kernel) rfl rfl) ja_nil))).pk_of_fresh ja_nil)).pk_of_fresh (ja_consP (fun _ _ => rfl) (je_varP (i := 2) rfl (by decide +kernel) rfl rfl) (ja_consP (fun _ _ => rfl) (je_varP (i := 3) rfl (by decide +kernel) rfl rfl) ja_nil))).sh_of_fresh (fun _ _ => rfl))
    (jb_one (js_retF (je_and (je_eq (je_len (by decide +kernel) T.m_len (fun _ _ => rfl) (fun _ => rfl) (je_varP (i := 9) rfl (by decide +kernel) rfl rfl)) (je_sub (je_len (by decide +kernel) T.m_len (fun _ _ => rfl) (fun _ => rfl) (je_varP (i := 4) rfl (by decide +kernel) rfl rfl)) je_int)) (je_and (je_isi T.gok (by decide +kernel) T.m_isinstance (fun _ _ => rfl) (fun _ _ => rfl) (fun _ => rfl) (je_varP (i := 10) rfl (by decide +kernel) rfl rfl) (je_typ (n := "list") (by decide +kernel) T.m_list boot_list (by decide) rfl)) (je_one (je_eq (je_lc (own := [("_law_bag", 6)]) (by decide +kernel) (by decide) (ji_sq (je_varB (i := 10) rfl (by decide +kernel) rfl rfl)) (jg_name (pgE (i := 6) rfl (by decide +kernel))) jts_nil (je_fld T.gok (c := 0) (i := 0) T.ct_Crowd (by decide) rfl (fun _ => rfl) (je_varP (i := 6) rfl (by decide +kernel) rfl rfl)) (fun _ _ => rfl)).pk_of_fresh (je_lc (own := [("_law_bag", 6)]) (by decide +kernel) (by decide) (ji_sq (je_varB (i := 9) rfl (by decide +kernel) rfl rfl)) (jg_name (pgE (i := 6) rfl (by decide +kernel))) jts_nil (je_fld T.gok (c := 0) (i := 0) T.ct_Crowd (by decide) rfl (fun _ => rfl) (je_varP (i := 6) rfl (by decide +kernel) rfl rfl)) (fun _ _ => rfl)).pk_of_fresh))))))))))))))))
theorem ok_law {G : Gm} (T : Txt G) : FnG G 4 T.f_law T.fd_law (["_law_script"] : List Str) [.bo] Fn_law := fn_okD T.F_law sc_law rfl (by decide) (jb_law T)
end DL

namespace DL
open PySem PySem.Spec L2
/-! ### the draws -/
theorem draws_l1 (a m : Int) (hm : 0 ≤ m) (hm2 : m ≤ 1000) (r : Int) : ∃ l : List Int, l.length = m.toNat ∧ (∀ x ∈ l, 0 ≤ x ∧ x < 1000) ∧ ∃ q3 q4, loopG (hNm 4) b1__law_draws (rngD 0 m) [.sh (.int a), .bo (.int m), .ow (.lst []), .sh (.int r), .un, .un] = some (.nx [.sh (.int a), .bo (.int m), .ow (.lst (l.map D.int)), q3, q4, .un]) := by
  obtain ⟨ρ', e, l, r, q4, h1, h2, h3, _⟩ := loop_inv0 (h := hNm 4) (g := b1__law_draws) (fun i ρ => ∃ (l : List Int) (r : Int) (q4 : Sl), ρ = [.sh (.int a), .bo (.int m), .ow (.lst (l.map D.int)), .sh (.int r), q4, .un] ∧ l.length = i ∧ (∀ x ∈ l, 0 ≤ x ∧ x < 1000) ∧ (q4 = .un ∨ ∃ d, q4 = .sh d))
    (rngD 0 m) _ ⟨[], r, .un, rfl, rfl, by simp, .inl rfl⟩ (by
      rintro i d ρ hi ⟨l, r, q4, rfl, hl, hx, hq⟩
      obtain ⟨rfl, hi2⟩ := rngD_at hi
      refine ⟨[.sh (.int a), .bo (.int m), .ow (.lst (l.map D.int)), .sh (.int r), .sh (.int (0 + i)), .un], [.sh (.int a), .bo (.int m), .ow (.lst ((l ++ [r % 1000]).map D.int)), .sh (.int (r / 1000)), .sh (.int (0 + i)), .un], ?_, .inl ?_, l ++ [r % 1000], _, _, rfl, by simp [hl], ?_, .inr ⟨_, rfl⟩⟩
      · rcases hq with rfl | ⟨d, rfl⟩ <;> simp [runF, gSeq, gSetS, gSetF, gBnd, gIf, gFor, gRet, gRetO, gRetN, gNx, gMut, gDrop, gOn, gSetIx, gFrz, gLend, frz, fCa, fCons, fNil, fC, M.bnd, fVarP, fVarS, fVarB, fBin, fUn, fTst, fAnd, fOr, fNot, fAndV, fOrV, fNotV, fIf, fLst, fTup, fIt, fRng, fYes, up1, isBl, gPut, put, rho0, outB, musE, Kd.fr, mkOw, D.isMut, hNm, onSlot, onL, isOwL, uApp, abs_i, int_i, D.len, D.list, D.tupl, rng1, rng2, add_ii, sub_ii, mod_ii, div_ii, mul_ia, mul_ib, pow1018, lt_ii, le_ii, gt_ii, ge_ii, neg_i, D.isN, D.isNot, isNn, ixL, items_l, items_t, LIM, unLn, Out.upE, fCallF, outF]
      · have : l.length < 16000000 := by omega
        simp [runF, gSeq, gSetS, gSetF, gBnd, gIf, gFor, gRet, gRetO, gRetN, gNx, gMut, gDrop, gOn, gSetIx, gFrz, gLend, frz, fCa, fCons, fNil, fC, M.bnd, fVarP, fVarS, fVarB, fBin, fUn, fTst, fAnd, fOr, fNot, fAndV, fOrV, fNotV, fIf, fLst, fTup, fIt, fRng, fYes, up1, isBl, gPut, put, rho0, outB, musE, Kd.fr, mkOw, D.isMut, hNm, onSlot, onL, isOwL, uApp, abs_i, int_i, D.len, D.list, D.tupl, rng1, rng2, add_ii, sub_ii, mod_ii, div_ii, mul_ia, mul_ib, pow1018, lt_ii, le_ii, gt_ii, ge_ii, neg_i, D.isN, D.isNot, isNn, ixL, items_l, items_t, LIM, unLn, Out.upE, fCallF, outF, b1__law_draws, this]
      · intro x hxx
        rcases List.mem_append.mp hxx with h | h
        · exact hx x h
        · obtain rfl := List.mem_singleton.mp h
          exact ⟨Int.emod_nonneg _ (by decide), Int.emod_lt_of_pos _ (by decide)⟩)
  rw [rngD_len, show m - 0 = m by omega] at h2
  subst h1
  exact ⟨l, h2, h3, _, q4, e⟩
theorem draws_l2 (a m : Int) (hm : 0 ≤ m) (hm2 : m ≤ 1000) : ∃ l : List Int, l.length = m.toNat ∧ (∀ x ∈ l, 0 ≤ x ∧ x < 1000) ∧ ∃ q4 q5, loopG (hNm 4) b2__law_draws (rngD 0 m) [.sh (.int a), .bo (.int m), .ow (.lst []), .un, .un, .un] = some (.nx [.sh (.int a), .bo (.int m), .ow (.lst (l.map D.int)), .un, q4, q5]) := by
  obtain ⟨ρ', e, l, q4, q5, h1, h2, h3, _⟩ := loop_inv0 (h := hNm 4) (g := b2__law_draws) (fun i ρ => ∃ (l : List Int) (q4 q5 : Sl), ρ = [.sh (.int a), .bo (.int m), .ow (.lst (l.map D.int)), .un, q4, q5] ∧ l.length = i ∧ (∀ x ∈ l, 0 ≤ x ∧ x < 1000) ∧ (q4 = .un ∨ ∃ d, q4 = .sh d) ∧ (q5 = .un ∨ ∃ d, q5 = .sh d))
    (rngD 0 m) _ ⟨[], .un, .un, rfl, rfl, by simp, .inl rfl, .inl rfl⟩ (by
      rintro i d ρ hi ⟨l, q4, q5, rfl, hl, hx, hq, hq5⟩
      obtain ⟨ed, hi2⟩ := rngD_at hi
      obtain ⟨y, hy⟩ : ∃ y : Int, y = 0 + (i : Int) := ⟨_, rfl⟩
      rw [← hy] at ed
      subst ed
      obtain ⟨o, ho⟩ : ∃ o : Int, o = (a * 7919 + y * 131 + 7) % 1009 := ⟨_, rfl⟩
      have o1 : 0 ≤ o := by rw [ho]; exact Int.emod_nonneg _ (by decide)
      have o2 : o < 1009 := by rw [ho]; exact Int.emod_lt_of_pos _ (by decide)
      refine ⟨[.sh (.int a), .bo (.int m), .ow (.lst (l.map D.int)), .un, .sh (.int y), q5], [.sh (.int a), .bo (.int m), .ow (.lst ((l ++ [(o * o + y * 17 + a) % 997]).map D.int)), .un, .sh (.int y), .sh (.int o)], ?_, .inl ?_, l ++ [(o * o + y * 17 + a) % 997], _, _, rfl, by simp [hl], ?_, .inr ⟨_, rfl⟩, .inr ⟨_, rfl⟩⟩
      · rcases hq with rfl | ⟨d, rfl⟩ <;> simp [runF, gSeq, gSetS, gSetF, gBnd, gIf, gFor, gRet, gRetO, gRetN, gNx, gMut, gDrop, gOn, gSetIx, gFrz, gLend, frz, fCa, fCons, fNil, fC, M.bnd, fVarP, fVarS, fVarB, fBin, fUn, fTst, fAnd, fOr, fNot, fAndV, fOrV, fNotV, fIf, fLst, fTup, fIt, fRng, fYes, up1, isBl, gPut, put, rho0, outB, musE, Kd.fr, mkOw, D.isMut, hNm, onSlot, onL, isOwL, uApp, abs_i, int_i, D.len, D.list, D.tupl, rng1, rng2, add_ii, sub_ii, mod_ii, div_ii, mul_ia, mul_ib, pow1018, lt_ii, le_ii, gt_ii, ge_ii, neg_i, D.isN, D.isNot, isNn, ixL, items_l, items_t, LIM, unLn, Out.upE, fCallF, outF]
      · have h1 : l.length < 16000000 := by omega
        have h6 : -18446744073709551616 < o := by omega
        have h7 : o < 18446744073709551616 := by omega
        refine (gSeq_nx (ρ' := [.sh (.int a), .bo (.int m), .ow (.lst (l.map D.int)), .un, .sh (.int y), .sh (.int o)]) ?_).trans ?_
        · rcases hq5 with rfl | ⟨d, rfl⟩ <;> (simp [runF, gSeq, gSetS, gSetF, gBnd, gIf, gFor, gRet, gRetO, gRetN, gNx, gMut, gDrop, gOn, gSetIx, gFrz, gLend, frz, fCa, fCons, fNil, fC, M.bnd, fVarP, fVarS, fVarB, fBin, fUn, fTst, fAnd, fOr, fNot, fAndV, fOrV, fNotV, fIf, fLst, fTup, fIt, fRng, fYes, up1, isBl, gPut, put, rho0, outB, musE, Kd.fr, mkOw, D.isMut, hNm, onSlot, onL, isOwL, uApp, abs_i, int_i, D.len, D.list, D.tupl, rng1, rng2, add_ii, sub_ii, mod_ii, div_ii, mul_ia, mul_ib, pow1018, lt_ii, le_ii, gt_ii, ge_ii, neg_i, D.isN, D.isNot, isNn, ixL, items_l, items_t, LIM, unLn, Out.upE, fCallF, outF]; exact ho.symm)
        · simp [runF, gSeq, gSetS, gSetF, gBnd, gIf, gFor, gRet, gRetO, gRetN, gNx, gMut, gDrop, gOn, gSetIx, gFrz, gLend, frz, fCa, fCons, fNil, fC, M.bnd, fVarP, fVarS, fVarB, fBin, fUn, fTst, fAnd, fOr, fNot, fAndV, fOrV, fNotV, fIf, fLst, fTup, fIt, fRng, fYes, up1, isBl, gPut, put, rho0, outB, musE, Kd.fr, mkOw, D.isMut, hNm, onSlot, onL, isOwL, uApp, abs_i, int_i, D.len, D.list, D.tupl, rng1, rng2, add_ii, sub_ii, mod_ii, div_ii, mul_ia, mul_ib, pow1018, lt_ii, le_ii, gt_ii, ge_ii, neg_i, D.isN, D.isNot, isNn, ixL, items_l, items_t, LIM, unLn, Out.upE, fCallF, outF, h1, h6, h7]
      · intro x hxx
        rcases List.mem_append.mp hxx with h | h
        · exact hx x h
        · obtain rfl := List.mem_singleton.mp h
          have := Int.emod_nonneg (o * o + y * 17 + a) (show (997 : Int) ≠ 0 by decide)
          have := Int.emod_lt_of_pos (o * o + y * 17 + a) (show (0 : Int) < 997 by decide)
          omega)
  rw [rngD_len, show m - 0 = m by omega] at h2
  subst h1
  exact ⟨l, h2, h3, q4, q5, e⟩
theorem draws_ok (c m : Int) (hm : 0 ≤ m) (hm2 : m ≤ 1000) : ∃ l : List Int, l.length = m.toNat ∧ (∀ x ∈ l, 0 ≤ x ∧ x < 1000) ∧ Fn__law_draws [.int c, .int m] = some (.ret true (.lst (l.map D.int)) []) := by
  have hr : -16000000 ≤ m ∧ m ≤ 16000000 := by omega
  obtain ⟨a, ha⟩ : ∃ a : Int, a = if c < 0 then -c else c := ⟨_, rfl⟩
  have e12 : r1__law_draws [.bo (.int c), .bo (.int m), .un, .un, .un, .un] = r3__law_draws [.sh (.int a), .bo (.int m), .ow (.lst []), .un, .un, .un] := by
    refine (gSeq_nx (ρ' := [.sh (.int a), .bo (.int m), .un, .un, .un, .un]) ?_).trans (gSeq_nx ?_)
    · simp [runF, gSeq, gSetS, gSetF, gBnd, gIf, gFor, gRet, gRetO, gRetN, gNx, gMut, gDrop, gOn, gSetIx, gFrz, gLend, frz, fCa, fCons, fNil, fC, M.bnd, fVarP, fVarS, fVarB, fBin, fUn, fTst, fAnd, fOr, fNot, fAndV, fOrV, fNotV, fIf, fLst, fTup, fIt, fRng, fYes, up1, isBl, gPut, put, rho0, outB, musE, Kd.fr, mkOw, D.isMut, hNm, onSlot, onL, isOwL, uApp, abs_i, int_i, D.len, D.list, D.tupl, rng1, rng2, add_ii, sub_ii, mod_ii, div_ii, mul_ia, mul_ib, pow1018, lt_ii, le_ii, gt_ii, ge_ii, neg_i, D.isN, D.isNot, isNn, ixL, items_l, items_t, LIM, unLn, Out.upE, fCallF, outF, s1__law_draws, ha]
    · simp [runF, gSeq, gSetS, gSetF, gBnd, gIf, gFor, gRet, gRetO, gRetN, gNx, gMut, gDrop, gOn, gSetIx, gFrz, gLend, frz, fCa, fCons, fNil, fC, M.bnd, fVarP, fVarS, fVarB, fBin, fUn, fTst, fAnd, fOr, fNot, fAndV, fOrV, fNotV, fIf, fLst, fTup, fIt, fRng, fYes, up1, isBl, gPut, put, rho0, outB, musE, Kd.fr, mkOw, D.isMut, hNm, onSlot, onL, isOwL, uApp, abs_i, int_i, D.len, D.list, D.tupl, rng1, rng2, add_ii, sub_ii, mod_ii, div_ii, mul_ia, mul_ib, pow1018, lt_ii, le_ii, gt_ii, ge_ii, neg_i, D.isN, D.isNot, isNn, ixL, items_l, items_t, LIM, unLn, Out.upE, fCallF, outF, s2__law_draws]
  by_cases hc : (1000000000000000000 : Int) ≤ a
  · obtain ⟨l, h1, h2, q3, q4, e⟩ := draws_l1 a m hm hm2 (a - 1000000000000000000)
    refine ⟨l, h1, h2, ?_⟩
    have e3 : r3__law_draws [.sh (.int a), .bo (.int m), .ow (.lst []), .un, .un, .un] = some (.rt .fresh (.lst (l.map D.int)) [.sh (.int a), .bo (.int m), .ow (.lst (l.map D.int)), q3, q4, .un]) := by
      simp [runF, gSeq, gSetS, gSetF, gBnd, gIf, gFor, gRet, gRetO, gRetN, gNx, gMut, gDrop, gOn, gSetIx, gFrz, gLend, frz, fCa, fCons, fNil, fC, M.bnd, fVarP, fVarS, fVarB, fBin, fUn, fTst, fAnd, fOr, fNot, fAndV, fOrV, fNotV, fIf, fLst, fTup, fIt, fRng, fYes, up1, isBl, gPut, put, rho0, outB, musE, Kd.fr, mkOw, D.isMut, hNm, onSlot, onL, isOwL, uApp, abs_i, int_i, D.len, D.list, D.tupl, rng1, rng2, add_ii, sub_ii, mod_ii, div_ii, mul_ia, mul_ib, pow1018, lt_ii, le_ii, gt_ii, ge_ii, neg_i, D.isN, D.isNot, isNn, ixL, items_l, items_t, LIM, unLn, Out.upE, fCallF, outF, r3__law_draws, s3__law_draws, hc, hr, e]
    show outB _ (r1__law_draws [.bo (.int c), .bo (.int m), .un, .un, .un, .un]) = _
    rw [e12, e3]
    rfl
  · obtain ⟨l, h1, h2, q4, q5, e⟩ := draws_l2 a m hm hm2
    refine ⟨l, h1, h2, ?_⟩
    have e3 : r3__law_draws [.sh (.int a), .bo (.int m), .ow (.lst []), .un, .un, .un] = some (.rt .fresh (.lst (l.map D.int)) [.sh (.int a), .bo (.int m), .ow (.lst (l.map D.int)), .un, q4, q5]) := by
      simp [runF, gSeq, gSetS, gSetF, gBnd, gIf, gFor, gRet, gRetO, gRetN, gNx, gMut, gDrop, gOn, gSetIx, gFrz, gLend, frz, fCa, fCons, fNil, fC, M.bnd, fVarP, fVarS, fVarB, fBin, fUn, fTst, fAnd, fOr, fNot, fAndV, fOrV, fNotV, fIf, fLst, fTup, fIt, fRng, fYes, up1, isBl, gPut, put, rho0, outB, musE, Kd.fr, mkOw, D.isMut, hNm, onSlot, onL, isOwL, uApp, abs_i, int_i, D.len, D.list, D.tupl, rng1, rng2, add_ii, sub_ii, mod_ii, div_ii, mul_ia, mul_ib, pow1018, lt_ii, le_ii, gt_ii, ge_ii, neg_i, D.isN, D.isNot, isNn, ixL, items_l, items_t, LIM, unLn, Out.upE, fCallF, outF, r3__law_draws, s3__law_draws, r4__law_draws, s4__law_draws, r5__law_draws, s5__law_draws, hc, hr, e]
    show outB _ (r1__law_draws [.bo (.int c), .bo (.int m), .un, .un, .un, .un]) = _
    rw [e12, e3]
    rfl
/-! ### a crowd is made -/
theorem init_loop (self : Sl) (its : Sl) (l : List Int) (hl : ∀ x ∈ l, 0 ≤ x) : ∃ q2, loopG (hNm 2) b1_Crowd___init__ (l.map D.int) [self, its, .un] = some (.nx [self, its, q2]) ∧ (q2 = .un ∨ ∃ d, q2 = .sh d) := by
  obtain ⟨ρ', e, q2, rfl, h⟩ := loop_inv0 (h := hNm 2) (g := b1_Crowd___init__) (fun _ ρ => ∃ q2, ρ = [self, its, q2] ∧ (q2 = .un ∨ ∃ d, q2 = .sh d)) (l.map D.int) _ ⟨.un, rfl, .inl rfl⟩ (by
    rintro i d ρ hi ⟨q2, rfl, hq⟩
    rw [List.getElem?_map] at hi
    cases e : l[i]? with
    | none => rw [e] at hi; cases hi
    | some x =>
      rw [e] at hi
      cases hi
      have hx := hl x (List.mem_of_getElem? e)
      have hx' : ¬ x < 0 := by omega
      refine ⟨[self, its, .sh (.int x)], [self, its, .sh (.int x)], ?_, .inl ?_, _, rfl, .inr ⟨_, rfl⟩⟩
      · rcases hq with rfl | ⟨d, rfl⟩ <;> simp [runF, gSeq, gSetS, gSetF, gBnd, gIf, gFor, gRet, gRetO, gRetN, gNx, gMut, gDrop, gOn, gSetIx, gFrz, gLend, frz, fCa, fCons, fNil, fC, M.bnd, fVarP, fVarS, fVarB, fBin, fUn, fTst, fAnd, fOr, fNot, fAndV, fOrV, fNotV, fIf, fLst, fTup, fIt, fRng, fYes, up1, isBl, gPut, put, rho0, outB, musE, Kd.fr, mkOw, D.isMut, hNm, onSlot, onL, isOwL, uApp, abs_i, int_i, D.len, D.list, D.tupl, rng1, rng2, add_ii, sub_ii, mod_ii, div_ii, mul_ia, mul_ib, pow1018, lt_ii, le_ii, gt_ii, ge_ii, neg_i, D.isN, D.isNot, isNn, ixL, items_l, items_t, LIM, unLn, Out.upE, fCallF, outF]
      · simp [runF, gSeq, gSetS, gSetF, gBnd, gIf, gFor, gRet, gRetO, gRetN, gNx, gMut, gDrop, gOn, gSetIx, gFrz, gLend, frz, fCa, fCons, fNil, fC, M.bnd, fVarP, fVarS, fVarB, fBin, fUn, fTst, fAnd, fOr, fNot, fAndV, fOrV, fNotV, fIf, fLst, fTup, fIt, fRng, fYes, up1, isBl, gPut, put, rho0, outB, musE, Kd.fr, mkOw, D.isMut, hNm, onSlot, onL, isOwL, uApp, abs_i, int_i, D.len, D.list, D.tupl, rng1, rng2, add_ii, sub_ii, mod_ii, div_ii, mul_ia, mul_ib, pow1018, lt_ii, le_ii, gt_ii, ge_ii, neg_i, D.isN, D.isNot, isNn, ixL, items_l, items_t, LIM, unLn, Out.upE, fCallF, outF, b1_Crowd___init__, hx'])
  exact ⟨q2, e, h⟩
theorem e1_init (self its : Sl) (l : List Int) : compG (hNm 2) fYes e1_Crowd___init__ [self, its, .un] (l.map D.int) = some (l.map D.int) :=
  compG_all D.int D.int l fun x _ => ⟨[self, its, .sh (.int x)], by simp [runF, gSeq, gSetS, gSetF, gBnd, gIf, gFor, gRet, gRetO, gRetN, gNx, gMut, gDrop, gOn, gSetIx, gFrz, gLend, frz, fCa, fCons, fNil, fC, M.bnd, fVarP, fVarS, fVarB, fBin, fUn, fTst, fAnd, fOr, fNot, fAndV, fOrV, fNotV, fIf, fLst, fTup, fIt, fRng, fYes, up1, isBl, gPut, put, rho0, outB, musE, Kd.fr, mkOw, D.isMut, hNm, onSlot, onL, isOwL, uApp, abs_i, int_i, D.len, D.list, D.tupl, rng1, rng2, add_ii, sub_ii, mod_ii, div_ii, mul_ia, mul_ib, pow1018, lt_ii, le_ii, gt_ii, ge_ii, neg_i, D.isN, D.isNot, isNn, ixL, items_l, items_t, LIM, unLn, Out.upE, fCallF, outF], by simp [runF, gSeq, gSetS, gSetF, gBnd, gIf, gFor, gRet, gRetO, gRetN, gNx, gMut, gDrop, gOn, gSetIx, gFrz, gLend, frz, fCa, fCons, fNil, fC, M.bnd, fVarP, fVarS, fVarB, fBin, fUn, fTst, fAnd, fOr, fNot, fAndV, fOrV, fNotV, fIf, fLst, fTup, fIt, fRng, fYes, up1, isBl, gPut, put, rho0, outB, musE, Kd.fr, mkOw, D.isMut, hNm, onSlot, onL, isOwL, uApp, abs_i, int_i, D.len, D.list, D.tupl, rng1, rng2, add_ii, sub_ii, mod_ii, div_ii, mul_ia, mul_ib, pow1018, lt_ii, le_ii, gt_ii, ge_ii, neg_i, D.isN, D.isNot, isNn, ixL, items_l, items_t, LIM, unLn, Out.upE, fCallF, outF, e1_Crowd___init__]⟩
theorem init_ok (l : List Int) (hl : ∀ x ∈ l, 0 ≤ x) (hn : l.length ≤ 16000000) (b : Bool) : Fn_Crowd___init__ [.obj 0 [], if b = true then .tup (l.map D.int) else .lst (l.map D.int)] = some (.ret true .non [.obj 0 [.tup ((srt l).map D.int)]]) := by
  have hd : ∃ d : D, d = (if b = true then D.tup (l.map D.int) else D.lst (l.map D.int)) ∧ itemsD d = some (l.map D.int) := by
    refine ⟨_, rfl, ?_⟩
    cases b <;> rfl
  obtain ⟨d, e, hi⟩ := hd
  rw [← e]
  obtain ⟨q2, e1, hq⟩ := init_loop (.mu (.obj 0 [])) (.bo d) l hl
  have a1 : r1_Crowd___init__ [.mu (.obj 0 []), .bo d, .un] = r2_Crowd___init__ [.mu (.obj 0 []), .bo d, q2] := gSeq_nx (by
    simp [runF, gSeq, gSetS, gSetF, gBnd, gIf, gFor, gRet, gRetO, gRetN, gNx, gMut, gDrop, gOn, gSetIx, gFrz, gLend, frz, fCa, fCons, fNil, fC, M.bnd, fVarP, fVarS, fVarB, fBin, fUn, fTst, fAnd, fOr, fNot, fAndV, fOrV, fNotV, fIf, fLst, fTup, fIt, fRng, fYes, up1, isBl, gPut, put, rho0, outB, musE, Kd.fr, mkOw, D.isMut, hNm, onSlot, onL, isOwL, uApp, abs_i, int_i, D.len, D.list, D.tupl, rng1, rng2, add_ii, sub_ii, mod_ii, div_ii, mul_ia, mul_ib, pow1018, lt_ii, le_ii, gt_ii, ge_ii, neg_i, D.isN, D.isNot, isNn, ixL, items_l, items_t, LIM, unLn, Out.upE, fCallF, outF, s1_Crowd___init__, hi, e1])
  have a2 : r2_Crowd___init__ [.mu (.obj 0 []), .bo d, q2] = some (.nx [.mu (.obj 0 [.tup ((srt l).map D.int)]), .bo d, q2]) := by
    have a3 : (fLc (fIt (fVarB 1)) (hNm 2) fYes e1_Crowd___init__ [2]) [.mu (.obj 0 []), .bo d, q2] = some (.ok (.lst (l.map D.int))) := by
      simp [runF, gSeq, gSetS, gSetF, gBnd, gIf, gFor, gRet, gRetO, gRetN, gNx, gMut, gDrop, gOn, gSetIx, gFrz, gLend, frz, fCa, fCons, fNil, fC, M.bnd, fVarP, fVarS, fVarB, fBin, fUn, fTst, fAnd, fOr, fNot, fAndV, fOrV, fNotV, fIf, fLst, fTup, fIt, fRng, fYes, up1, isBl, gPut, put, rho0, outB, musE, Kd.fr, mkOw, D.isMut, hNm, onSlot, onL, isOwL, uApp, abs_i, int_i, D.len, D.list, D.tupl, rng1, rng2, add_ii, sub_ii, mod_ii, div_ii, mul_ia, mul_ib, pow1018, lt_ii, le_ii, gt_ii, ge_ii, neg_i, D.isN, D.isNot, isNn, ixL, items_l, items_t, LIM, unLn, Out.upE, fCallF, outF, fLc, hi, wipeE, e1_init, limL_ok, hn]
    have a4 : D.sorted [.lst (l.map D.int)] = some (.lst ((srt l).map D.int)) := by
      show (ints? (l.map D.int)).map _ = _
      rw [ints?_map]
      rfl
    simp [runF, gSeq, gSetS, gSetF, gBnd, gIf, gFor, gRet, gRetO, gRetN, gNx, gMut, gDrop, gOn, gSetIx, gFrz, gLend, frz, fCa, fCons, fNil, fC, M.bnd, fVarP, fVarS, fVarB, fBin, fUn, fTst, fAnd, fOr, fNot, fAndV, fOrV, fNotV, fIf, fLst, fTup, fIt, fRng, fYes, up1, isBl, gPut, put, rho0, outB, musE, Kd.fr, mkOw, D.isMut, hNm, onSlot, onL, isOwL, uApp, abs_i, int_i, D.len, D.list, D.tupl, rng1, rng2, add_ii, sub_ii, mod_ii, div_ii, mul_ia, mul_ib, pow1018, lt_ii, le_ii, gt_ii, ge_ii, neg_i, D.isN, D.isNot, isNn, ixL, items_l, items_t, LIM, unLn, Out.upE, fCallF, outF, r2_Crowd___init__, s2_Crowd___init__, a3, a4, setFld]
  show outB _ (r1_Crowd___init__ [.mu (.obj 0 []), .bo d, .un]) = _
  rw [a1, a2]
  rfl
/-! ### every -/
def cand (p : Nat) (row : List Int) : List Nat := (List.range p).filter fun (x : Nat) => match row.getLast? with
  | some y => decide (y ≤ (x : Int))
  | none => true
def rowsN (p : Nat) : Nat → List (List Int)
  | 0 => [[]]
  | t + 1 => (rowsN p t).flatMap fun row => (cand p row).map fun (x : Nat) => row ++ [(x : Int)]
abbrev encR (row : List Int) : D := .tup (row.map D.int)
def crD (row : List Int) : D := .obj 0 [.tup (row.map D.int)]
def goodR (p s : Nat) : Bool := decide ((rowsN p s).length ≤ 1000) && (rowsN p s).all fun row => decide (row.length = s) && (row.all fun x => decide (0 ≤ x) && decide (x < p)) && decide (srt row = row) &&
  (List.range s).all fun k => decide (k = 0) || match row[k - 1]?, row[k]? with
    | some x, some y => decide (x ≤ y)
    | _, _ => false
theorem good_all : ((List.range 7).all fun p => (List.range 7).all fun s => goodR p s) = true := by decide +kernel
theorem good_at {p s : Nat} (hp : p < 7) (hs : s < 7) : goodR p s = true := List.all_eq_true.mp (List.all_eq_true.mp good_all p (List.mem_range.mpr hp)) s (List.mem_range.mpr hs)
theorem getLast_at (row : List Int) {y : Int} (h : row.getLast? = some y) : atI (row.map D.int) (-1) = some (.int y) := by
  have h0 : row ≠ [] := by rintro rfl; cases h
  have hl : 0 < row.length := List.length_pos_iff.mpr h0
  unfold atI ixN
  rw [List.length_map, if_neg (by decide), if_pos (by omega), Option.bind_some, show ((-1 : Int) + (row.length : Int)).toNat = row.length - 1 by omega, List.getElem?_map, ← List.getLast?_eq_getElem?, h]
  rfl
theorem step_ok (p s : Nat) (q3 : Sl) (t : Nat) (q2 : Sl) (h2 : q2 = .sh (.lst ((rowsN p t).map encR)) ∨ q2 = .ow (.lst ((rowsN p t).map encR))) (hp : p ≤ 16000000) (hr : ∀ row ∈ rowsN p t, row.length + 1 ≤ 16000000) (hn : (rowsN p (t + 1)).length ≤ 16000000) :
    b1_Crowd_every [.bo (.int p), .bo (.int s), q2, q3, .un, .un] = some (.nx [.bo (.int p), .bo (.int s), .ow (.lst ((rowsN p (t + 1)).map encR)), q3, .un, .un]) := by
  have key : comp2G (hNm 4) fYes i1_Crowd_every (hNm 5) c1_Crowd_every e1_Crowd_every [5] [.bo (.int p), .bo (.int s), .sh (.lst ((rowsN p t).map encR)), q3, .un, .un] ((rowsN p t).map encR) = some ((rowsN p (t + 1)).map encR) := by
    rw [comp2G_map encR (fun (x : Nat) => D.int (x : Int)) (fun _ => true) (fun _ => List.range p) (fun row (x : Nat) => match row.getLast? with
      | some y => decide (y ≤ (x : Int))
      | none => true) (fun row (x : Nat) => encR (row ++ [(x : Int)])) (rowsN p t) fun row hrow => ?_]
    · rw [List.filter_eq_self.mpr (fun _ _ => rfl)]
      show _ = some (((rowsN p t).flatMap fun row => (cand p row).map fun (x : Nat) => row ++ [(x : Int)]).map encR)
      rw [List.map_flatMap]
      congr 2
      funext row
      rw [List.map_map]
      rfl
    · have hp1 : (-16000000 : Int) ≤ p := by omega
      have hp2 : (p : Int) ≤ 16000000 := by omega
      refine ⟨[.bo (.int p), .bo (.int s), .sh (.lst ((rowsN p t).map encR)), q3, .sh (encR row), .un], by simp [runF, gSeq, gSetS, gSetF, gBnd, gIf, gFor, gRet, gRetO, gRetN, gNx, gMut, gDrop, gOn, gSetIx, gFrz, gLend, frz, fCa, fCons, fNil, fC, M.bnd, fVarP, fVarS, fVarB, fBin, fUn, fTst, fAnd, fOr, fNot, fAndV, fOrV, fNotV, fIf, fLst, fTup, fIt, fRng, fYes, up1, isBl, gPut, put, rho0, outB, musE, Kd.fr, mkOw, D.isMut, hNm, onSlot, onL, isOwL, uApp, abs_i, int_i, D.len, D.list, D.tupl, rng1, rng2, add_ii, sub_ii, mod_ii, div_ii, mul_ia, mul_ib, pow1018, lt_ii, le_ii, gt_ii, ge_ii, neg_i, D.isN, D.isNot, isNn, ixL, items_l, items_t, LIM, unLn, Out.upE, fCallF, outF, encR], rfl, fun _ => ⟨by simp [runF, gSeq, gSetS, gSetF, gBnd, gIf, gFor, gRet, gRetO, gRetN, gNx, gMut, gDrop, gOn, gSetIx, gFrz, gLend, frz, fCa, fCons, fNil, fC, M.bnd, fVarP, fVarS, fVarB, fBin, fUn, fTst, fAnd, fOr, fNot, fAndV, fOrV, fNotV, fIf, fLst, fTup, fIt, fRng, fYes, up1, isBl, gPut, put, rho0, outB, musE, Kd.fr, mkOw, D.isMut, hNm, onSlot, onL, isOwL, uApp, abs_i, int_i, D.len, D.list, D.tupl, rng1, rng2, add_ii, sub_ii, mod_ii, div_ii, mul_ia, mul_ib, pow1018, lt_ii, le_ii, gt_ii, ge_ii, neg_i, D.isN, D.isNot, isNn, ixL, items_l, items_t, LIM, unLn, Out.upE, fCallF, outF, i1_Crowd_every, hp1, hp2, rngD_map], fun x hx => ⟨[.bo (.int p), .bo (.int s), .sh (.lst ((rowsN p t).map encR)), q3, .sh (encR row), .sh (.int x)], by simp [runF, gSeq, gSetS, gSetF, gBnd, gIf, gFor, gRet, gRetO, gRetN, gNx, gMut, gDrop, gOn, gSetIx, gFrz, gLend, frz, fCa, fCons, fNil, fC, M.bnd, fVarP, fVarS, fVarB, fBin, fUn, fTst, fAnd, fOr, fNot, fAndV, fOrV, fNotV, fIf, fLst, fTup, fIt, fRng, fYes, up1, isBl, gPut, put, rho0, outB, musE, Kd.fr, mkOw, D.isMut, hNm, onSlot, onL, isOwL, uApp, abs_i, int_i, D.len, D.list, D.tupl, rng1, rng2, add_ii, sub_ii, mod_ii, div_ii, mul_ia, mul_ib, pow1018, lt_ii, le_ii, gt_ii, ge_ii, neg_i, D.isN, D.isNot, isNn, ixL, items_l, items_t, LIM, unLn, Out.upE, fCallF, outF, wipeE], ?_, fun _ => ?_⟩⟩⟩
      · have e0 : D.eq (.tup (row.map D.int)) (.tup []) = some (.bl (decide (row = []))) := eq_tI row []
        cases hl : row.getLast? with
        | none =>
          have : row = [] := List.getLast?_eq_none_iff.mp hl
          subst this
          have e0 : D.eq (.tup []) (.tup []) = some (.bl true) := e0
          simp [runF, gSeq, gSetS, gSetF, gBnd, gIf, gFor, gRet, gRetO, gRetN, gNx, gMut, gDrop, gOn, gSetIx, gFrz, gLend, frz, fCa, fCons, fNil, fC, M.bnd, fVarP, fVarS, fVarB, fBin, fUn, fTst, fAnd, fOr, fNot, fAndV, fOrV, fNotV, fIf, fLst, fTup, fIt, fRng, fYes, up1, isBl, gPut, put, rho0, outB, musE, Kd.fr, mkOw, D.isMut, hNm, onSlot, onL, isOwL, uApp, abs_i, int_i, D.len, D.list, D.tupl, rng1, rng2, add_ii, sub_ii, mod_ii, div_ii, mul_ia, mul_ib, pow1018, lt_ii, le_ii, gt_ii, ge_ii, neg_i, D.isN, D.isNot, isNn, ixL, items_l, items_t, LIM, unLn, Out.upE, fCallF, outF, c1_Crowd_every, encR, e0]
        | some y =>
          have hne : ¬ row = [] := by rintro rfl; cases hl
          have e1 := getLast_at row hl
          simp [runF, gSeq, gSetS, gSetF, gBnd, gIf, gFor, gRet, gRetO, gRetN, gNx, gMut, gDrop, gOn, gSetIx, gFrz, gLend, frz, fCa, fCons, fNil, fC, M.bnd, fVarP, fVarS, fVarB, fBin, fUn, fTst, fAnd, fOr, fNot, fAndV, fOrV, fNotV, fIf, fLst, fTup, fIt, fRng, fYes, up1, isBl, gPut, put, rho0, outB, musE, Kd.fr, mkOw, D.isMut, hNm, onSlot, onL, isOwL, uApp, abs_i, int_i, D.len, D.list, D.tupl, rng1, rng2, add_ii, sub_ii, mod_ii, div_ii, mul_ia, mul_ib, pow1018, lt_ii, le_ii, gt_ii, ge_ii, neg_i, D.isN, D.isNot, isNn, ixL, items_l, items_t, LIM, unLn, Out.upE, fCallF, outF, c1_Crowd_every, encR, e0, hne, e1]
      · have := hr row hrow
        have e1 : D.add (.tup (row.map D.int)) (.tup [.int x]) = some (encR (row ++ [(x : Int)])) := by
          rw [add_tt (by simpa using this)]
          simp [encR]
        simp [runF, gSeq, gSetS, gSetF, gBnd, gIf, gFor, gRet, gRetO, gRetN, gNx, gMut, gDrop, gOn, gSetIx, gFrz, gLend, frz, fCa, fCons, fNil, fC, M.bnd, fVarP, fVarS, fVarB, fBin, fUn, fTst, fAnd, fOr, fNot, fAndV, fOrV, fNotV, fIf, fLst, fTup, fIt, fRng, fYes, up1, isBl, gPut, put, rho0, outB, musE, Kd.fr, mkOw, D.isMut, hNm, onSlot, onL, isOwL, uApp, abs_i, int_i, D.len, D.list, D.tupl, rng1, rng2, add_ii, sub_ii, mod_ii, div_ii, mul_ia, mul_ib, pow1018, lt_ii, le_ii, gt_ii, ge_ii, neg_i, D.isN, D.isNot, isNn, ixL, items_l, items_t, LIM, unLn, Out.upE, fCallF, outF, e1_Crowd_every, encR, e1]
  have key2 : fLc2 (fIt (fVarB 2)) (hNm 4) fYes i1_Crowd_every (hNm 5) c1_Crowd_every e1_Crowd_every [4, 5] [5] [.bo (.int p), .bo (.int s), .sh (.lst ((rowsN p t).map encR)), q3, .un, .un] = some (.ok (.lst ((rowsN p (t + 1)).map encR))) := by
    have hn' : ((rowsN p (t + 1)).map encR).length ≤ 16000000 := by rw [List.length_map]; exact hn
    simp [runF, gSeq, gSetS, gSetF, gBnd, gIf, gFor, gRet, gRetO, gRetN, gNx, gMut, gDrop, gOn, gSetIx, gFrz, gLend, frz, fCa, fCons, fNil, fC, M.bnd, fVarP, fVarS, fVarB, fBin, fUn, fTst, fAnd, fOr, fNot, fAndV, fOrV, fNotV, fIf, fLst, fTup, fIt, fRng, fYes, up1, isBl, gPut, put, rho0, outB, musE, Kd.fr, mkOw, D.isMut, hNm, onSlot, onL, isOwL, uApp, abs_i, int_i, D.len, D.list, D.tupl, rng1, rng2, add_ii, sub_ii, mod_ii, div_ii, mul_ia, mul_ib, pow1018, lt_ii, le_ii, gt_ii, ge_ii, neg_i, D.isN, D.isNot, isNn, ixL, items_l, items_t, LIM, unLn, Out.upE, fCallF, outF, fLc2, wipeE, key, limL_ok hn']
  rcases h2 with rfl | rfl <;> simp [runF, gSeq, gSetS, gSetF, gBnd, gIf, gFor, gRet, gRetO, gRetN, gNx, gMut, gDrop, gOn, gSetIx, gFrz, gLend, frz, fCa, fCons, fNil, fC, M.bnd, fVarP, fVarS, fVarB, fBin, fUn, fTst, fAnd, fOr, fNot, fAndV, fOrV, fNotV, fIf, fLst, fTup, fIt, fRng, fYes, up1, isBl, gPut, put, rho0, outB, musE, Kd.fr, mkOw, D.isMut, hNm, onSlot, onL, isOwL, uApp, abs_i, int_i, D.len, D.list, D.tupl, rng1, rng2, add_ii, sub_ii, mod_ii, div_ii, mul_ia, mul_ib, pow1018, lt_ii, le_ii, gt_ii, ge_ii, neg_i, D.isN, D.isNot, isNn, ixL, items_l, items_t, LIM, unLn, Out.upE, fCallF, outF, b1_Crowd_every, key2]
/-! ### the script -/
theorem cell_ok (ns : List Int) (k : Nat) (hl : ns.length ≤ 63) : ∃ c : Int, Fn__law_cell [.scr ns, .int k] = some (.ret true (.int c) []) := by
  by_cases hk : k < ns.length
  · refine ⟨ns[k], ?_⟩
    have : atI ns (k : Int) = some ns[k] := atI_nat hk
    have hk' : (k : Int) < (ns.length : Int) := by omega
    simp [runF, gSeq, gSetS, gSetF, gBnd, gIf, gFor, gRet, gRetO, gRetN, gNx, gMut, gDrop, gOn, gSetIx, gFrz, gLend, frz, fCa, fCons, fNil, fC, M.bnd, fVarP, fVarS, fVarB, fBin, fUn, fTst, fAnd, fOr, fNot, fAndV, fOrV, fNotV, fIf, fLst, fTup, fIt, fRng, fYes, up1, isBl, gPut, put, rho0, outB, musE, Kd.fr, mkOw, D.isMut, hNm, onSlot, onL, isOwL, uApp, abs_i, int_i, D.len, D.list, D.tupl, rng1, rng2, add_ii, sub_ii, mod_ii, div_ii, mul_ia, mul_ib, pow1018, lt_ii, le_ii, gt_ii, ge_ii, neg_i, D.isN, D.isNot, isNn, ixL, items_l, items_t, LIM, unLn, Out.upE, fCallF, outF, Fn__law_cell, g__law_cell, r1__law_cell, s1__law_cell, r2__law_cell, hk', hk, this]
  · refine ⟨0, ?_⟩
    have hk' : ¬ (k : Int) < (ns.length : Int) := by omega
    simp [runF, gSeq, gSetS, gSetF, gBnd, gIf, gFor, gRet, gRetO, gRetN, gNx, gMut, gDrop, gOn, gSetIx, gFrz, gLend, frz, fCa, fCons, fNil, fC, M.bnd, fVarP, fVarS, fVarB, fBin, fUn, fTst, fAnd, fOr, fNot, fAndV, fOrV, fNotV, fIf, fLst, fTup, fIt, fRng, fYes, up1, isBl, gPut, put, rho0, outB, musE, Kd.fr, mkOw, D.isMut, hNm, onSlot, onL, isOwL, uApp, abs_i, int_i, D.len, D.list, D.tupl, rng1, rng2, add_ii, sub_ii, mod_ii, div_ii, mul_ia, mul_ib, pow1018, lt_ii, le_ii, gt_ii, ge_ii, neg_i, D.isN, D.isNot, isNn, ixL, items_l, items_t, LIM, unLn, Out.upE, fCallF, outF, Fn__law_cell, g__law_cell, r1__law_cell, s1__law_cell, r2__law_cell, s2__law_cell, hk', hk]
end DL

namespace DL
open PySem PySem.Spec L2
/-! ### every, counts -/
theorem good_len {p s : Nat} (h : goodR p s = true) : (rowsN p s).length ≤ 1000 := by
  unfold goodR at h
  exact of_decide_eq_true (Bool.and_eq_true_iff.mp h).1
structure Row (p s : Nat) (row : List Int) : Prop where
  len : row.length = s
  lo : ∀ x ∈ row, 0 ≤ x ∧ x < p
  srt : srt row = row
  asc : ∀ k, 0 < k → k < s → ∃ x y, row[k - 1]? = some x ∧ row[k]? = some y ∧ x ≤ y
theorem good_row {p s : Nat} (h : goodR p s = true) {row : List Int} (hr : row ∈ rowsN p s) : Row p s row := by
  unfold goodR at h
  have h := List.all_eq_true.mp (Bool.and_eq_true_iff.mp h).2 row hr
  obtain ⟨h, h4⟩ := Bool.and_eq_true_iff.mp h
  obtain ⟨h, h3⟩ := Bool.and_eq_true_iff.mp h
  obtain ⟨h1, h2⟩ := Bool.and_eq_true_iff.mp h
  refine ⟨of_decide_eq_true h1, fun x hx => ?_, of_decide_eq_true h3, fun k hk hk2 => ?_⟩
  · have := List.all_eq_true.mp h2 x hx
    simpa using this
  · have h := List.all_eq_true.mp h4 k (List.mem_range.mpr hk2)
    rcases Bool.or_eq_true_iff.mp h with h | h
    · have := of_decide_eq_true h
      omega
    · split at h
      · rename_i x y e1 e2
        exact ⟨x, y, e1, e2, of_decide_eq_true h⟩
      · cases h
theorem every_ok (p s : Nat) (hp : p < 7) (hs : s < 7) : Fn_Crowd_every [.int p, .int s] = some (.ret true (.lst ((rowsN p s).map crD)) []) := by
  obtain ⟨ρ', e, q2, q3, rfl, hq2, _⟩ := loop_inv0 (h := hNm 3) (g := b1_Crowd_every) (fun t ρ => ∃ q2 q3, ρ = [.bo (.int p), .bo (.int s), q2, q3, .un, .un] ∧ (q2 = .sh (.lst ((rowsN p t).map encR)) ∨ q2 = .ow (.lst ((rowsN p t).map encR))) ∧ (q3 = .un ∨ ∃ d, q3 = .sh d))
    (rngD 0 s) _ ⟨_, .un, rfl, .inl rfl, .inl rfl⟩ (by
    rintro t d ρ hi ⟨q2, q3, rfl, hq2, hq3⟩
    obtain ⟨rfl, hi2⟩ := rngD_at hi
    have ht : t < 7 := by omega
    have ht' : t + 1 < 7 := by omega
    have b1 := good_len (good_at hp ht')
    refine ⟨[.bo (.int p), .bo (.int s), q2, .sh (.int (0 + t)), .un, .un], _, ?_, .inl (step_ok p s _ t q2 hq2 (by omega) (fun row hrow => ?_) (by omega)), _, _, rfl, .inr rfl, .inr ⟨_, rfl⟩⟩
    · rcases hq3 with rfl | ⟨d, rfl⟩ <;> simp [runF, gSeq, gSetS, gSetF, gBnd, gIf, gFor, gRet, gRetO, gRetN, gNx, gMut, gDrop, gOn, gSetIx, gFrz, gLend, frz, fCa, fCons, fNil, fC, M.bnd, fVarP, fVarS, fVarB, fBin, fUn, fTst, fAnd, fOr, fNot, fAndV, fOrV, fNotV, fIf, fLst, fTup, fIt, fRng, fYes, up1, isBl, gPut, put, rho0, outB, musE, Kd.fr, mkOw, D.isMut, hNm, onSlot, onL, isOwL, uApp, abs_i, int_i, D.len, D.list, D.tupl, rng1, rng2, add_ii, sub_ii, mod_ii, div_ii, mul_ia, mul_ib, pow1018, lt_ii, le_ii, gt_ii, ge_ii, neg_i, D.isN, D.isNot, isNn, ixL, items_l, items_t, LIM, unLn, Out.upE, fCallF, outF]
    · have := (good_row (good_at hp ht) hrow).len
      omega)
  have hn : (rngD 0 (s : Int)).length = s := by rw [rngD_len]; omega
  rw [hn] at hq2
  have g := good_at hp hs
  have hlen := good_len g
  have a1 : r1_Crowd_every [.bo (.int p), .bo (.int s), .un, .un, .un, .un] = r3_Crowd_every [.bo (.int p), .bo (.int s), q2, q3, .un, .un] := by
    have hs1 : (-16000000 : Int) ≤ s := by omega
    have hs2 : (s : Int) ≤ 16000000 := by omega
    have e : loopG (hNm 3) b1_Crowd_every (rngD 0 s) [.bo (.int p), .bo (.int s), .sh (.lst [.tup []]), .un, .un, .un] = some (.nx [.bo (.int p), .bo (.int s), q2, q3, .un, .un]) := e
    refine (gSeq_nx (ρ' := [.bo (.int p), .bo (.int s), .sh (.lst [.tup []]), .un, .un, .un]) ?_).trans (gSeq_nx ?_)
    · simp [runF, gSeq, gSetS, gSetF, gBnd, gIf, gFor, gRet, gRetO, gRetN, gNx, gMut, gDrop, gOn, gSetIx, gFrz, gLend, frz, fCa, fCons, fNil, fC, M.bnd, fVarP, fVarS, fVarB, fBin, fUn, fTst, fAnd, fOr, fNot, fAndV, fOrV, fNotV, fIf, fLst, fTup, fIt, fRng, fYes, up1, isBl, gPut, put, rho0, outB, musE, Kd.fr, mkOw, D.isMut, hNm, onSlot, onL, isOwL, uApp, abs_i, int_i, D.len, D.list, D.tupl, rng1, rng2, add_ii, sub_ii, mod_ii, div_ii, mul_ia, mul_ib, pow1018, lt_ii, le_ii, gt_ii, ge_ii, neg_i, D.isN, D.isNot, isNn, ixL, items_l, items_t, LIM, unLn, Out.upE, fCallF, outF, s1_Crowd_every]
    · simp [runF, gSeq, gSetS, gSetF, gBnd, gIf, gFor, gRet, gRetO, gRetN, gNx, gMut, gDrop, gOn, gSetIx, gFrz, gLend, frz, fCa, fCons, fNil, fC, M.bnd, fVarP, fVarS, fVarB, fBin, fUn, fTst, fAnd, fOr, fNot, fAndV, fOrV, fNotV, fIf, fLst, fTup, fIt, fRng, fYes, up1, isBl, gPut, put, rho0, outB, musE, Kd.fr, mkOw, D.isMut, hNm, onSlot, onL, isOwL, uApp, abs_i, int_i, D.len, D.list, D.tupl, rng1, rng2, add_ii, sub_ii, mod_ii, div_ii, mul_ia, mul_ib, pow1018, lt_ii, le_ii, gt_ii, ge_ii, neg_i, D.isN, D.isNot, isNn, ixL, items_l, items_t, LIM, unLn, Out.upE, fCallF, outF, s2_Crowd_every, hs1, hs2, e]
  have key : ∀ q : Sl, compG (hNm 4) fYes e2_Crowd_every [.bo (.int p), .bo (.int s), q, q3, .un, .un] ((rowsN p s).map encR) = some ((rowsN p s).map crD) := fun q =>
    compG_all encR crD (rowsN p s) fun row hrow => by
      have R := good_row g hrow
      have h1 := init_ok row (fun x hx => (R.lo x hx).1) (by rw [R.len]; omega) true
      rw [R.srt] at h1
      have h1 : Fn_Crowd___init__ [.obj 0 [], .tup (row.map D.int)] = some (.ret true .non [.obj 0 [.tup (row.map D.int)]]) := h1
      exact ⟨[.bo (.int p), .bo (.int s), q, q3, .sh (encR row), .un], by simp [runF, gSeq, gSetS, gSetF, gBnd, gIf, gFor, gRet, gRetO, gRetN, gNx, gMut, gDrop, gOn, gSetIx, gFrz, gLend, frz, fCa, fCons, fNil, fC, M.bnd, fVarP, fVarS, fVarB, fBin, fUn, fTst, fAnd, fOr, fNot, fAndV, fOrV, fNotV, fIf, fLst, fTup, fIt, fRng, fYes, up1, isBl, gPut, put, rho0, outB, musE, Kd.fr, mkOw, D.isMut, hNm, onSlot, onL, isOwL, uApp, abs_i, int_i, D.len, D.list, D.tupl, rng1, rng2, add_ii, sub_ii, mod_ii, div_ii, mul_ia, mul_ib, pow1018, lt_ii, le_ii, gt_ii, ge_ii, neg_i, D.isN, D.isNot, isNn, ixL, items_l, items_t, LIM, unLn, Out.upE, fCallF, outF], by simp [runF, gSeq, gSetS, gSetF, gBnd, gIf, gFor, gRet, gRetO, gRetN, gNx, gMut, gDrop, gOn, gSetIx, gFrz, gLend, frz, fCa, fCons, fNil, fC, M.bnd, fVarP, fVarS, fVarB, fBin, fUn, fTst, fAnd, fOr, fNot, fAndV, fOrV, fNotV, fIf, fLst, fTup, fIt, fRng, fYes, up1, isBl, gPut, put, rho0, outB, musE, Kd.fr, mkOw, D.isMut, hNm, onSlot, onL, isOwL, uApp, abs_i, int_i, D.len, D.list, D.tupl, rng1, rng2, add_ii, sub_ii, mod_ii, div_ii, mul_ia, mul_ib, pow1018, lt_ii, le_ii, gt_ii, ge_ii, neg_i, D.isN, D.isNot, isNn, ixL, items_l, items_t, LIM, unLn, Out.upE, fCallF, outF, e2_Crowd_every, fMk, h1, outM, crD]⟩
  have hn' : ((rowsN p s).map crD).length ≤ 16000000 := by rw [List.length_map]; omega
  show outB _ (r1_Crowd_every [.bo (.int p), .bo (.int s), .un, .un, .un, .un]) = _
  rw [a1]
  rcases hq2 with rfl | rfl <;> simp [runF, gSeq, gSetS, gSetF, gBnd, gIf, gFor, gRet, gRetO, gRetN, gNx, gMut, gDrop, gOn, gSetIx, gFrz, gLend, frz, fCa, fCons, fNil, fC, M.bnd, fVarP, fVarS, fVarB, fBin, fUn, fTst, fAnd, fOr, fNot, fAndV, fOrV, fNotV, fIf, fLst, fTup, fIt, fRng, fYes, up1, isBl, gPut, put, rho0, outB, musE, Kd.fr, mkOw, D.isMut, hNm, onSlot, onL, isOwL, uApp, abs_i, int_i, D.len, D.list, D.tupl, rng1, rng2, add_ii, sub_ii, mod_ii, div_ii, mul_ia, mul_ib, pow1018, lt_ii, le_ii, gt_ii, ge_ii, neg_i, D.isN, D.isNot, isNn, ixL, items_l, items_t, LIM, unLn, Out.upE, fCallF, outF, r3_Crowd_every, s3_Crowd_every, fLc, wipeE, key, limL_ok hn']
def cntB (p s : Nat) : Bool := match Fn__law_count [.int (p : Nat), .int (s : Nat)] with
  | some (.ret false (.int n) []) => decide (n = (rowsN p s).length)
  | _ => false
theorem cnt_all : ((List.range 7).all fun p => (List.range 7).all fun s => cntB p s) = true := by decide +kernel
theorem count_ok (p s : Nat) (hp : p < 7) (hs : s < 7) : Fn__law_count [.int p, .int s] = some (.ret false (.int (rowsN p s).length) []) := by
  have h : cntB p s = true := List.all_eq_true.mp (List.all_eq_true.mp cnt_all p (List.mem_range.mpr hp)) s (List.mem_range.mpr hs)
  unfold cntB at h
  split at h
  · rename_i n e
    rw [e, of_decide_eq_true h]
  · cases h
def lad : List (List Int) → Bool
  | a :: b :: l => HT.lexLt a b && lad (b :: l)
  | _ => true
theorem lad_at : ∀ {l : List (List Int)} {i : Nat} {a b : List Int}, lad l = true → l[i]? = some a → l[i + 1]? = some b → HT.lexLt a b = true
  | [], i, a, b, _, h, _ => by cases h
  | [x], i, a, b, _, _, h => by cases h
  | x :: y :: l, 0, a, b, h, e1, e2 => by
    cases e1
    cases e2
    exact (Bool.and_eq_true_iff.mp h).1
  | x :: y :: l, i + 1, a, b, h, e1, e2 => lad_at (l := y :: l) (Bool.and_eq_true_iff.mp h).2 e1 e2
theorem lad_all : ((List.range 7).all fun p => (List.range 7).all fun s => lad (rowsN p s)) = true := by decide +kernel
/-! ### the law -/
theorem int_ok (x : Int) : Fn__law_is_integer [.int x] = some (.ret true (.bl true) []) := by
  have h1 : D.isi [.int x, .typ "int"] = some (.bl true) := by kernel_rfl
  have h2 : D.isi [.int x, .typ "bool"] = some (.bl false) := by kernel_rfl
  simp [runF, gSeq, gSetS, gSetF, gBnd, gIf, gFor, gRet, gRetO, gRetN, gNx, gMut, gDrop, gOn, gSetIx, gFrz, gLend, frz, fCa, fCons, fNil, fC, M.bnd, fVarP, fVarS, fVarB, fBin, fUn, fTst, fAnd, fOr, fNot, fAndV, fOrV, fNotV, fIf, fLst, fTup, fIt, fRng, fYes, up1, isBl, gPut, put, rho0, outB, musE, Kd.fr, mkOw, D.isMut, hNm, onSlot, onL, isOwL, uApp, abs_i, int_i, D.len, D.list, D.tupl, rng1, rng2, add_ii, sub_ii, mod_ii, div_ii, mul_ia, mul_ib, pow1018, lt_ii, le_ii, gt_ii, ge_ii, neg_i, D.isN, D.isNot, isNn, ixL, items_l, items_t, LIM, unLn, Out.upE, fCallF, outF, Fn__law_is_integer, g__law_is_integer, r1__law_is_integer, s1__law_is_integer, fIsi, h1, h2]
theorem inner_ok (ns : List Int) (q1 q5 q6 q8 : Sl) (fd : D) (p s : Nat) (row : List Int) (R : Row p s row) (hs : s < 7) (hq : q8 = .un ∨ ∃ d, q8 = .sh d) :
    ∃ q8', loopG (hNm 8) b1_law (rngD 0 s) [.bo (.scr ns), q1, .sh (.int p), .sh (.int s), .ln fd, q5, q6, .sh (encR row), q8, .un, .un] = some (.nx [.bo (.scr ns), q1, .sh (.int p), .sh (.int s), .ln fd, q5, q6, .sh (encR row), q8', .un, .un]) ∧ (q8' = .un ∨ ∃ d, q8' = .sh d) := by
  obtain ⟨ρ', e, q8', rfl, h⟩ := loop_inv0 (h := hNm 8) (g := b1_law) (fun _ ρ => ∃ q8, ρ = [.bo (.scr ns), q1, .sh (.int p), .sh (.int s), .ln fd, q5, q6, .sh (encR row), q8, .un, .un] ∧ (q8 = .un ∨ ∃ d, q8 = .sh d)) (rngD 0 s) _ ⟨q8, rfl, hq⟩ (by
    rintro k d ρ hi ⟨q8, rfl, hq⟩
    obtain ⟨ed, hk⟩ := rngD_at hi
    have hk : k < s := by omega
    obtain ⟨y, hy⟩ : ∃ y : Int, y = 0 + (k : Int) := ⟨_, rfl⟩
    rw [← hy] at ed
    subst ed
    have hk2 : k < row.length := by rw [R.len]; exact hk
    obtain ⟨x, hx⟩ : ∃ x, row[k]? = some x := ⟨row[k], List.getElem?_eq_getElem hk2⟩
    have hb := R.lo x (List.mem_of_getElem? hx)
    have hy0 : 0 ≤ y := by omega
    have a1 : atI (row.map D.int) y = some (.int x) := atI_at hy0 (by rw [List.getElem?_map, show y.toNat = k by omega, hx]; rfl)
    have b1 : ¬ x < 0 := by omega
    have b2 : ¬ (p : Int) ≤ x := by omega
    refine ⟨[.bo (.scr ns), q1, .sh (.int p), .sh (.int s), .ln fd, q5, q6, .sh (encR row), .sh (.int y), .un, .un], [.bo (.scr ns), q1, .sh (.int p), .sh (.int s), .ln fd, q5, q6, .sh (encR row), .sh (.int y), .un, .un], ?_, .inl ?_, _, rfl, .inr ⟨_, rfl⟩⟩
    · rcases hq with rfl | ⟨d, rfl⟩ <;> simp [runF, gSeq, gSetS, gSetF, gBnd, gIf, gFor, gRet, gRetO, gRetN, gNx, gMut, gDrop, gOn, gSetIx, gFrz, gLend, frz, fCa, fCons, fNil, fC, M.bnd, fVarP, fVarS, fVarB, fBin, fUn, fTst, fAnd, fOr, fNot, fAndV, fOrV, fNotV, fIf, fLst, fTup, fIt, fRng, fYes, up1, isBl, gPut, put, rho0, outB, musE, Kd.fr, mkOw, D.isMut, hNm, onSlot, onL, isOwL, uApp, abs_i, int_i, D.len, D.list, D.tupl, rng1, rng2, add_ii, sub_ii, mod_ii, div_ii, mul_ia, mul_ib, pow1018, lt_ii, le_ii, gt_ii, ge_ii, neg_i, D.isN, D.isNot, isNn, ixL, items_l, items_t, LIM, unLn, Out.upE, fCallF, outF]
    · by_cases h0 : 0 < y
      · obtain ⟨x0, x1, c1, c2, c3⟩ := R.asc k (by omega) hk
        rw [hx] at c2
        cases c2
        have a2 : atI (row.map D.int) (y - 1) = some (.int x0) := atI_at (by omega) (by rw [List.getElem?_map, show (y - 1).toNat = k - 1 by omega, c1]; rfl)
        have b3 : ¬ x < x0 := by omega
        simp only [b1_law, if_and, if_or, if_not]
        simp [runF, gSeq, gSetS, gSetF, gBnd, gIf, gFor, gRet, gRetO, gRetN, gNx, gMut, gDrop, gOn, gSetIx, gFrz, gLend, frz, fCa, fCons, fNil, fC, M.bnd, fVarP, fVarS, fVarB, fBin, fUn, fTst, fAnd, fOr, fNot, fAndV, fOrV, fNotV, fIf, fLst, fTup, fIt, fRng, fYes, up1, isBl, gPut, put, rho0, outB, musE, Kd.fr, mkOw, D.isMut, hNm, onSlot, onL, isOwL, uApp, abs_i, int_i, D.len, D.list, D.tupl, rng1, rng2, add_ii, sub_ii, mod_ii, div_ii, mul_ia, mul_ib, pow1018, lt_ii, le_ii, gt_ii, ge_ii, neg_i, D.isN, D.isNot, isNn, ixL, items_l, items_t, LIM, unLn, Out.upE, fCallF, outF, int_ok, a1, b1, b2, h0, a2, b3]
      · simp only [b1_law, if_and, if_or, if_not]
        simp [runF, gSeq, gSetS, gSetF, gBnd, gIf, gFor, gRet, gRetO, gRetN, gNx, gMut, gDrop, gOn, gSetIx, gFrz, gLend, frz, fCa, fCons, fNil, fC, M.bnd, fVarP, fVarS, fVarB, fBin, fUn, fTst, fAnd, fOr, fNot, fAndV, fOrV, fNotV, fIf, fLst, fTup, fIt, fRng, fYes, up1, isBl, gPut, put, rho0, outB, musE, Kd.fr, mkOw, D.isMut, hNm, onSlot, onL, isOwL, uApp, abs_i, int_i, D.len, D.list, D.tupl, rng1, rng2, add_ii, sub_ii, mod_ii, div_ii, mul_ia, mul_ib, pow1018, lt_ii, le_ii, gt_ii, ge_ii, neg_i, D.isN, D.isNot, isNn, ixL, items_l, items_t, LIM, unLn, Out.upE, fCallF, outF, int_ok, a1, b1, b2, h0])
  exact ⟨q8', e, h⟩
end DL

namespace DL
open PySem PySem.Spec L2
theorem isi_ll (l : List D) : D.isi [.lst l, .typ "list"] = some (.bl true) := by
  show (isiT (.b "list") (.b "list")).map D.bl = _
  kernel_rfl
theorem isi_tt (l : List D) : D.isi [.tup l, .typ "tuple"] = some (.bl true) := by
  show (isiT (.b "tuple") (.b "tuple")).map D.bl = _
  kernel_rfl
theorem isi_oo (l : List D) : D.isi [.obj 0 l, .cls 0] = some (.bl true) := by
  show (isiT (.o 0) (.o 0)).map D.bl = _
  kernel_rfl
theorem tail_true (ns : List Int) (q1 : Sl) (p s : Nat) (hp : p < 7) (hs : s < 7) : ∃ ρ', r4_law [.bo (.scr ns), q1, .sh (.int p), .sh (.int s), .un, .un, .un, .un, .un, .un, .un] = some (.rt .fresh (.bl true) (.bo (.scr ns) :: ρ')) := by
  have g := good_at hp hs
  have hlen := good_len g
  have hev := every_ok p s hp hs
  have hcnt := count_ok p s hp hs
  have hlad : lad (rowsN p s) = true := List.all_eq_true.mp (List.all_eq_true.mp lad_all p (List.mem_range.mpr hp)) s (List.mem_range.mpr hs)
  obtain ⟨R, hR⟩ : ∃ R, R = rowsN p s := ⟨_, rfl⟩
  rw [← hR] at hlen hev hcnt hlad
  -- found
  have a4 : r4_law [.bo (.scr ns), q1, .sh (.int p), .sh (.int s), .un, .un, .un, .un, .un, .un, .un] = r7_law [.bo (.scr ns), q1, .sh (.int p), .sh (.int s), .ow (.lst (R.map crD)), .sh .non, .un, .un, .un, .un, .un] := by
    refine (gSeq_nx (ρ' := [.bo (.scr ns), q1, .sh (.int p), .sh (.int s), .ow (.lst (R.map crD)), .un, .un, .un, .un, .un, .un]) ?_).trans ((gSeq_nx (ρ' := [.bo (.scr ns), q1, .sh (.int p), .sh (.int s), .ow (.lst (R.map crD)), .un, .un, .un, .un, .un, .un]) ?_).trans (gSeq_nx ?_))
    · simp [runF, gSeq, gSetS, gSetF, gBnd, gIf, gFor, gRet, gRetO, gRetN, gNx, gMut, gDrop, gOn, gSetIx, gFrz, gLend, frz, fCa, fCons, fNil, fC, M.bnd, fVarP, fVarS, fVarB, fBin, fUn, fTst, fAnd, fOr, fNot, fAndV, fOrV, fNotV, fIf, fLst, fTup, fIt, fRng, fYes, up1, isBl, gPut, put, rho0, outB, musE, Kd.fr, mkOw, D.isMut, hNm, onSlot, onL, isOwL, uApp, abs_i, int_i, D.len, D.list, D.tupl, rng1, rng2, add_ii, sub_ii, mod_ii, div_ii, mul_ia, mul_ib, pow1018, lt_ii, le_ii, gt_ii, ge_ii, neg_i, D.isN, D.isNot, isNn, ixL, items_l, items_t, LIM, unLn, Out.upE, fCallF, outF, s4_law, fSm, isCls, hev]
    · simp only [s5_law, if_and, if_or, if_not]
      simp [runF, gSeq, gSetS, gSetF, gBnd, gIf, gFor, gRet, gRetO, gRetN, gNx, gMut, gDrop, gOn, gSetIx, gFrz, gLend, frz, fCa, fCons, fNil, fC, M.bnd, fVarP, fVarS, fVarB, fBin, fUn, fTst, fAnd, fOr, fNot, fAndV, fOrV, fNotV, fIf, fLst, fTup, fIt, fRng, fYes, up1, isBl, gPut, put, rho0, outB, musE, Kd.fr, mkOw, D.isMut, hNm, onSlot, onL, isOwL, uApp, abs_i, int_i, D.len, D.list, D.tupl, rng1, rng2, add_ii, sub_ii, mod_ii, div_ii, mul_ia, mul_ib, pow1018, lt_ii, le_ii, gt_ii, ge_ii, neg_i, D.isN, D.isNot, isNn, ixL, items_l, items_t, LIM, unLn, Out.upE, fCallF, outF, fIsi, isi_ll, hcnt, ne_ii]
    · simp [runF, gSeq, gSetS, gSetF, gBnd, gIf, gFor, gRet, gRetO, gRetN, gNx, gMut, gDrop, gOn, gSetIx, gFrz, gLend, frz, fCa, fCons, fNil, fC, M.bnd, fVarP, fVarS, fVarB, fBin, fUn, fTst, fAnd, fOr, fNot, fAndV, fOrV, fNotV, fIf, fLst, fTup, fIt, fRng, fYes, up1, isBl, gPut, put, rho0, outB, musE, Kd.fr, mkOw, D.isMut, hNm, onSlot, onL, isOwL, uApp, abs_i, int_i, D.len, D.list, D.tupl, rng1, rng2, add_ii, sub_ii, mod_ii, div_ii, mul_ia, mul_ib, pow1018, lt_ii, le_ii, gt_ii, ge_ii, neg_i, D.isN, D.isNot, isNn, ixL, items_l, items_t, LIM, unLn, Out.upE, fCallF, outF, s6_law]
  -- each of them
  obtain ⟨ρ', e, l5, q6, q7, q8, rfl, hl5, h6, h7, h8⟩ := loop_inv0 (h := hNm 6) (g := b2_law) (fun i ρ => ∃ l5 q6 q7 q8, ρ = [.bo (.scr ns), q1, .sh (.int p), .sh (.int s), .ln (.lst (R.map crD)), .sh l5, q6, q7, q8, .un, .un] ∧ ((i = 0 ∧ l5 = .non) ∨ ∃ row, 0 < i ∧ R[i - 1]? = some row ∧ l5 = encR row) ∧
      (q6 = .un ∨ ∃ d, q6 = .sh d) ∧ (q7 = .un ∨ ∃ d, q7 = .sh d) ∧ (q8 = .un ∨ ∃ d, q8 = .sh d)) (R.map crD) _ ⟨.non, .un, .un, .un, rfl, .inl ⟨rfl, rfl⟩, .inl rfl, .inl rfl, .inl rfl⟩ (by
    rintro i d ρ hi ⟨l5, q6, q7, q8, rfl, h5, h6, h7, h8⟩
    rw [List.getElem?_map] at hi
    cases er : R[i]? with
    | none => rw [er] at hi; cases hi
    | some row =>
      rw [er] at hi
      cases hi
      have Rw := good_row g (by rw [← hR]; exact List.mem_of_getElem? er)
      obtain ⟨q8', e8, h8'⟩ := inner_ok ns q1 (.sh l5) (.sh (crD row)) q8 (.lst (R.map crD)) p s row Rw hs h8
      have hs1 : (-16000000 : Int) ≤ s := by omega
      have hs2 : (s : Int) ≤ 16000000 := by omega
      have hlr : (row.length : Int) = s := by rw [Rw.len]
      refine ⟨[.bo (.scr ns), q1, .sh (.int p), .sh (.int s), .ln (.lst (R.map crD)), .sh l5, .sh (crD row), q7, q8, .un, .un], [.bo (.scr ns), q1, .sh (.int p), .sh (.int s), .ln (.lst (R.map crD)), .sh (encR row), .sh (crD row), .sh (encR row), q8', .un, .un], ?_, .inl ?_, _, _, _, _, rfl, .inr ⟨row, by omega, er, rfl⟩, .inr ⟨_, rfl⟩, .inr ⟨_, rfl⟩, h8'⟩
      · rcases h6 with rfl | ⟨d, rfl⟩ <;> simp [runF, gSeq, gSetS, gSetF, gBnd, gIf, gFor, gRet, gRetO, gRetN, gNx, gMut, gDrop, gOn, gSetIx, gFrz, gLend, frz, fCa, fCons, fNil, fC, M.bnd, fVarP, fVarS, fVarB, fBin, fUn, fTst, fAnd, fOr, fNot, fAndV, fOrV, fNotV, fIf, fLst, fTup, fIt, fRng, fYes, up1, isBl, gPut, put, rho0, outB, musE, Kd.fr, mkOw, D.isMut, hNm, onSlot, onL, isOwL, uApp, abs_i, int_i, D.len, D.list, D.tupl, rng1, rng2, add_ii, sub_ii, mod_ii, div_ii, mul_ia, mul_ib, pow1018, lt_ii, le_ii, gt_ii, ge_ii, neg_i, D.isN, D.isNot, isNn, ixL, items_l, items_t, LIM, unLn, Out.upE, fCallF, outF]
      · refine (gSeq_nx (ρ' := [.bo (.scr ns), q1, .sh (.int p), .sh (.int s), .ln (.lst (R.map crD)), .sh l5, .sh (crD row), q7, q8, .un, .un]) ?_).trans ((gSeq_nx (ρ' := [.bo (.scr ns), q1, .sh (.int p), .sh (.int s), .ln (.lst (R.map crD)), .sh l5, .sh (crD row), .sh (encR row), q8, .un, .un]) ?_).trans
          ((gSeq_nx (ρ' := [.bo (.scr ns), q1, .sh (.int p), .sh (.int s), .ln (.lst (R.map crD)), .sh l5, .sh (crD row), .sh (encR row), q8', .un, .un]) ?_).trans ((gSeq_nx (ρ' := [.bo (.scr ns), q1, .sh (.int p), .sh (.int s), .ln (.lst (R.map crD)), .sh l5, .sh (crD row), .sh (encR row), q8', .un, .un]) ?_).trans ?_)))
        · simp only [if_and, if_or, if_not]
          simp [runF, gSeq, gSetS, gSetF, gBnd, gIf, gFor, gRet, gRetO, gRetN, gNx, gMut, gDrop, gOn, gSetIx, gFrz, gLend, frz, fCa, fCons, fNil, fC, M.bnd, fVarP, fVarS, fVarB, fBin, fUn, fTst, fAnd, fOr, fNot, fAndV, fOrV, fNotV, fIf, fLst, fTup, fIt, fRng, fYes, up1, isBl, gPut, put, rho0, outB, musE, Kd.fr, mkOw, D.isMut, hNm, onSlot, onL, isOwL, uApp, abs_i, int_i, D.len, D.list, D.tupl, rng1, rng2, add_ii, sub_ii, mod_ii, div_ii, mul_ia, mul_ib, pow1018, lt_ii, le_ii, gt_ii, ge_ii, neg_i, D.isN, D.isNot, isNn, ixL, items_l, items_t, LIM, unLn, Out.upE, fCallF, outF, fIsi, crD, isi_oo, fldD, isi_tt, ne_ii, hlr]
        · rcases h7 with rfl | ⟨d, rfl⟩ <;> simp [runF, gSeq, gSetS, gSetF, gBnd, gIf, gFor, gRet, gRetO, gRetN, gNx, gMut, gDrop, gOn, gSetIx, gFrz, gLend, frz, fCa, fCons, fNil, fC, M.bnd, fVarP, fVarS, fVarB, fBin, fUn, fTst, fAnd, fOr, fNot, fAndV, fOrV, fNotV, fIf, fLst, fTup, fIt, fRng, fYes, up1, isBl, gPut, put, rho0, outB, musE, Kd.fr, mkOw, D.isMut, hNm, onSlot, onL, isOwL, uApp, abs_i, int_i, D.len, D.list, D.tupl, rng1, rng2, add_ii, sub_ii, mod_ii, div_ii, mul_ia, mul_ib, pow1018, lt_ii, le_ii, gt_ii, ge_ii, neg_i, D.isN, D.isNot, isNn, ixL, items_l, items_t, LIM, unLn, Out.upE, fCallF, outF, crD, fldD]
        · simp [runF, gSeq, gSetS, gSetF, gBnd, gIf, gFor, gRet, gRetO, gRetN, gNx, gMut, gDrop, gOn, gSetIx, gFrz, gLend, frz, fCa, fCons, fNil, fC, M.bnd, fVarP, fVarS, fVarB, fBin, fUn, fTst, fAnd, fOr, fNot, fAndV, fOrV, fNotV, fIf, fLst, fTup, fIt, fRng, fYes, up1, isBl, gPut, put, rho0, outB, musE, Kd.fr, mkOw, D.isMut, hNm, onSlot, onL, isOwL, uApp, abs_i, int_i, D.len, D.list, D.tupl, rng1, rng2, add_ii, sub_ii, mod_ii, div_ii, mul_ia, mul_ib, pow1018, lt_ii, le_ii, gt_ii, ge_ii, neg_i, D.isN, D.isNot, isNn, ixL, items_l, items_t, LIM, unLn, Out.upE, fCallF, outF, hs1, hs2, e8]
        · simp only [if_and, if_or, if_not]
          rcases h5 with ⟨_, rfl⟩ | ⟨r0, hi0, e0, rfl⟩
          · simp [runF, gSeq, gSetS, gSetF, gBnd, gIf, gFor, gRet, gRetO, gRetN, gNx, gMut, gDrop, gOn, gSetIx, gFrz, gLend, frz, fCa, fCons, fNil, fC, M.bnd, fVarP, fVarS, fVarB, fBin, fUn, fTst, fAnd, fOr, fNot, fAndV, fOrV, fNotV, fIf, fLst, fTup, fIt, fRng, fYes, up1, isBl, gPut, put, rho0, outB, musE, Kd.fr, mkOw, D.isMut, hNm, onSlot, onL, isOwL, uApp, abs_i, int_i, D.len, D.list, D.tupl, rng1, rng2, add_ii, sub_ii, mod_ii, div_ii, mul_ia, mul_ib, pow1018, lt_ii, le_ii, gt_ii, ge_ii, neg_i, D.isN, D.isNot, isNn, ixL, items_l, items_t, LIM, unLn, Out.upE, fCallF, outF]
          · have hx := lad_at (i := i - 1) hlad e0 (by rw [show i - 1 + 1 = i by omega]; exact er)
            simp [runF, gSeq, gSetS, gSetF, gBnd, gIf, gFor, gRet, gRetO, gRetN, gNx, gMut, gDrop, gOn, gSetIx, gFrz, gLend, frz, fCa, fCons, fNil, fC, M.bnd, fVarP, fVarS, fVarB, fBin, fUn, fTst, fAnd, fOr, fNot, fAndV, fOrV, fNotV, fIf, fLst, fTup, fIt, fRng, fYes, up1, isBl, gPut, put, rho0, outB, musE, Kd.fr, mkOw, D.isMut, hNm, onSlot, onL, isOwL, uApp, abs_i, int_i, D.len, D.list, D.tupl, rng1, rng2, add_ii, sub_ii, mod_ii, div_ii, mul_ia, mul_ib, pow1018, lt_ii, le_ii, gt_ii, ge_ii, neg_i, D.isN, D.isNot, isNn, ixL, items_l, items_t, LIM, unLn, Out.upE, fCallF, outF, encR, lt_tI, hx]
        · simp [runF, gSeq, gSetS, gSetF, gBnd, gIf, gFor, gRet, gRetO, gRetN, gNx, gMut, gDrop, gOn, gSetIx, gFrz, gLend, frz, fCa, fCons, fNil, fC, M.bnd, fVarP, fVarS, fVarB, fBin, fUn, fTst, fAnd, fOr, fNot, fAndV, fOrV, fNotV, fIf, fLst, fTup, fIt, fRng, fYes, up1, isBl, gPut, put, rho0, outB, musE, Kd.fr, mkOw, D.isMut, hNm, onSlot, onL, isOwL, uApp, abs_i, int_i, D.len, D.list, D.tupl, rng1, rng2, add_ii, sub_ii, mod_ii, div_ii, mul_ia, mul_ib, pow1018, lt_ii, le_ii, gt_ii, ge_ii, neg_i, D.isN, D.isNot, isNn, ixL, items_l, items_t, LIM, unLn, Out.upE, fCallF, outF])
  have e : loopG (hNm 6) b2_law (R.map crD) [.bo (.scr ns), q1, .sh (.int p), .sh (.int s), .ln (.lst (R.map crD)), .sh .non, .un, .un, .un, .un, .un] = some (.nx [.bo (.scr ns), q1, .sh (.int p), .sh (.int s), .ln (.lst (R.map crD)), .sh l5, q6, q7, q8, .un, .un]) := e
  have i1 : Fn_Crowd___init__ [.obj 0 [], .tup []] = some (.ret true .non [.obj 0 [.tup []]]) := init_ok [] (by simp) (by decide) true
  have i2 : Fn_Crowd___init__ [.obj 0 [], .lst [.int p, .int s]] = some (.ret true .non [.obj 0 [.tup ((srt [(p : Int), (s : Int)]).map D.int)]]) := init_ok [(p : Int), (s : Int)] (by simp) (by simp) false
  have hR6 : R.length < 16000000 := by omega
  have a7 : r7_law [.bo (.scr ns), q1, .sh (.int p), .sh (.int s), .ow (.lst (R.map crD)), .sh .non, .un, .un, .un, .un, .un] = r11_law [.bo (.scr ns), q1, .sh (.int p), .sh (.int s), .ow (.lst (R.map crD ++ [.obj 0 [.tup []]])), .sh l5, q6, q7, q8, .sh (.lst (R.map crD)), .sh (.lst (R.map crD))] := by
    refine (gSeq_nx (ρ' := [.bo (.scr ns), q1, .sh (.int p), .sh (.int s), .ow (.lst (R.map crD)), .sh l5, q6, q7, q8, .un, .un]) ?_).trans ((gSeq_nx (ρ' := [.bo (.scr ns), q1, .sh (.int p), .sh (.int s), .ow (.lst (R.map crD ++ [.obj 0 [.tup []]])), .sh l5, q6, q7, q8, .un, .un]) ?_).trans
      ((gSeq_nx (ρ' := [.bo (.scr ns), q1, .sh (.int p), .sh (.int s), .ow (.lst (R.map crD ++ [.obj 0 [.tup []]])), .sh l5, q6, q7, q8, .sh (.lst (R.map crD)), .un]) ?_).trans (gSeq_nx ?_)))
    · simp [runF, gSeq, gSetS, gSetF, gBnd, gIf, gFor, gRet, gRetO, gRetN, gNx, gMut, gDrop, gOn, gSetIx, gFrz, gLend, frz, fCa, fCons, fNil, fC, M.bnd, fVarP, fVarS, fVarB, fBin, fUn, fTst, fAnd, fOr, fNot, fAndV, fOrV, fNotV, fIf, fLst, fTup, fIt, fRng, fYes, up1, isBl, gPut, put, rho0, outB, musE, Kd.fr, mkOw, D.isMut, hNm, onSlot, onL, isOwL, uApp, abs_i, int_i, D.len, D.list, D.tupl, rng1, rng2, add_ii, sub_ii, mod_ii, div_ii, mul_ia, mul_ib, pow1018, lt_ii, le_ii, gt_ii, ge_ii, neg_i, D.isN, D.isNot, isNn, ixL, items_l, items_t, LIM, unLn, Out.upE, fCallF, outF, s7_law, e]
    · simp [runF, gSeq, gSetS, gSetF, gBnd, gIf, gFor, gRet, gRetO, gRetN, gNx, gMut, gDrop, gOn, gSetIx, gFrz, gLend, frz, fCa, fCons, fNil, fC, M.bnd, fVarP, fVarS, fVarB, fBin, fUn, fTst, fAnd, fOr, fNot, fAndV, fOrV, fNotV, fIf, fLst, fTup, fIt, fRng, fYes, up1, isBl, gPut, put, rho0, outB, musE, Kd.fr, mkOw, D.isMut, hNm, onSlot, onL, isOwL, uApp, abs_i, int_i, D.len, D.list, D.tupl, rng1, rng2, add_ii, sub_ii, mod_ii, div_ii, mul_ia, mul_ib, pow1018, lt_ii, le_ii, gt_ii, ge_ii, neg_i, D.isN, D.isNot, isNn, ixL, items_l, items_t, LIM, unLn, Out.upE, fCallF, outF, s8_law, fMk, i1, outM, hR6]
    · simp [runF, gSeq, gSetS, gSetF, gBnd, gIf, gFor, gRet, gRetO, gRetN, gNx, gMut, gDrop, gOn, gSetIx, gFrz, gLend, frz, fCa, fCons, fNil, fC, M.bnd, fVarP, fVarS, fVarB, fBin, fUn, fTst, fAnd, fOr, fNot, fAndV, fOrV, fNotV, fIf, fLst, fTup, fIt, fRng, fYes, up1, isBl, gPut, put, rho0, outB, musE, Kd.fr, mkOw, D.isMut, hNm, onSlot, onL, isOwL, uApp, abs_i, int_i, D.len, D.list, D.tupl, rng1, rng2, add_ii, sub_ii, mod_ii, div_ii, mul_ia, mul_ib, pow1018, lt_ii, le_ii, gt_ii, ge_ii, neg_i, D.isN, D.isNot, isNn, ixL, items_l, items_t, LIM, unLn, Out.upE, fCallF, outF, s9_law, fSm, isCls, hev]
    · simp [runF, gSeq, gSetS, gSetF, gBnd, gIf, gFor, gRet, gRetO, gRetN, gNx, gMut, gDrop, gOn, gSetIx, gFrz, gLend, frz, fCa, fCons, fNil, fC, M.bnd, fVarP, fVarS, fVarB, fBin, fUn, fTst, fAnd, fOr, fNot, fAndV, fOrV, fNotV, fIf, fLst, fTup, fIt, fRng, fYes, up1, isBl, gPut, put, rho0, outB, musE, Kd.fr, mkOw, D.isMut, hNm, onSlot, onL, isOwL, uApp, abs_i, int_i, D.len, D.list, D.tupl, rng1, rng2, add_ii, sub_ii, mod_ii, div_ii, mul_ia, mul_ib, pow1018, lt_ii, le_ii, gt_ii, ge_ii, neg_i, D.isN, D.isNot, isNn, ixL, items_l, items_t, LIM, unLn, Out.upE, fCallF, outF, s10_law, fSm, isObj, fMk, i2, outM, hev]
  have c1 : ∀ ρ1 ρ2 : Sl, compG (hNm 6) fYes e1_law [.bo (.scr ns), q1, .sh (.int p), .sh (.int s), .ow (.lst (R.map crD ++ [.obj 0 [.tup []]])), .sh l5, .un, q7, q8, ρ1, ρ2] (R.map crD) = some (R.map encR) := fun ρ1 ρ2 =>
    compG_all crD encR R fun row _ => ⟨[.bo (.scr ns), q1, .sh (.int p), .sh (.int s), .ow (.lst (R.map crD ++ [.obj 0 [.tup []]])), .sh l5, .sh (crD row), q7, q8, ρ1, ρ2], by simp [runF, gSeq, gSetS, gSetF, gBnd, gIf, gFor, gRet, gRetO, gRetN, gNx, gMut, gDrop, gOn, gSetIx, gFrz, gLend, frz, fCa, fCons, fNil, fC, M.bnd, fVarP, fVarS, fVarB, fBin, fUn, fTst, fAnd, fOr, fNot, fAndV, fOrV, fNotV, fIf, fLst, fTup, fIt, fRng, fYes, up1, isBl, gPut, put, rho0, outB, musE, Kd.fr, mkOw, D.isMut, hNm, onSlot, onL, isOwL, uApp, abs_i, int_i, D.len, D.list, D.tupl, rng1, rng2, add_ii, sub_ii, mod_ii, div_ii, mul_ia, mul_ib, pow1018, lt_ii, le_ii, gt_ii, ge_ii, neg_i, D.isN, D.isNot, isNn, ixL, items_l, items_t, LIM, unLn, Out.upE, fCallF, outF], by simp [runF, gSeq, gSetS, gSetF, gBnd, gIf, gFor, gRet, gRetO, gRetN, gNx, gMut, gDrop, gOn, gSetIx, gFrz, gLend, frz, fCa, fCons, fNil, fC, M.bnd, fVarP, fVarS, fVarB, fBin, fUn, fTst, fAnd, fOr, fNot, fAndV, fOrV, fNotV, fIf, fLst, fTup, fIt, fRng, fYes, up1, isBl, gPut, put, rho0, outB, musE, Kd.fr, mkOw, D.isMut, hNm, onSlot, onL, isOwL, uApp, abs_i, int_i, D.len, D.list, D.tupl, rng1, rng2, add_ii, sub_ii, mod_ii, div_ii, mul_ia, mul_ib, pow1018, lt_ii, le_ii, gt_ii, ge_ii, neg_i, D.isN, D.isNot, isNn, ixL, items_l, items_t, LIM, unLn, Out.upE, fCallF, outF, e1_law, crD, fldD]⟩
  have c2 : ∀ ρ1 ρ2 : Sl, compG (hNm 6) fYes e2_law [.bo (.scr ns), q1, .sh (.int p), .sh (.int s), .ow (.lst (R.map crD ++ [.obj 0 [.tup []]])), .sh l5, .un, q7, q8, ρ1, ρ2] (R.map crD) = some (R.map encR) := fun ρ1 ρ2 =>
    compG_all crD encR R fun row _ => ⟨[.bo (.scr ns), q1, .sh (.int p), .sh (.int s), .ow (.lst (R.map crD ++ [.obj 0 [.tup []]])), .sh l5, .sh (crD row), q7, q8, ρ1, ρ2], by simp [runF, gSeq, gSetS, gSetF, gBnd, gIf, gFor, gRet, gRetO, gRetN, gNx, gMut, gDrop, gOn, gSetIx, gFrz, gLend, frz, fCa, fCons, fNil, fC, M.bnd, fVarP, fVarS, fVarB, fBin, fUn, fTst, fAnd, fOr, fNot, fAndV, fOrV, fNotV, fIf, fLst, fTup, fIt, fRng, fYes, up1, isBl, gPut, put, rho0, outB, musE, Kd.fr, mkOw, D.isMut, hNm, onSlot, onL, isOwL, uApp, abs_i, int_i, D.len, D.list, D.tupl, rng1, rng2, add_ii, sub_ii, mod_ii, div_ii, mul_ia, mul_ib, pow1018, lt_ii, le_ii, gt_ii, ge_ii, neg_i, D.isN, D.isNot, isNn, ixL, items_l, items_t, LIM, unLn, Out.upE, fCallF, outF], by simp [runF, gSeq, gSetS, gSetF, gBnd, gIf, gFor, gRet, gRetO, gRetN, gNx, gMut, gDrop, gOn, gSetIx, gFrz, gLend, frz, fCa, fCons, fNil, fC, M.bnd, fVarP, fVarS, fVarB, fBin, fUn, fTst, fAnd, fOr, fNot, fAndV, fOrV, fNotV, fIf, fLst, fTup, fIt, fRng, fYes, up1, isBl, gPut, put, rho0, outB, musE, Kd.fr, mkOw, D.isMut, hNm, onSlot, onL, isOwL, uApp, abs_i, int_i, D.len, D.list, D.tupl, rng1, rng2, add_ii, sub_ii, mod_ii, div_ii, mul_ia, mul_ib, pow1018, lt_ii, le_ii, gt_ii, ge_ii, neg_i, D.isN, D.isNot, isNn, ixL, items_l, items_t, LIM, unLn, Out.upE, fCallF, outF, e2_law, crD, fldD]⟩
  have hn' : (R.map encR).length ≤ 16000000 := by rw [List.length_map]; omega
  have d1 : D.eq (.lst (R.map encR)) (.lst (R.map encR)) = some (.bl true) := by
    have := EqEnc.int.tup.lst.deq (by decide) R R
    rw [decide_eq_true rfl] at this
    exact this
  rw [a4, a7]
  refine ⟨[q1, .sh (.int p), .sh (.int s), .ow (.lst (R.map crD ++ [.obj 0 [.tup []]])), .sh l5, q6, q7, q8, .sh (.lst (R.map crD)), .sh (.lst (R.map crD))], ?_⟩
  have hx : (R.length : Int) = ((R.length : Int) + 1) - 1 := by omega
  simp [runF, gSeq, gSetS, gSetF, gBnd, gIf, gFor, gRet, gRetO, gRetN, gNx, gMut, gDrop, gOn, gSetIx, gFrz, gLend, frz, fCa, fCons, fNil, fC, M.bnd, fVarP, fVarS, fVarB, fBin, fUn, fTst, fAnd, fOr, fNot, fAndV, fOrV, fNotV, fIf, fLst, fTup, fIt, fRng, fYes, up1, isBl, gPut, put, rho0, outB, musE, Kd.fr, mkOw, D.isMut, hNm, onSlot, onL, isOwL, uApp, abs_i, int_i, D.len, D.list, D.tupl, rng1, rng2, add_ii, sub_ii, mod_ii, div_ii, mul_ia, mul_ib, pow1018, lt_ii, le_ii, gt_ii, ge_ii, neg_i, D.isN, D.isNot, isNn, ixL, items_l, items_t, LIM, unLn, Out.upE, fCallF, outF, r11_law, s11_law, fLc, wipeE, c1, c2, limL_ok hn', fIsi, isi_ll, eq_ii, d1]
theorem law_true (ns : List Int) (hl : ns.length ≤ 63) : ∃ fr, Fn_law [.scr ns] = some (.ret fr (.bl true) []) := by
  obtain ⟨c, hc⟩ := cell_ok ns 0 hl
  obtain ⟨l, h1, h2, hd⟩ := draws_ok c 2 (by decide) (by decide)
  match l, h1 with
  | [x, y], _ =>
    have hc' : Fn__law_cell [.scr ns, .int 0] = some (.ret true (.int c) []) := hc
    have hx := h2 x (by simp)
    have hy := h2 y (by simp)
    obtain ⟨p, hp⟩ : ∃ p : Nat, (p : Int) = (x + 4) % 7 := ⟨((x + 4) % 7).toNat, by omega⟩
    obtain ⟨s, hs⟩ : ∃ s : Nat, (s : Int) = (y + 3) % 7 := ⟨((y + 3) % 7).toNat, by omega⟩
    have e : r1_law [.bo (.scr ns), .un, .un, .un, .un, .un, .un, .un, .un, .un, .un] = r4_law [.bo (.scr ns), .sh (.lst [.int x, .int y]), .sh (.int p), .sh (.int s), .un, .un, .un, .un, .un, .un, .un] := by
      refine (gSeq_nx (ρ' := [.bo (.scr ns), .sh (.lst [.int x, .int y]), .un, .un, .un, .un, .un, .un, .un, .un, .un]) ?_).trans ((gSeq_nx (ρ' := [.bo (.scr ns), .sh (.lst [.int x, .int y]), .sh (.int p), .un, .un, .un, .un, .un, .un, .un, .un]) ?_).trans (gSeq_nx ?_))
      · simp [runF, gSeq, gSetS, gSetF, gBnd, gIf, gFor, gRet, gRetO, gRetN, gNx, gMut, gDrop, gOn, gSetIx, gFrz, gLend, frz, fCa, fCons, fNil, fC, M.bnd, fVarP, fVarS, fVarB, fBin, fUn, fTst, fAnd, fOr, fNot, fAndV, fOrV, fNotV, fIf, fLst, fTup, fIt, fRng, fYes, up1, isBl, gPut, put, rho0, outB, musE, Kd.fr, mkOw, D.isMut, hNm, onSlot, onL, isOwL, uApp, abs_i, int_i, D.len, D.list, D.tupl, rng1, rng2, add_ii, sub_ii, mod_ii, div_ii, mul_ia, mul_ib, pow1018, lt_ii, le_ii, gt_ii, ge_ii, neg_i, D.isN, D.isNot, isNn, ixL, items_l, items_t, LIM, unLn, Out.upE, fCallF, outF, s1_law, hc', hd]
      · have : atI [D.int x, D.int y] 0 = some (.int x) := rfl
        simp [runF, gSeq, gSetS, gSetF, gBnd, gIf, gFor, gRet, gRetO, gRetN, gNx, gMut, gDrop, gOn, gSetIx, gFrz, gLend, frz, fCa, fCons, fNil, fC, M.bnd, fVarP, fVarS, fVarB, fBin, fUn, fTst, fAnd, fOr, fNot, fAndV, fOrV, fNotV, fIf, fLst, fTup, fIt, fRng, fYes, up1, isBl, gPut, put, rho0, outB, musE, Kd.fr, mkOw, D.isMut, hNm, onSlot, onL, isOwL, uApp, abs_i, int_i, D.len, D.list, D.tupl, rng1, rng2, add_ii, sub_ii, mod_ii, div_ii, mul_ia, mul_ib, pow1018, lt_ii, le_ii, gt_ii, ge_ii, neg_i, D.isN, D.isNot, isNn, ixL, items_l, items_t, LIM, unLn, Out.upE, fCallF, outF, s2_law, this, hp]
      · have : atI [D.int x, D.int y] 1 = some (.int y) := rfl
        simp [runF, gSeq, gSetS, gSetF, gBnd, gIf, gFor, gRet, gRetO, gRetN, gNx, gMut, gDrop, gOn, gSetIx, gFrz, gLend, frz, fCa, fCons, fNil, fC, M.bnd, fVarP, fVarS, fVarB, fBin, fUn, fTst, fAnd, fOr, fNot, fAndV, fOrV, fNotV, fIf, fLst, fTup, fIt, fRng, fYes, up1, isBl, gPut, put, rho0, outB, musE, Kd.fr, mkOw, D.isMut, hNm, onSlot, onL, isOwL, uApp, abs_i, int_i, D.len, D.list, D.tupl, rng1, rng2, add_ii, sub_ii, mod_ii, div_ii, mul_ia, mul_ib, pow1018, lt_ii, le_ii, gt_ii, ge_ii, neg_i, D.isN, D.isNot, isNn, ixL, items_l, items_t, LIM, unLn, Out.upE, fCallF, outF, s3_law, this, hs]
    obtain ⟨ρ', et⟩ := tail_true ns (.sh (.lst [.int x, .int y])) p s (by omega) (by omega)
    refine ⟨true, ?_⟩
    show outB [.bo] (r1_law [.bo (.scr ns), .un, .un, .un, .un, .un, .un, .un, .un, .un, .un]) = _
    rw [e, et]
    rfl
end DL

namespace DL
open PySem PySem.Spec L2
/-! ### the head -/
def d__law_draws : He5.DefA := ⟨fun K => He.ga K "_law_draws", "_law_draws", "_law_draws", defArgs s__law_draws, defBody s__law_draws, defScope s__law_draws, [], []⟩
def d__law_cell : He5.DefA := ⟨fun K => He.ga K "_law_cell", "_law_cell", "_law_cell", defArgs s__law_cell, defBody s__law_cell, defScope s__law_cell, [], []⟩
def dA_Crowd___init___0 : PySem.W.Frag → Addr := He.dflAt ("Crowd", some "__init__") 0
def d_Crowd___init__ : He5.DefA := ⟨fun K => He.ma K (He.ga K "Crowd") "__init__", "__init__", "Crowd.__init__", defArgs s_Crowd___init__, defBody s_Crowd___init__, defScope s_Crowd___init__, [.adr (dA_Crowd___init___0)], []⟩
def d_Crowd_every : He5.DefA := ⟨fun K => smAt K "Crowd" "every", "every", "Crowd.every", defArgs s_Crowd_every, defBody s_Crowd_every, defScope s_Crowd_every, [], []⟩
def d__law_count : He5.DefA := ⟨fun K => He.ga K "_law_count", "_law_count", "_law_count", defArgs s__law_count, defBody s__law_count, defScope s__law_count, [], []⟩
def d__law_is_integer : He5.DefA := ⟨fun K => He.ga K "_law_is_integer", "_law_is_integer", "_law_is_integer", defArgs s__law_is_integer, defBody s__law_is_integer, defScope s__law_is_integer, [], []⟩
def d_law : He5.DefA := ⟨fun K => He.ga K "law", "law", "law", defArgs s_law, defBody s_law, defScope s_law, [], []⟩
def cl (K : PySem.W.Frag) : CL := [(0, He.ga K "Crowd", (["members"] : List Str))]
def fa : List He.Fa := [.glo "Crowd", .free "abs", .free "bool", .free "int", .free "isinstance", .free "len", .free "list", .free "range", .free "sorted", .free "tuple", .glo "_law_draws", .glo "_law_cell", .glo "_law_count", .glo "_law_is_integer", .glo "law", .mkr "Crowd"]
def ex : List (PySem.W.Frag → Bool) := [fun K => gB K (cl K), fun K => et0 K (dA_Crowd___init___0 K), fun K => siB K "Crowd" "every", fun K => smB K "Crowd" "every"]
def fn : List He5.DefA := [d__law_draws, d__law_cell, d_Crowd___init__, d_Crowd_every, d__law_count, d__law_is_integer, d_law]
abbrev R : PySem.W.OpenRow := PySem.W.OpenLaw.row PySem.Challenge.rw_notedepth_k05_crowd_every
abbrev hk : PySem.W.Hook := hookH 5 fa ex fn
def ob (s : PySem.W.SharedT) : He.AlD := obsHG 5 fa ex fn (HandSHeadRun.getT s)
theorem ob_eq (s : PySem.W.SharedT) : ob s = hk.obs s.abs := obsHG_eq (HandSHeadRun.getT_eq s)
def loose : List Str := (["_wall", "NoteError", "CrowdError", "Crowd", "_law_is_integer", "_law_cell", "_law_draws", "_law_count"] : List Str)
theorem run (w : World) : HandSHeadRun.RunEq R (PySem.W.view R.prog [11]) hk ob 4000 loose w := by
  intro os
  kernel_rfl
theorem facts {P : Program} {w : World} {K : PySem.W.Frag} {h : Heap} {mg : Str → Option Value} {f : Addr} (X : K.In h) (GG : h.Ns mainGlobals mg) (hfa : mg ("law" : Str) = some (.ref f)) (c : SaysH fa ex fn K) :
    ∃ fd : FuncData, (∀ (s : Shared) (v : Value), BindsTo s fd ⟨[v], []⟩ [("_law_script", v)]) ∧ ∀ base : Heap, K.In base → base.Ns mainGlobals mg → FnOk P w K mg base (L2N.CX P w) 4 f fd ["_law_script"] (spLw K) := by
  obtain ⟨fd__law_draws, F__law_draws⟩ := c.def_ 0 (q := d__law_draws) rfl
  obtain ⟨fd__law_cell, F__law_cell⟩ := c.def_ 1 (q := d__law_cell) rfl
  obtain ⟨fd_Crowd___init__, F_Crowd___init__⟩ := c.def_ 2 (q := d_Crowd___init__) rfl
  obtain ⟨fd_Crowd_every, F_Crowd_every⟩ := c.def_ 3 (q := d_Crowd_every) rfl
  obtain ⟨fd__law_count, F__law_count⟩ := c.def_ 4 (q := d__law_count) rfl
  obtain ⟨fd__law_is_integer, F__law_is_integer⟩ := c.def_ 5 (q := d__law_is_integer) rfl
  obtain ⟨fd_law, F_law⟩ := c.def_ 6 (q := d_law) rfl
  have ef := hfa.symm.trans (He.glo_ok X GG (c.fact 14 (q := .glo "law") rfl))
  cases ef
  obtain ⟨o0_Crowd, i0_Crowd, n0_Crowd, e0_Crowd⟩ := et0_ok (c.test 1)
  have b0_Crowd___init__ : Binds K fd_Crowd___init__ (["self", "locations"] : List Str) [.ref (dA_Crowd___init___0 K)] := by
    obtain ⟨ds, hv, hb⟩ := FunD.binds1 F_Crowd___init__ 1 0 (by intro z; cases z) rfl (ps := (["self", "locations"] : List Str)) (fun _ _ _ _ _ _ _ us its hu hi => match us, its, hu, hi with | [_], [_], _, _ => ⟨_, rfl, rfl⟩)
    cases hv with
    | cons h1 h2 =>
      cases h2
      cases h1
      exact hb
  have b__law_draws : Binds K fd__law_draws (["_law_cell_here", "_law_many"] : List Str) [] := FunD.bindsN F__law_draws fun _ _ _ _ _ _ us hl => match us, hl with | [_, _], _ => rfl
  have b__law_cell : Binds K fd__law_cell (["_law_script", "_law_k"] : List Str) [] := FunD.bindsN F__law_cell fun _ _ _ _ _ _ us hl => match us, hl with | [_, _], _ => rfl
  have b_Crowd___init__ : Binds K fd_Crowd___init__ (["self", "locations"] : List Str) [] := bindsAll F_Crowd___init__ (by intro z; cases z) (fun _ _ _ _ _ _ _ us its hu hi => match us, its, hu, hi with | [_, _], [_], _, _ => ⟨_, rfl, rfl⟩)
  have b_Crowd_every : Binds K fd_Crowd_every (["locations", "size"] : List Str) [] := FunD.bindsN F_Crowd_every fun _ _ _ _ _ _ us hl => match us, hl with | [_, _], _ => rfl
  have b__law_count : Binds K fd__law_count (["_law_places", "_law_size"] : List Str) [] := FunD.bindsN F__law_count fun _ _ _ _ _ _ us hl => match us, hl with | [_, _], _ => rfl
  have b__law_is_integer : Binds K fd__law_is_integer (["_law_x"] : List Str) [] := FunD.bindsN F__law_is_integer fun _ _ _ _ _ _ us hl => match us, hl with | [_], _ => rfl
  have b_law : Binds K fd_law (["_law_script"] : List Str) [] := FunD.bindsN F_law fun _ _ _ _ _ _ us hl => match us, hl with | [_], _ => rfl
  have bl := FunD.bindsA (ps := ["_law_script"]) F_law fun _ _ _ _ _ _ us hl => match us, hl with | [_], _ => rfl
  refine ⟨fd_law, fun s v => bl s [v] rfl, fun base _ _ => ?_⟩
  exact (ok_law (G := ⟨P, w, K, mg, base, ctOf (cl K)⟩) { gok := gok_of (l := cl K) rfl (c.test 0), C_Crowd := He.ga K "Crowd", ct_Crowd := rfl, mg_Crowd := He.glo_ok X GG (c.fact 0 (q := .glo "Crowd") rfl), m_abs := He.free_ok X GG (c.fact 1 (q := .free "abs") rfl), m_bool := He.free_ok X GG (c.fact 2 (q := .free "bool") rfl), m_int := He.free_ok X GG (c.fact 3 (q := .free "int") rfl), m_isinstance := He.free_ok X GG (c.fact 4 (q := .free "isinstance") rfl), m_len := He.free_ok X GG (c.fact 5 (q := .free "len") rfl), m_list := He.free_ok X GG (c.fact 6 (q := .free "list") rfl), m_range := He.free_ok X GG (c.fact 7 (q := .free "range") rfl), m_sorted := He.free_ok X GG (c.fact 8 (q := .free "sorted") rfl), m_tuple := He.free_ok X GG (c.fact 9 (q := .free "tuple") rfl), f__law_draws := _, fd__law_draws := fd__law_draws, F__law_draws := F__law_draws, b__law_draws := b__law_draws, g__law_draws := He.glo_ok X GG (c.fact 10 (q := .glo "_law_draws") rfl), f__law_cell := _, fd__law_cell := fd__law_cell, F__law_cell := F__law_cell, b__law_cell := b__law_cell, g__law_cell := He.glo_ok X GG (c.fact 11 (q := .glo "_law_cell") rfl), f_Crowd___init__ := _, fd_Crowd___init__ := fd_Crowd___init__, t_Crowd___init___0 := dA_Crowd___init___0 K, F_Crowd___init__ := F_Crowd___init__, b_Crowd___init__ := b_Crowd___init__, f_Crowd_every := _, fd_Crowd_every := fd_Crowd_every, F_Crowd_every := F_Crowd_every, b_Crowd_every := b_Crowd_every, f__law_count := _, fd__law_count := fd__law_count, F__law_count := F__law_count, b__law_count := b__law_count, g__law_count := He.glo_ok X GG (c.fact 12 (q := .glo "_law_count") rfl), f__law_is_integer := _, fd__law_is_integer := fd__law_is_integer, F__law_is_integer := F__law_is_integer, b__law_is_integer := b__law_is_integer, g__law_is_integer := He.glo_ok X GG (c.fact 13 (q := .glo "_law_is_integer") rfl), f_law := _, fd_law := fd_law, F_law := F_law, b_law := b_law, g_law := He.glo_ok X GG (c.fact 14 (q := .glo "law") rfl), b0_Crowd___init__ := b0_Crowd___init__, o0_Crowd := o0_Crowd, i0_Crowd := i0_Crowd, n0_Crowd := n0_Crowd, e0_Crowd := e0_Crowd, mk_Crowd := He.mkr_ok (c.fact 15 (q := .mkr "Crowd") rfl), si_Crowd_every := siB_ok (c.test 2) (c.test 3), p_Crowd_every := _, sm_Crowd_every := smB_ok (c.test 3) }).imp (law_imp (G := ⟨P, w, K, mg, base, ctOf (cl K)⟩) law_true)
end DL
open PySem PySem.W PySem.Calls PyProof.Rows
set_option maxRecDepth 100000 in
set_option maxHeartbeats 0 in
theorem PySem.Challenge.cw_notedepth_k05_crowd_every_holds : PySem.Challenge.rw_notedepth_k05_crowd_every.Holds := by
  w_on; o_law
  refine HandSHeadRun.head_any (r := OpenLaw.row PySem.Challenge.rw_notedepth_k05_crowd_every) (q := view (OpenLaw.row PySem.Challenge.rw_notedepth_k05_crowd_every).prog [11]) (H := DL.hk) (ob := DL.ob) (M := 4000) (loose := DL.loose) (d := HandSHeadRun.topDef (OpenLaw.row PySem.Challenge.rw_notedepth_k05_crowd_every).prog 11) (kwd := []) DL.ob_eq
    (by kernel_rfl) (fun s => by kernel_rfl) DL.run (by kernel_rfl) (by kernel_rfl) (by kernel_rfl) (by rfl) (by first | assumption | decide +kernel) (by decide +kernel) ⟨rfl, rfl, rfl, rfl, rfl, by decide +kernel⟩ ?hw ?hc
  case hw => w_witness2
  case hc =>
    refine DL.walkD (l := PySem.Challenge.rw_notedepth_k05_crowd_every) (n := 63) (k := 4) (x := "_law_script") rfl (by decide) (by kernel_rfl) ⟨rfl, by decide, by decide⟩ ?F
    intro w mg fa h Y GG hmg0
    obtain ⟨K, KX, c⟩ := Y
    have hmg : mg ("law" : PySem.Str) = some (.ref fa) := by
      have e : (HandSHeadRun.topDef (OpenLaw.row PySem.Challenge.rw_notedepth_k05_crowd_every).prog 11).name = ("law" : PySem.Str) := by kernel_rfl
      rw [← e]
      exact hmg0
    obtain ⟨fd, hb, hF⟩ := DL.facts (P := (PySem.Challenge.rw_notedepth_k05_crowd_every).prog) (w := w) KX GG hmg c
    exact ⟨K, fd, DL.spLw K, KX, hb, fun H a ns hl _ hS => ⟨a, ns, rfl, hS, hl, fun _ => rfl⟩, hF⟩


